import PyProof.Rows.All
import Wide.All
import OpenK.AllK
import Wide.FinOn
import KE.KExcSuper
import HandS.ForMost
import HandS.ForExc
import HandS.ExcInit
import HandS.ExcField
import HandS.ExcIs
import HandS.IsInst
import KE.KExcIs
import HandS.Nested
import HandS.HotCalls
import KE.GoesEnum
import KE.GoesMore
import HandS.Walk
import KE.KTupSum
import HandS.Comp
import HandS.Codes
import HandS.CallSlots
import HandS.Defaults
import HandS.MakeKw
import HandS.Wide
import HandS.Evl
import HandS.TupAny
import HandS.SlotsOwn
import HandS.OwnEq
import HandS.MakeKwOnly
import HandS.TupMul
import HandS.Conv
import HandS.Style
import PySem.Challenge.RW_pebblesreach_k13_tree_line
set_option Elab.async false
set_option linter.all false
set_option maxRecDepth 100000
set_option maxHeartbeats 4000000
/-! Errors of the package: __init__ begins with super().__init__(..); isinstance and fields of a caught error; calls within an except suite. -/
namespace SI
open PySem PySem.Spec PyProof.Rows L2 NdefX

/-! ### super().__init__(e0), then the rest -/
structure SupF (P : Program) (K : PySem.W.Frag) (mg : Str → Option Value) (C fI : Addr) (qual : Str) (params : Arguments) (e0 : Expr) (rest : List Stmt) (scope : Scope) (p0 p1 p2 p3 p4 : Pos) (fd : FuncData) : Prop where
  ex : ∃ (oc : Value) (od : Option Addr) (kV doc pm : Value) (an : Option Addr) (ct : Value) (osl : Array (Option Value)) (cc cda : Addr)
      (q1 : Value) (q2 : Option Addr) (q3 : Array (Option Value)) (r1 : Value) (r2 : Option Addr) (vs : Array Value) (r3 : Array (Option Value)) (file : Str) (tf : Tok),
    fd = PySem.W.fnX "__init__" qual params (.Expr (.Call (.Attribute (.Call (.Name "super" p0) [] [] p1) "__init__" p2) [e0] [] p3) p4 :: rest) scope [("__class__", cc)] .none kV doc pm an (.ref cda) ct ∧
    K.lookup fI = some ⟨oc, od, .func fd, osl⟩ ∧ PySem.W.codeIn K (.ref cda) qual = true ∧
    K.lookup cda = some ⟨r1, r2, .fields vs, r3⟩ ∧ vs[2]? = some (.str file tf) ∧ (P.main.file == file) = true ∧
    K.lookup cc = some ⟨q1, q2, .cell (some (.ref C)), q3⟩
  oex : OexC K C
  self : PySem.W.mroIn K C (.ref C) = some true
  sup : PySem.W.ks_superIn K C C "__init__" = some (some (.builtin "ValueError.__init__"))
  sub : PySem.W.subIn K (.ref C) (.type "ValueError") = some true
  mg0 : mg "super" = none
  any : PySem.W.nsIn K cStatics "thirdparty.any" = some none
  top : (P.main.scope.names.lookup ("super" : Str)).isSome = false

/-- ValueError.__init__ bound to the exception at x (the object at u), called -/
theorem call_mw {prog : Program} {w : World} {A : Around} {E : Value → Shared → Prop} {h : Heap} {g : Array GenState} {d : Drawn} {t : Nat} {os : OsState}
    {nm q : Str} {C N : Addr} {bs bm : List Value} {hdct : Bool} {sn : List Str} {sub : List Value} {ab : Bool} {col : Option Bool} {dd : Option Addr} {k0 k1 k2 k3 k5 : Option Value}
    {u x t0 : Addr} {rest : List Value} {Q : Value → Shared → Prop}
    (hC : h.get? C = some (excClassObj nm q C N bs bm hdct sn sub ab col dd k0 k1 k2 k3 k5 "ValueError.__new__")) (hx : h.get? x = some (PySem.HandSPX.excO C t0)) (hu : h.get? u = some (PySem.W.kxs_mw "ValueError.__init__" x)) (hz : rest.length ≤ sizeLine)
    (hq : ∀ h' t1, (∀ b o, b ≠ x → h.get? b = some o → h'.get? b = some o) → h'.get? x = some (PySem.HandSPX.excO C t1) → Q .none ⟨h', g, d, t, os⟩) :
    wpAny (model prog w) A (call (.ref u) rest) Q E ⟨h, g, d, t, os⟩ := by
  refine wpAny_call (codeAny_of_tree ?_)
  show wpAny _ A.in1 (callAny (.ref u) ⟨rest, []⟩) _ _ _
  simp only [callAny]
  refine wpAny_bind (wpAny_load hu ?_)
  simp only [PySem.W.kxs_mw, (by decide : (Value.type "method-wrapper" == Value.type "method" || Value.type "method-wrapper" == Value.type "builtin_function_or_method" || Value.type "method-wrapper" == Value.type "method-wrapper") = true), if_true]
  refine PySem.W.KFB.if_so (by decide) ?_
  refine wpAny_bind (PySem.W.check_bound_init F.excBase_ValueError.toExcCallFacts hC hx rfl ?_)
  refine wpAny_bind (wpAny_pure (wpAny_pure ?_))
  refine ⟨plainId_quiet F.excBase_ValueError.init.plain _, codeAny_builtin F.excBase_ValueError.initEntry ?_⟩
  rw [Around.under_plainId F.excBase_ValueError.init.plain _]
  wp_walk
  refine hq _ h.objs.size (fun b o hb ho => ?_) ?_
  · rw [Heap.get?_update_other _ _ (Ne.symm hb)]
    exact Heap.get?_push_of_some _ ho
  · rw [Heap.get?_update_self _ (Heap.get?_push_of_some _ hx) rfl]
    rfl

section
variable {CX : CXT} {P : Program} {w : World} {K : PySem.W.Frag} {mg : Str → Option Value} {base : Heap} {N ps : List Str} {k : Nat} {sp : Sp} {C fI : Addr} {qual : Str} {params : Arguments} {e0 : Expr} {rest : List Stmt} {scope : Scope} {p0 p1 p2 p3 p4 : Pos} {fd : FuncData}
def nf (qual : Str) (params : Arguments) (body : List Stmt) (scope : Scope) (cc cda : Addr) : NF := ⟨"__init__", qual, params, body, scope, [("__class__", cc)], cda⟩
theorem sup_ok (T : SupF P K mg C fI qual params e0 rest scope p0 p1 p2 p3 p4 fd) (S : NScope N ps ["__class__"] scope) {ar : Arg} (hp : (params.posonlyargs ++ params.args).head? = some ar) (hp0 : ps[0]? = some ar.arg) (hks : scope.names.lookup ("super" : Str) = some .globalImplicit)
    (hst : ∀ env : Env, starEach [e0] env = (false, eval e0 env) :: starEach [] env)
    (hcall : ∀ env : Env, eval (.Call (.Attribute (.Call (.Name "super" p0) [] [] p1) "__init__" p2) [e0] [] p3) env = (do
      let ov ← attributeBase (.Call (.Name "super" p0) [] [] p1) "__init__" env (eval (.Call (.Name "super" p0) [] [] p1) env)
      standAt p2.atName
      let (f, first) ← holding [ov] (getMethod ov "__init__" (do return (← importBound (.Call (.Name "super" p0) [] [] p1) env).getD true))
      callWith p3 f first (backTo p3 (starEach [e0] env)) [])) (len : ∀ vs H Q E, sp vs H Q E → vs.length = ps.length)
    (hbody : ∀ (X : Cx) (H : Hp) (vs : List V) (Q : VK) (E : XK), X.N = N → X.K = K → X.mg = mg → X.env.scope = scope → X.calm = true → sp vs H Q E →
      ∃ (a : Addr) (ta : TA) (t : TS), vs[0]? = some (.ref a) ∧ H a = some (exo a C none) ∧ PA X [e0] ta ∧ PSs X rest t ∧
        ta (startF N vs [some (.ref C)]) H (fun ws H1 => ws.length ≤ sizeLine ∧ H1 a = some (exo a C none) ∧ t { nx := fun _ H' => Q .non H', rt := Q } (startF N vs [some (.ref C)]) H1)) :
    FnOk P w K mg base CX (k + 1) fI fd ps sp := by
  obtain ⟨oc, od, kV, doc, pm, an, ct, osl, cc, cda, q1, q2, q3, r1, r2, vs2, r3, file, tf, rfl, lk, hcd, hcda, hfile, hmain, hcc⟩ := T.ex
  refine ⟨len, fun A outer s H args us vs Q E hr e0' hb r hsp => ?_⟩
  have hl := len _ _ _ _ hsp
  have KX : K.In s.heap := e0'.mod.kin.keeps fun b o e => (e0'.bs b o e).1
  have lim : s.heap.NoLimit := e0'.mod.nolimit.keeps fun b o e => (e0'.bs b o e).1
  have hcH : H cc = none := (e0'.bs cc _ (e0'.mod.kin _ _ hcc)).2
  have CA : CellsAt [(("__class__" : Str), cc)] ["__class__"] [some (V.ref C)] s.heap H := {
    len := rfl
    all := fun y c hy => by
      have e : (y, c) ∈ [(("__class__" : Str), cc)] := PySem.mem_of_lookup hy
      simp only [List.mem_singleton, Prod.mk.injEq] at e
      obtain ⟨_, rfl⟩ := e
      exact ⟨hcH, _, _, KX _ _ hcc, rfl⟩
    inj := fun x y c hx hy => by
      have ex : (x, c) ∈ [(("__class__" : Str), cc)] := PySem.mem_of_lookup hx
      have ey : (y, c) ∈ [(("__class__" : Str), cc)] := PySem.mem_of_lookup hy
      simp only [List.mem_singleton, Prod.mk.injEq] at ex ey
      rw [ex.1, ey.1]
    has := fun i y hy => by
      cases i with
      | succ j => simp at hy
      | zero =>
        have e : y = "__class__" := by simpa using hy.symm
        subst e
        refine ⟨cc, by rfl, fun v hv => ?_⟩
        have e : v = V.ref C := by simpa using hv.symm
        subst e
        exact ⟨.ref C, rfl, _, KX _ _ hcc, rfl⟩ }
  refine ks_codeAny_call_defAt (binds := ps.zip us) hr.depth (KX _ _ lk) rfl lim (PySem.W.codeRec_of KX hcd) rfl hb S.nocell (fun y hy => ?_) (fun h₁ hns kp => ?_) S.co S.gen S.kind
  · obtain ⟨n, v⟩ := y
    exact S.par n (List.of_mem_zip hy).1
  let body0 : List Stmt := .Expr (.Call (.Attribute (.Call (.Name "super" p0) [] [] p1) "__init__" p2) [e0] [] p3) p4 :: rest
  let X : Cx := ncx CX P w K mg base N (nf qual params body0 scope cc cda) fI A outer s H E
  have I : Inv X [] (startF N vs [some (.ref C)]) H { s with heap := h₁, toks := s.toks + (ps.zip us).length } := inv_startN (F := nf qual params body0 scope cc cda) S hr.hd e0' hl r CA hns kp
  obtain ⟨a, ta, t, hv0, hHa, hpa, hps, hq⟩ := hbody X H vs Q E rfl rfl rfl rfl rfl hsp
  obtain ⟨ua, hua, rua⟩ := r.get hv0
  obtain rfl : ua = Value.ref a := rua
  obtain ⟨nm, q, N', bs, bm, sn, sub, ab, col, dd, k0, k1, k2, k3, k5, hC, hbm⟩ := T.oex.cls
  have hcl : PySem.W.clsIn K C = some { name := nm, bases := bs, mro := .ref C :: bm, ns := N', qualname := q, hasDict := true, slotNames := sn, subclasses := sub, abstract := ab, collection := col, hasDel := false } := by unfold PySem.W.clsIn; rw [hC] <;> rfl
  have X1 : K.In h₁ := KX.keeps kp
  have hkfree : scope.names.lookup ("__class__" : Str) = some .free := S.frk _ (by simp)
  have ndP : ps.Nodup := by
    have q := S.nd.sublist (List.take_sublist (ps.length + 1) N)
    have e := S.pre
    simp only [List.length_singleton] at e
    rw [e] at q
    exact (List.nodup_append.mp q).1
  refine ks_wpAt_execs_cons (ks_wpAt_Expr_any (ks_wpAt_MethodCall (ks_wpAt_super_base hks hkfree (by decide) rfl (X1 _ _ lk) rfl hp rfl (X1 _ _ hcda) rfl hfile hmain T.top ?_) (hcall _)) I.quiet rfl)
  obtain ⟨mb, hb1, hb2⟩ := I.mod.blt
  refine PySem.W.ks_loadName_global S.kind hks (Calls.loadGlobal_builtin (I.mod.glob.keeps I.bk) T.mg0 (hb1.keeps I.bk) ((hb2 "super" (by decide)).trans (by decide +kernel)) ⟨rfl, ?_⟩)
  refine wpAny_loadName_free S.kind hkfree (by rfl) ⟨_, X1 _ _ hcc, rfl⟩ ?_
  have hka : scope.names.lookup ar.arg = some .local := S.par _ (List.mem_of_getElem? hp0)
  refine wpAny_loadName_local S.kind hka hns (zip_look ndP hp0 hua) ?_
  have hD := X1 _ _ hC
  refine ks_wpAny_isType_cls hD rfl ⟨rfl, ?_⟩
  obtain ⟨t1, hx⟩ := exo_at I.hok hHa
  refine ks_wpAny_call_super hD rfl hx rfl (fun c z => by cases z) (PySem.W.looks_mroIn X1 T.self) (fun h2 hso k2 => ?_)
  have X2 : K.In h2 := X1.keeps k2
  have hx2 := k2 _ _ hx
  have IA : PySem.W.InstAt h2 a { cls := .ref C, dict := none, data := .fields #[.ref t1, .none, .none, .none, .bool false, .none] } C none := ⟨hx2, rfl, rfl, trivial⟩
  have hsup : PySem.W.alongIn K "__init__" (((Value.ref C :: bm).dropWhile (· != .ref C)).drop 1) = some (some (.builtin "ValueError.__init__")) := by
    have z := T.sup
    unfold PySem.W.ks_superIn at z
    rw [hcl] at z
    exact z
  refine PySem.W.kxs_getMethod PySem.W.kxs_ValueError hso (PySem.W.looks_opaque X2 T.any) (l₀ := Value.ref C :: bm) (fun A Q E s k q => wpAny_bind ((PySem.W.looks_clsIn X2 hcl) A _ E s k (wpAny_pure q))) rfl X2 hsup (IA.type.andThen (PySem.W.looks_subIn X2 T.sub)) (PySem.W.ks_ne X2 IA hcl) (by decide +kernel) ?_
  have I2 : Inv X [] (startF N vs [some (.ref C)]) H { s with heap := h2, toks := s.toks + (ps.zip us).length } := I.kept (t' := s.toks + (ps.zip us).length) k2
  have I3 : Inv X [] (startF N vs [some (.ref C)]) H { s with heap := h2.push (PySem.W.kxs_mw "ValueError.__init__" a), toks := s.toks + (ps.zip us).length + 1 } := I2.kept (t' := s.toks + (ps.zip us).length + 1) fun b o z => Heap.get?_push_of_some _ z
  have I4 : Inv X [(h2.objs.size, PySem.W.kxs_mw "ValueError.__init__" a)] (startF N vs [some (.ref C)]) H { s with heap := h2.push (PySem.W.kxs_mw "ValueError.__init__" a), toks := s.toks + (ps.zip us).length + 1 } :=
    ⟨I3.ok, I3.os, I3.bare, I3.base, I3.loc, I3.cell, I3.free, I3.freeC, fun p hp => by
      have e : p = (h2.objs.size, PySem.W.kxs_mw "ValueError.__init__" a) := by
        have z : p ∈ ([] : List (Addr × Obj)) ++ [(h2.objs.size, PySem.W.kxs_mw "ValueError.__init__" a)] := hp
        simpa using z
      subst e
      exact ⟨Heap.get?_push_at rfl rfl, I2.hok.fresh (Nat.le_refl _), Nat.ne_of_gt I2.lt, I2.nofs (Nat.le_refl _), fun v z => by cases z⟩, I3.hok, I3.len⟩
  have run := hpa.run p3 _ _ _ _ _ I4 hq
  refine PySem.W.kxs_callWith (i := "ValueError.__init__") (x := a) ?_ ?_
  · rw [hst]
    rfl
  · have e1 := hst X.env
    rw [hst]
    rw [e1] at run
    refine Calls.evalArgs_plain (thn run fun us2 s1 hh => ?_)
    obtain ⟨ws, H1, I5, r5, hz, hx5, ht⟩ := hh
    have pu := I5.pin (h2.objs.size, PySem.W.kxs_mw "ValueError.__init__" a) (by simp)
    refine ⟨pu.1, ?_⟩
    obtain ⟨t5, ho5⟩ := exo_at I5.hok hx5
    obtain ⟨hp5, g5, d5, tk5, os5⟩ := s1
    have hC5 : hp5.get? C = _ := I5.kIn _ _ hC
    refine call_mw hC5 ho5 pu.1 (by show us2.length ≤ sizeLine; rw [← Paired.length r5]; exact hz) fun h6 t6 k6 hx6 => ?_
    have I6 := I5.write (t' := tk5) (x := a) (e := a) (o := exo a C none) (by rw [hx5]; exact True.intro) (.inl rfl) k6 ⟨_, hx6⟩ (exo_ok hx6)
    have eu : upd H1 a (exo a C none) = H1 := by
      funext b
      by_cases hb : b = a
      · rw [hb, upd_same, hx5]
      · rw [upd_ne hb]
    rw [eu] at I6
    have I7 : Inv X [] (startF N vs [some (.ref C)]) H1 ⟨h6, g5, d5, tk5, os5⟩ := ⟨I6.ok, I6.os, I6.bare, I6.base, I6.loc, I6.cell, I6.free, I6.freeC, fun p hp => absurd (show p ∈ ([] : List (Addr × Obj)) ++ [] from hp) (by simp), I6.hok, I6.len⟩
    refine PySem.wpAt_of_wpAny (wpAny_mono (hps.run [] _ _ _ _ I7 ht) (fun fl s' hs => ?_) fun e s' hs => hs)
    have fin : ∀ {σ' : L2.St} {H' : Hp} {v : V} {u : Value}, Inv X [] σ' H' s' → L2.RelV v u → Q v H' → CE outer P w H s Q u s' :=
      fun {σ' H' v u} J rv q => ⟨v, H', J.os, J.bare, J.base, J.hok, rv, q⟩
    cases fl with
    | ret u =>
      obtain ⟨v, σ', H', J, rv, q⟩ := hs
      exact fin J rv q
    | next =>
      obtain ⟨σ', H', J, q⟩ := hs
      exact fin (v := V.non) (u := Value.none) J rfl q
    | brk => exact hs.choose_spec.choose_spec.2.elim
    | cont => exact hs.choose_spec.choose_spec.2.elim
end

/-! ### __init__ with one field, with two fields -/
section
variable {CX : CXT} {P : Program} {w : World} {K : PySem.W.Frag} {mg : Str → Option Value} {base : Heap} {k : Nat} {C fI : Addr} {qual : Str} {params : Arguments} {e0 : Expr} {scope : Scope} {p0 p1 p2 p3 p4 : Pos} {fd : FuncData} {x y f g : Str} {a1 a2 a3 a4 b1 b2 b3 b4 pe pf pg ph pi : Pos} {z z2 : Str} {j j2 : Nat} {ar : Arg}
/-- the call super().__init__(e0), by its places -/
abbrev SupCall (e0 : Expr) (p0 p1 p2 p3 : Pos) : Prop := ∀ env : Env, eval (.Call (.Attribute (.Call (.Name "super" p0) [] [] p1) "__init__" p2) [e0] [] p3) env = (do
      let ov ← attributeBase (.Call (.Name "super" p0) [] [] p1) "__init__" env (eval (.Call (.Name "super" p0) [] [] p1) env)
      standAt p2.atName
      let (f, first) ← holding [ov] (getMethod ov "__init__" (do return (← importBound (.Call (.Name "super" p0) [] [] p1) env).getD true))
      callWith p3 f first (backTo p3 (starEach [e0] env)) [])
def spE1 (C : Addr) (f : Str) : Sp := fun vs H Q _ => ∃ (a : Addr) (y : V), vs = [.ref a, y] ∧ H a = some (exo a C none) ∧ ∀ d, H d = none → d ≠ a → Q .non (upd (upd H d (exd d [(f, y)])) a (exo a C (some d)))
def spE2 (C : Addr) (f g : Str) (ok : V → Prop) : Sp := fun vs H Q _ => ∃ (a : Addr) (y z : V), vs = [.ref a, y, z] ∧ ok y ∧ H a = some (exo a C none) ∧
  ∀ d, H d = none → d ≠ a → Q .non (upd (upd (upd H d (exd d [(f, y)])) a (exo a C (some d))) d (exd d [(g, z), (f, y)]))
theorem err1_ok (T : SupF P K mg C fI qual params (.Constant (.str z) j pe) [.Assign [.Attribute (.Name "self" a1) f a2] (.Name x a3) a4] scope p0 p1 p2 p3 p4 fd) (S : NScope ["self", x, "__class__"] ["self", x] ["__class__"] scope)
    (hp : (params.posonlyargs ++ params.args).head? = some ar) (har : ar.arg = "self") (hks : scope.names.lookup ("super" : Str) = some .globalImplicit) (hno : PySem.W.findIn K (.ref C) f = some none) (hcall : SupCall (.Constant (.str z) j pe) p0 p1 p2 p3)
    (hx1 : (x == ("__debug__" : Str)) = false) (hx2 : (x == ("__classdict__" : Str)) = false) :
    FnOk P w K mg base CX (k + 1) fI fd ["self", x] (spE1 C f) := by
  refine sup_ok T S hp (by rw [har] <;> rfl) hks (fun _ => rfl) hcall (fun vs H Q E h => ?_) fun X H vs Q E eN eK em es ec h => ?_
  · obtain ⟨a, y, rfl, _⟩ := h
    rfl
  · obtain ⟨a, y, rfl, ha, q⟩ := h
    subst eK
    have n0 : X.N[0]? = some ("self" : Str) := by rw [eN] <;> rfl
    have n1 : X.N[1]? = some x := by rw [eN] <;> rfl
    have v0 : Vis X.env.scope "self" := by rw [es]; exact .inl (S.par _ (by simp))
    have v1 : Vis X.env.scope x := by rw [es]; exact .inl (S.par _ (by simp))
    refine ⟨a, _, _, rfl, ha, pa_cons pe_str pa_nil, pss_one (ps_ost (pv 0 n0 v0) (pe_var n1 v1 hx1 hx2)), ?_⟩
    refine ⟨by show 1 ≤ sizeLine; decide, ha, ?_⟩
    exact ⟨_, rfl, _, rfl, a, C, rfl, T.oex, hno, .inl ⟨ha, fun dx n ne => q dx n ne⟩⟩
theorem err2_ok (T : SupF P K mg C fI qual params (.Constant (.str z) j pe) [.Assign [.Attribute (.Name "self" a1) f a2] (.Name x a3) a4, .Assign [.Attribute (.Name "self" b1) g b2] (.Name y b3) b4] scope p0 p1 p2 p3 p4 fd)
    (S : NScope ["self", x, y, "__class__"] ["self", x, y] ["__class__"] scope)
    (hp : (params.posonlyargs ++ params.args).head? = some ar) (har : ar.arg = "self") (hks : scope.names.lookup ("super" : Str) = some .globalImplicit) (hno : PySem.W.findIn K (.ref C) f = some none) (hno2 : PySem.W.findIn K (.ref C) g = some none) (hcall : SupCall (.Constant (.str z) j pe) p0 p1 p2 p3)
    (hx1 : (x == ("__debug__" : Str)) = false) (hx2 : (x == ("__classdict__" : Str)) = false) (hy1 : (y == ("__debug__" : Str)) = false) (hy2 : (y == ("__classdict__" : Str)) = false) :
    FnOk P w K mg base CX (k + 1) fI fd ["self", x, y] (spE2 C f g fun _ => True) := by
  refine sup_ok T S hp (by rw [har] <;> rfl) hks (fun _ => rfl) hcall (fun vs H Q E h => ?_) fun X H vs Q E eN eK em es ec h => ?_
  · obtain ⟨a, y, z, rfl, _⟩ := h
    rfl
  · obtain ⟨a, u, v, rfl, _, ha, q⟩ := h
    subst eK
    have n0 : X.N[0]? = some ("self" : Str) := by rw [eN] <;> rfl
    have n1 : X.N[1]? = some x := by rw [eN] <;> rfl
    have n2 : X.N[2]? = some y := by rw [eN] <;> rfl
    have v0 : Vis X.env.scope "self" := by rw [es]; exact .inl (S.par _ (by simp))
    have v1 : Vis X.env.scope x := by rw [es]; exact .inl (S.par _ (by simp))
    have v2 : Vis X.env.scope y := by rw [es]; exact .inl (S.par _ (by simp))
    refine ⟨a, _, _, rfl, ha, pa_cons pe_str pa_nil, pss_cons (ps_ost (pv 0 n0 v0) (pe_var n1 v1 hx1 hx2)) (pss_one (ps_ost (pv 0 n0 v0) (pe_var n2 v2 hy1 hy2))), ?_⟩
    refine ⟨by show 1 ≤ sizeLine; decide, ha, ?_⟩
    exact ⟨_, rfl, _, rfl, a, C, rfl, T.oex, hno, .inl ⟨ha, fun dx n ne => ⟨_, rfl, _, rfl, a, C, rfl, T.oex, hno2, .inr ⟨dx, _, upd_same, (by rw [upd_ne ne, upd_same]), (by show 1 ≤ 900; decide), q dx n ne⟩⟩⟩⟩
/-- BadCount: the text is made of the first argument -/
theorem errB_ok (T : SupF P K mg C fI qual params (.BinOp (.BinOp (.Constant (.str z) j pe) .Add (.Name x pf) pg) .Add (.Constant (.str z2) j2 ph) pi)
      [.Assign [.Attribute (.Name "self" a1) f a2] (.Name x a3) a4, .Assign [.Attribute (.Name "self" b1) g b2] (.Name y b3) b4] scope p0 p1 p2 p3 p4 fd)
    (S : NScope ["self", x, y, "__class__"] ["self", x, y] ["__class__"] scope) (hz : z.length ≤ 100) (hz2 : z2.length ≤ 100)
    (hp : (params.posonlyargs ++ params.args).head? = some ar) (har : ar.arg = "self") (hks : scope.names.lookup ("super" : Str) = some .globalImplicit) (hno : PySem.W.findIn K (.ref C) f = some none) (hno2 : PySem.W.findIn K (.ref C) g = some none)
    (hcall : SupCall (.BinOp (.BinOp (.Constant (.str z) j pe) .Add (.Name x pf) pg) .Add (.Constant (.str z2) j2 ph) pi) p0 p1 p2 p3)
    (hx1 : (x == ("__debug__" : Str)) = false) (hx2 : (x == ("__classdict__" : Str)) = false) (hy1 : (y == ("__debug__" : Str)) = false) (hy2 : (y == ("__classdict__" : Str)) = false) :
    FnOk P w K mg base CX (k + 1) fI fd ["self", x, y] (spE2 C f g fun v => ∃ t : Str, v = .str t ∧ t.length ≤ 1000) := by
  refine sup_ok T S hp (by rw [har] <;> rfl) hks (fun _ => rfl) hcall (fun vs H Q E h => ?_) fun X H vs Q E eN eK em es ec h => ?_
  · obtain ⟨a, y, z, rfl, _⟩ := h
    rfl
  · obtain ⟨a, u, v, rfl, ⟨t, rfl, ht⟩, ha, q⟩ := h
    subst eK
    have n0 : X.N[0]? = some ("self" : Str) := by rw [eN] <;> rfl
    have n1 : X.N[1]? = some x := by rw [eN] <;> rfl
    have n2 : X.N[2]? = some y := by rw [eN] <;> rfl
    have v0 : Vis X.env.scope "self" := by rw [es]; exact .inl (S.par _ (by simp))
    have v1 : Vis X.env.scope x := by rw [es]; exact .inl (S.par _ (by simp))
    have v2 : Vis X.env.scope y := by rw [es]; exact .inl (S.par _ (by simp))
    refine ⟨a, _, _, rfl, ha, pa_cons (pe_op op_add_str (pe_op op_add_str pe_str (pe_var n1 v1 hx1 hx2)) pe_str) pa_nil, pss_cons (ps_ost (pv 0 n0 v0) (pe_var n1 v1 hx1 hx2)) (pss_one (ps_ost (pv 0 n0 v0) (pe_var n2 v2 hy1 hy2))), ?_⟩
    have l1 : z.length + t.length ≤ sizeLine := by rw [sizeLine_eq]; omega
    have l2 : (z ++ t).length + z2.length ≤ sizeLine := by
      have e : (z ++ t).length = z.length + t.length := by simp [PySem.Str.length_append]
      rw [e, sizeLine_eq]; omega
    refine ⟨_, rfl, _, _, rfl, rfl, l1, _, _, rfl, rfl, l2, ?_⟩
    refine ⟨by show 1 ≤ sizeLine; decide, ha, ?_⟩
    exact ⟨_, rfl, _, rfl, a, C, rfl, T.oex, hno, .inl ⟨ha, fun dx n ne => ⟨_, rfl, _, rfl, a, C, rfl, T.oex, hno2, .inr ⟨dx, _, upd_same, (by rw [upd_ne ne, upd_same]), (by show 1 ≤ 900; decide), q dx n ne⟩⟩⟩⟩
end
end SI
set_option maxRecDepth 100000
set_option maxHeartbeats 4000000
namespace SI
open PySem PySem.Spec PyProof.Rows L2 NdefX
/-! ### raising such an error: one reading for all classes -/
def mono (ta : TA) : TA := fun σ H Q => ∃ Q' : List V → Hp → Prop, ta σ H Q' ∧ ∀ vs H1, Q' vs H1 → Q vs H1
theorem pa_mono {X : Cx} {es : List Expr} {ta : TA} (h : PA X es ta) : PA X es (mono ta) := ⟨fun pos pins s σ H Q I ⟨Q', q, m⟩ => thn (h.run pos pins s σ H Q' I q) fun us s1 ⟨vs, H1, I1, r1, q1⟩ => ⟨vs, H1, I1, r1, m vs H1 q1⟩⟩
/-- C(..): the error's own dict is new, it holds the fields -/
def tErr (C : Addr) (mk : List V → List (Str × V) → Prop) (ta : TA) : L2.St → Hp → XK → Prop := fun σ H Q => ta σ H fun vs H1 => ∃ fs, mk vs fs ∧ ∀ d, H1 d = none → Q (.ref C) (some d) (upd H1 d (.xd fs))
theorem err_heap {H1 : Hp} {a d : Addr} {o1 o2 u : HO} (ha : H1 a = none) (hd : H1 d = none) (ne : d ≠ a) : upd (del (upd (upd H1 d o1) a o2) a) d u = upd H1 d u := by
  funext b
  by_cases hb : b = d
  · rw [hb, upd_same, upd_same]
  · rw [upd_ne hb, upd_ne hb]
    by_cases hc : b = a
    · rw [hc, del_same, ha]
    · rw [del_ne hc, upd_ne hc, upd_ne hb]
theorem err_heap2 {H1 : Hp} {a d : Addr} {o1 o2 o3 u : HO} (ha : H1 a = none) (hd : H1 d = none) (ne : d ≠ a) : upd (del (upd (upd (upd H1 d o1) a o2) d o3) a) d u = upd H1 d u := by
  funext b
  by_cases hb : b = d
  · rw [hb, upd_same, upd_same]
  · rw [upd_ne hb, upd_ne hb]
    by_cases hc : b = a
    · rw [hc, del_same, ha]
    · rw [del_ne hc, upd_ne hb, upd_ne hc, upd_ne hb]
theorem upd_comm0 {H1 : Hp} {a d : Addr} {u : HO} (ne : d ≠ a) (o : HO) : upd (upd H1 a o) d u = upd (upd H1 d u) a o := by
  funext b
  by_cases hb : b = d
  · subst hb
    rw [upd_same, upd_ne ne, upd_same]
  · rw [upd_ne hb]
    by_cases hc : b = a
    · rw [hc, upd_same, upd_same]
    · rw [upd_ne hc, upd_ne hc, upd_ne hb]
def mk1 (f : Str) : List V → List (Str × V) → Prop := fun vs fs => ∃ y, vs = [y] ∧ fs = [(f, y)]
def mk2 (f g : Str) (ok : V → Prop) : List V → List (Str × V) → Prop := fun vs fs => ∃ y z, vs = [y, z] ∧ ok y ∧ fs = [(g, z), (f, y)]
section
variable {X : Cx} {CX : CXT} {x f g : Str} {C fI : Addr} {k : Nat} {fd : FuncData} {ps : List Str} {e : Expr} {es : List Expr} {ta : TA} {p pos : Pos} {ok : V → Prop}
theorem pmk_e1 {y : Str} (T : OexC X.K C) (iC : PySem.W.findIn X.K (.ref C) "__init__" = some (some (.ref fI))) (tI : PySem.W.typeIn X.K (.ref fI) = some (.type "function"))
    (F1 : FnOk X.prog X.w X.K X.mg X.base CX k fI fd ["self", y] (spE1 C f)) (hr : Room (k + 1) X.A) (hb : Binds X.K fd ["self", y] []) (hx : Passes CX X (fun _ _ _ => False)) (hg : Gl X x) (hm : X.mg x = some (.ref C)) (ha : PA X (e :: es) ta)
    (hdb : (x == ("__debug__" : Str)) = false := by decide) (he : starEach (e :: es) X.env = (false, eval e X.env) :: starEach es X.env := by rfl) (hpl : (backTo pos (starEach es X.env)).any (·.1) = false := by rfl) :
    PMk X (.Call (.Name x p) (e :: es) [] pos) (tErr C (mk1 f) ta) := by
  have R := pmk_oex (pos := pos) (p := p) T iC tI F1 hr hb .nil hx hg hm (pa_mono ha) hdb he hpl
  intro pins s σ H Q I h
  refine R pins s σ H Q I ⟨_, h, ?_⟩
  rintro vs H1 ⟨fs, ⟨y, rfl, rfl⟩, q⟩
  refine ⟨by show 1 ≤ 1000; decide, fun a na => ?_⟩
  refine ⟨a, y, rfl, upd_same, fun d hd ne => ⟨rfl, d, [(f, y)], upd_same, by rw [upd_ne ne, upd_same], ?_, ?_⟩⟩
  · rw [upd_ne ne] at hd
    exact hd
  · have hd' : H1 d = none := by
      rw [upd_ne ne] at hd
      exact hd
    have e1 : upd (del (upd (upd (upd H1 a (exo a C none)) d (exd d [(f, y)])) a (exo a C (some d))) a) d (HO.xd [(f, y)]) = upd H1 d (.xd [(f, y)]) := by
      rw [upd_comm0 ne, upd_upd]
      exact err_heap na hd' ne
    rw [e1]
    exact q d hd'
theorem pmk_e2 {y z : Str} (T : OexC X.K C) (iC : PySem.W.findIn X.K (.ref C) "__init__" = some (some (.ref fI))) (tI : PySem.W.typeIn X.K (.ref fI) = some (.type "function"))
    (F1 : FnOk X.prog X.w X.K X.mg X.base CX k fI fd ["self", y, z] (spE2 C f g ok)) (hr : Room (k + 1) X.A) (hb : Binds X.K fd ["self", y, z] []) (hx : Passes CX X (fun _ _ _ => False)) (hg : Gl X x) (hm : X.mg x = some (.ref C)) (ha : PA X (e :: es) ta)
    (hdb : (x == ("__debug__" : Str)) = false := by decide) (he : starEach (e :: es) X.env = (false, eval e X.env) :: starEach es X.env := by rfl) (hpl : (backTo pos (starEach es X.env)).any (·.1) = false := by rfl) :
    PMk X (.Call (.Name x p) (e :: es) [] pos) (tErr C (mk2 f g ok) ta) := by
  have R := pmk_oex (pos := pos) (p := p) T iC tI F1 hr hb .nil hx hg hm (pa_mono ha) hdb he hpl
  intro pins s σ H Q I h
  refine R pins s σ H Q I ⟨_, h, ?_⟩
  rintro vs H1 ⟨fs, ⟨y, z, rfl, hok, rfl⟩, q⟩
  refine ⟨by show 2 ≤ 1000; decide, fun a na => ?_⟩
  refine ⟨a, y, z, rfl, hok, upd_same, fun d hd ne => ⟨rfl, d, [(g, z), (f, y)], by rw [upd_ne (Ne.symm ne), upd_same], upd_same, ?_, ?_⟩⟩
  · rw [upd_ne ne] at hd
    exact hd
  · have hd' : H1 d = none := by
      rw [upd_ne ne] at hd
      exact hd
    have e1 : upd (del (upd (upd (upd (upd H1 a (exo a C none)) d (exd d [(f, y)])) a (exo a C (some d))) d (exd d [(g, z), (f, y)])) a) d (HO.xd [(g, z), (f, y)]) = upd H1 d (.xd [(g, z), (f, y)]) := by
      rw [upd_comm0 ne (exo a C none), upd_upd]
      exact err_heap2 na hd' ne
    rw [e1]
    exact q d hd'
end

/-! ### a caught error: isinstance, its fields -/
structure ErrC (K : PySem.W.Frag) (C : Addr) : Prop where
  cl : (PySem.W.clsIn K C).isSome = true
  ga : PySem.W.findIn K (.ref C) "__getattribute__" = some (some (.builtin "BaseException.__getattribute__"))
  gg : PySem.W.findIn K (.ref C) "__getattr__" = some none
  exC : PySem.W.subIn K (.ref C) (.type "BaseException") = some true
  hd : PySem.W.hasDictIn K C = true
  ac : PySem.W.findIn K (.ref C) "__class__" = some (some (.builtin "object.__class__"))
  mo : PySem.W.mroIn K C (.type "object") = some true
structure ErrK (K : PySem.W.Frag) : Prop where
  hn : PySem.W.specialIn K (.builtin "object.__class__") "__get__" = some (some (.builtin "getset_descriptor.__get__"))
  ht : PySem.W.takesIn K (.builtin "object.__class__") = some true
def rIsX (K : PySem.W.Frag) (a : Addr) (cls : Value) (d : Option Addr) : List V → Hp → VK → Prop := fun xs H Q => ∃ (D : Addr) (c : V) (cv : Value) (b : Bool), cls = .ref D ∧ ErrC K D ∧ xs = [.ref a, c] ∧ ClsV c cv ∧ PySem.W.kitOne K cls cv = some b ∧
  (∀ dd, d = some dd → ∃ fs, H dd = some (.xd fs)) ∧ Q (.bl b) H
theorem call_isX {X : Cx} {a : Addr} {oe : Obj} {cls : Value} {d : Option Addr} (EK : ErrK X.K) (hp : (a, oe) ∈ X.pn) (hz : Zc cls d oe) (hf : ∃ vs, oe.data = .fields vs) : CallR X (.builtin "isinstance") (rIsX X.K a cls d) := by
  intro pins s σ H xs us Q I r h
  obtain ⟨D, c, cv, b, ecls, C, rfl, hcv, e, hd, q⟩ := h
  cases r with
  | cons rx rr =>
    cases rr with
    | cons rt rr =>
      cases rr
      cases rx
      have ec := hcv.eq rt
      subst ec
      subst ecls
      obtain ⟨hget, _⟩ := I.pin (a, oe) (List.mem_append_left _ hp)
      obtain ⟨vs, hv⟩ := hf
      obtain ⟨od, J⟩ : ∃ od, PySem.W.InstAt s.heap a oe D od := by
        obtain ⟨oc, odi, oda, osl⟩ := oe
        obtain ⟨h1, h2⟩ := hz
        dsimp only at h1 h2 hv
        subst h1 h2 hv
        cases odi with
        | none => exact ⟨none, hget, rfl, rfl, trivial⟩
        | some dd =>
          obtain ⟨fs, hfs⟩ := hd dd rfl
          have hx : ObjOk X.prog X.w H s.heap dd (.xd fs) := I.hok dd _ hfs
          obtain ⟨mA, ⟨o, es, ep, ho, _⟩, _⟩ := hx
          exact ⟨some o, hget, rfl, rfl, ho⟩
      exact PySem.W.kia_one (PySem.W.kitx_exc C.cl C.ga C.gg C.exC C.ac EK.hn EK.ht C.mo) I.kIn J e (fun z => nomatch z) fun tk => ⟨.bl b, H, I.kept (t' := tk) fun _ _ z => z, rfl, q⟩
/-- e.f -/
def tErrF (K : PySem.W.Frag) (a : Addr) (cls : Value) (d : Option Addr) (f : Str) (te : TE) : TE := fun σ H Q => ∃ (C dd : Addr), cls = .ref C ∧ ErrC K C ∧ PySem.W.findIn K (.ref C) f = some none ∧ d = some dd ∧
  te σ H fun x H1 => x = .ref a ∧ ∃ (fs : List (Str × V)) (v : V), H1 dd = some (.xd fs) ∧ fs.lookup f = some v ∧ Q v H1
theorem pe_errF {X : Cx} {a : Addr} {oe : Obj} {cls : Value} {d : Option Addr} {e : Expr} {te : TE} {pos : Pos} {n : Str} (hp : (a, oe) ∈ X.pn) (hz : Zc cls d oe) (hf : ∃ vs, oe.data = .fields vs) (he : PE X e te) (hb : attributeBase e n X.env (eval e X.env) = eval e X.env := by rfl) :
    PE X (.Attribute e n pos) (tErrF X.K a cls d n te) := by
  refine ⟨fun pins s σ H Q I h => ?_⟩
  obtain ⟨C, dd, ec, T, hno, ed, h⟩ := h
  subst ec
  refine attr_of hb (thn (he.run pins s σ H _ I h) fun u s1 hh => ?_)
  obtain ⟨x, H1, I1, rx, ex, fs, v, ea, l, q⟩ := hh
  subst ex
  obtain rfl : u = Value.ref a := rx
  subst ed
  obtain ⟨ha, _⟩ := I1.pin (a, oe) (List.mem_append_left _ hp)
  obtain ⟨vs, hd⟩ := hf
  have hx : ObjOk X.prog X.w H1 s1.heap dd (.xd fs) := I1.hok dd _ ea
  obtain ⟨mA, hns, hr⟩ := hx
  obtain ⟨od, ho, hl⟩ := lookIn_ns hns
  obtain ⟨u, hu, ru⟩ := RelO.some_of (v := v) (o := mA n) (by rw [← l]; exact hr n)
  have J : PySem.W.InstAt s1.heap a oe C (some od) := ⟨ha, hz.1, by unfold PySem.W.notCls; rw [hd] <;> rfl, by rw [hz.2]; exact ho⟩
  exact HandSPX.exc_get I1.kIn J T.ga T.gg T.exC (PySem.W.findObj_own T.hd hno rfl (by rw [hl, hu])) (handed_of ru) ⟨v, H1, I1.tok _, ru, q⟩
end SI
set_option maxRecDepth 100000
set_option maxHeartbeats 4000000
namespace SI
open PySem PySem.Spec PyProof.Rows L2 NdefX L2H
/-! ### defs called while an exception p is handled; p may be handed on -/
structure FnW (P : Program) (w : World) (K : PySem.W.Frag) (mg : Str → Option Value) (base : Heap) (CX : CXT) (k : Nat) (f : Addr) (fd : FuncData) (ps : List Str) (sp : Addr × Obj → Sp) : Prop where
  len : ∀ p vs H Q E, sp p vs H Q E → vs.length = ps.length
  run : ∀ (A : Around) (outer : List Env) (s : Shared) (H : Hp) (args : Args) (us : List Value) (vs : List V) (Q : VK) (E : XK) (p : Addr × Obj), RoomH k A → PinOk outer H s p → Env0 P w K mg base A outer s H → BindsTo s fd args (ps.zip us) → Vals vs us → sp p vs H Q E →
    codeAny (model P w) A (.call (.ref f) args) (CR CX outer P w H s Q E) s
theorem fn_ofW {CX : CXT} {P : Program} {w : World} {K : PySem.W.Frag} {mg : Str → Option Value} {base : Heap} {k : Nat} {f : Addr} {name qual : Str} {params : Arguments} {body : List Stmt} {scope : Scope} {dV kV doc pm cdv ct oc : Value} {an od : Option Addr}
    {osl : Array (Option Value)} {N ps : List Str} {sp : Addr × Obj → Sp} (lk : K.lookup f = some ⟨oc, od, .func (PySem.W.fnOf name qual params body scope dV kV doc pm an cdv ct), osl⟩) (hcd : PySem.W.codeIn K cdv qual = true) (S : FnScope N ps scope)
    (len : ∀ p vs H Q E, sp p vs H Q E → vs.length = ps.length)
    (hbody : ∀ (A : Around) (outer : List Env) (s : Shared) (H : Hp) (vs : List V) (Q : VK) (E : XK) (p : Addr × Obj), RoomH k (A.deeper (envOfC qual scope s.heap.objs.size f cdv)) → sp p vs H Q E →
      ∃ t, PSs (cxH CX P w K mg base N qual scope f cdv A outer s H E p) body t ∧ t { nx := fun _ H' => Q .non H', rt := Q } (L2.start N vs) H) :
    FnW P w K mg base CX (k + 1) f (PySem.W.fnOf name qual params body scope dV kV doc pm an cdv ct) ps sp := by
  refine ⟨len, fun A outer s H args us vs Q E p hr hpin e0 hb r hsp => ?_⟩
  have hl := len _ _ _ _ _ hsp
  have KX : K.In s.heap := e0.mod.kin.keeps fun b o e => (e0.bs b o e).1
  have lim : s.heap.NoLimit := e0.mod.nolimit.keeps fun b o e => (e0.bs b o e).1
  have hkind : ∀ y ∈ ps.zip us, scope.names.lookup y.1 = some .local ∨ (scope.names.lookup y.1 = some .cell ∧ ((cellsFrom (s.heap.objs.size + 1) scope.names []).lookup y.1).isSome = true) := fun ⟨n, v⟩ hy =>
    (S.par n (List.of_mem_zip hy).1).elim .inl fun q => .inr ⟨q, PySem.W.cellsFrom_some _ _ _ (.inl q)⟩
  refine codeAny_call_function hr.depth (KX _ _ lk) rfl S.co S.gen rfl (PySem.W.codeRec_of KX hcd) (hb _ _ _ _ (wpAny_newFunctionEnv_cells S.kind hkind fun env he s1 x => ?_))
  subst he
  obtain ⟨t, ht, hq⟩ := hbody A outer s H vs Q E p (hr.deeper _) hsp
  have I : Inv (cxH CX P w K mg base N qual scope f cdv A outer s H E p) [] (L2.start N vs) H s1 := inv_startH S hpin e0 hl r x
  refine ⟨lim.keeps x.toInCall.keep, codeAny_func (wpAny_mono (ht.run [] s1 (L2.start N vs) H _ I hq) (fun fl s' hs => ?_) fun e s' hs => hs)⟩
  have fin : ∀ {σ' : L2.St} {H' : Hp} {v : V} {u : Value}, Inv (cxH CX P w K mg base N qual scope f cdv A outer s H E p) [] σ' H' s' → L2.RelV v u → Q v H' → CE outer P w H s Q u s' :=
    fun {σ' H' v u} J rv q => ⟨v, H', J.os, J.bare, J.base, J.hok, rv, q⟩
  cases fl with
  | ret u => exact fin hs.choose_spec.choose_spec.choose_spec.1 hs.choose_spec.choose_spec.choose_spec.2.1 hs.choose_spec.choose_spec.choose_spec.2.2
  | next => exact fin (v := V.non) (u := Value.none) hs.choose_spec.choose_spec.1 rfl hs.choose_spec.choose_spec.2
  | brk => exact hs.choose_spec.choose_spec.2.elim
  | cont => exact hs.choose_spec.choose_spec.2.elim
section
variable {X : Cx} {CX : CXT} {k : Nat} {f C : Addr} {fd : FuncData} {ps : List Str} {sp : Addr × Obj → Sp} {E : L2.St → XK} {x m : Str} {q pos apos : Pos} {e o : Expr} {es : List Expr} {ta : TE} {t : TA} {p : Addr × Obj}
theorem run_fnW {pins : List (Addr × Obj)} {σ : L2.St} {H : Hp} {s : Shared} {Q : VK} {us : List Value} {vs : List V} (F : FnW X.prog X.w X.K X.mg X.base CX k f fd ps sp) (hr : RoomH k X.A) (hp : p ∈ X.pn) (hb : Binds X.K fd ps []) (hx : PassesAt CX X σ (E σ))
    (I : Inv X pins σ H s) (r : Vals vs us) (h : sp p vs H Q (E σ)) : wpAny (model X.prog X.w) X.A (call (.ref f) us) (EP X pins σ Q) X.xe s := by
  have hl : us.length = ps.length := by rw [← r.length]; exact F.len _ _ _ _ _ h
  have b := hb s us I.kIn (by rw [List.append_nil]; exact hl)
  rw [List.append_nil] at b
  have P1 := I.pin p (List.mem_append_left _ hp)
  have hpin : PinOk X.stack H s p := ⟨P1.1, P1.2.1, fun hm => (List.mem_cons.mp (I.stkSub p.1 hm)).elim P1.2.2.1 P1.2.2.2.1, P1.2.2.2.2⟩
  refine wpAny_call (codeAny_mono (F.run X.A X.stack s H ⟨us, []⟩ us vs Q (E σ) p hr hpin I.env0 b r h) fun r s' hq => ?_)
  match r, hq with
  | .error e, hq => exact hx pins H s e s' I hq
  | .ok (.ret u), hq => exact I.after hq
  | .ok .next, hq => exact False.elim hq
  | .ok .brk, hq => exact False.elim hq
  | .ok .cont, hq => exact False.elim hq
theorem pe_callW (F : FnW X.prog X.w X.K X.mg X.base CX k f fd ps sp) (hr : RoomH k X.A) (hp : p ∈ X.pn) (hg : Gl X x) (hm : X.mg x = some (.ref f)) (hk : PySem.W.keepIn X.K (.ref f) = true) (hb : Binds X.K fd ps []) (hx : ∀ σ, PassesAt CX X σ (E σ))
    (ha : PA X (e :: es) t) (hdb : (x == ("__debug__" : Str)) = false := by decide) (he : starEach (e :: es) X.env = (false, eval e X.env) :: starEach es X.env := by rfl) (hpl : (backTo pos (starEach es X.env)).any (·.1) = false := by rfl) :
    PE X (.Call (.Name x q) (e :: es) [] pos) (tCallS (sp p) E t) := by
  refine ⟨fun pins s σ H Q I h => wpAny_Call_Name_kw (ld_glob I hg hm ?_ hdb)⟩
  exact PySem.W.callWith_K (h₀ := X.base) I.ok.mod.kin hk (thn (ha.run pos pins s σ H _ I h) fun us s1 ⟨vs, H1, I1, r, q⟩ => ⟨I1.kIn, run_fnW F hr hp hb (hx σ) I1 r q⟩) he hpl
end
/-- a def that lets nothing out: its body's rule -/
theorem Fun_okW {P : Program} {w : World} {K : PySem.W.Frag} {mg : Str → Option Value} {base : Heap} {x qual : Str} {st : Stmt} {f : Addr} {fd : FuncData} {N ps : List Str} {k : Nat} {sp : Addr × Obj → Sp} (F : Fun K x qual st f fd) (S : FnScope N ps (defScope st)) (len : ∀ p vs H Q E, sp p vs H Q E → vs.length = ps.length)
    (hbody : ∀ (cdv : Value) (A : Around) (outer : List Env) (s : Shared) (H : Hp) (vs : List V) (Q : VK) (E : XK) (p : Addr × Obj), RoomH k (A.deeper (envOfC qual (defScope st) s.heap.objs.size f cdv)) → sp p vs H Q E →
      ∃ t, PSs (cxH CX0 P w K mg base N qual (defScope st) f cdv A outer s H E p).nox (defBody st) t ∧ t { nx := fun _ H' => Q .non H', rt := Q } (L2.start N vs) H) : FnW P w K mg base CX0 (k + 1) f fd ps sp := by
  obtain ⟨oc, od, kV, doc, pm, an, cdv, ct, osl, rfl, lk, hcd⟩ := F.ex
  refine fn_ofW lk hcd S len fun A outer s H vs Q E p hr hsp => ?_
  obtain ⟨t, h, q⟩ := hbody cdv A outer s H vs Q E p hr hsp
  exact ⟨t, h.nox, q⟩
theorem passA0 {X : Cx} {σ : L2.St} {E : XK} : PassesAt CX0 X σ E := fun _ _ _ _ _ _ h => h.elim
end SI
set_option maxRecDepth 100000
set_option maxHeartbeats 4000000
/-! enumerate(t), t a tuple -/
namespace SI
open PySem PySem.Spec PyProof.Rows L2
theorem enumT_meets {v : Value} {o : Obj} {H : Heap → Prop} (B : Begins v o H) :
    Meets (Builtin.«enumerate.__new__» ⟨[.type "enumerate", v], []⟩) (fun _ R s => H s.heap ∧
      R (.ok (.ret (.ref (s.heap.push o).objs.size))) { s with heap := (s.heap.push o).push { cls := .type "enumerate", data := .fields #[.none, .bool false, .ref s.heap.objs.size, rawInt 0, .none, .none] } }) :=
  .of_wp fun prog w A R s h => by
    obtain ⟨hp, g, d, tk, os⟩ := s
    have hsub := sub_enumerate
    have q1 : ∀ {A' : Around} {E : Value → Shared → Prop} {Q : Value → Shared → Prop}, Q (.ref hp.objs.size) ⟨hp.push o, g, d, tk, os⟩ → wpAny (model prog w) A' (pyIter v) Q E ⟨hp, g, d, tk, os⟩ :=
      fun q => B.iter prog w _ _ ⟨hp, g, d, tk, os⟩ _ h.1 q
    wp_walk using q1
    refine wpAny_stack_any fun st => wpAny_pure ?_
    split
    · rename_i c _ _ _ _ _
      cases (c == Value.type "enumerate") <;> (wp_walk using q1) <;> exact ⟨_, rfl, h.2⟩
    · wp_walk using q1
      exact ⟨_, rfl, h.2⟩
theorem enumT_call {prog : Program} {w : World} {A : Around} {E : Value → Shared → Prop} {s : Shared} {v : Value} {o : Obj} {H : Heap → Prop} {Q : Value → Shared → Prop} (B : Begins v o H) (h1 : H s.heap)
    (h : ∀ h', IsEnum h' (s.heap.objs.size + 1) s.heap.objs.size 0 .none → h'.get? s.heap.objs.size = some o → (∀ b o, s.heap.get? b = some o → h'.get? b = some o) → Q (.ref (s.heap.objs.size + 1)) { s with heap := h' }) :
    wpAny (model prog w) A (call (.type "enumerate") [v]) Q E s := by
  refine callType_new F.called_enumerate (by decide) (F.typeCall_enumerate_1 _) (F.newCall_enumerate_1 _) (fun obj => F.args_object_init_2 obj _) F.entry_enumerate_new (enumT_meets B) ⟨h1, ?_⟩
  have hz : (s.heap.push o).objs.size = s.heap.objs.size + 1 := Heap.size_push ..
  have he := Heap.get?_push_size (s.heap.push o) (o := { cls := .type "enumerate", data := .fields #[.none, .bool false, .ref s.heap.objs.size, rawInt 0, .none, .none] }) rfl
  rw [hz] at he
  show _ ∧ _
  rw [hz]
  exact ⟨⟨_, he, rfl⟩, h _ he (Heap.get?_push_of_some _ (Heap.get?_push_size _ B.free)) fun b o x => Heap.get?_push_of_some _ (Heap.get?_push_of_some _ x)⟩
/-- the tuple at a as it stands at each turn, each item in a new pair -/
def IteT (K : PySem.W.Frag) (a : Addr) : It :=
  ⟨fun i H => ∃ (xs : List V) (x : V), SqT K H a xs ∧ xs[i]? = some x, fun i H v H' => ∃ T x, v = .ref T ∧ H T = none ∧ H' = upd H T (.tup [.int (i : Nat), x]) ∧ ∀ xs, SqT K H a xs → xs[i]? = some x, fun i H => ∃ xs : List V, SqT K H a xs ∧ xs.length = i⟩
theorem turn_enumT {P : Program} {w : World} {K : PySem.W.Frag} {elts : List Expr} {kk : Nat} {tpos : Pos} (a e it : Addr) :
    Turn P w K (.Tuple elts kk tpos) (IteT K a) [e, it] e (fun i h => (∃ old, IsEnum h e it ((i : Nat) : Int) old) ∧ h.IsTupleIter it a i ∧ e ≠ it ∧ a ≠ it ∧ a ≠ e) where
  mem := by simp
  obj := fun i h st b hb => by
    obtain ⟨⟨old, he⟩, ⟨o, ho, hc, hd⟩, _⟩ := st
    have e' : b = e ∨ b = it := by simpa using hb
    rcases e' with z | z
    · rw [z]; exact ⟨_, he, fun v q => nomatch q⟩
    · rw [z]; exact ⟨o, ho, fun v q => by rw [hd] at q; cases q⟩
  keep := fun i h h' st k => let ⟨⟨old, he⟩, hi, hne⟩ := st; ⟨⟨old, k e (by simp) _ he⟩, hi.at fun o q => k it (by simp) o q, hne⟩
  item := by
    intro X hP hw hK hc i pins s σ H E I hf st hg
    subst hP hw hK
    obtain ⟨⟨old, he⟩, hit, hne, hai, hae⟩ := st
    obtain ⟨xs, x, hq, hx⟩ := hg
    obtain ⟨its, rv, p, hz⟩ := I.tuple hq
    obtain ⟨u, hu, ru⟩ := rv.get hx
    have hlt : i < its.toArray.size := by
      have := (List.getElem?_eq_some_iff.mp hu).1
      simpa using this
    have hel : e < s.heap.objs.size := Heap.lt_size he
    have hil : it < s.heap.objs.size := by obtain ⟨_, q, _⟩ := hit; exact Heap.lt_size q
    have pt : s.heap.IsTuple a its.toArray := p
    have D : Draws X.prog X.w X.A.in1 it [it, a] its.toArray.size (fun i v => its.toArray[i]? = some v) (fun i h => h.IsTupleIter it a i ∧ h.IsTuple a its.toArray) := Draws.tuple (show X.A.in1.handled = none from I.ok.hd hc) it a hai its.toArray
    refine wpAny_pyNext_enum_itemD D he ⟨hit, pt⟩ hlt hne (by simp [hne, Ne.symm hae]) fun y h' tk hy ho hst' hT hsz hk => ?_
    have ey : y = u := by
      have e1 : its.toArray[i]? = some u := by simpa using hu
      have e2 : its.toArray[i]? = some y := hy
      rw [e1] at e2
      exact (Option.some.inj e2).symm
    subst ey
    refine ⟨_, rfl, wpAny_letOwnedTupleGo_enum (s := { s with heap := h', toks := tk + 1 }) ho fun h'' he' sb => ?_⟩
    have hT2 : h''.get? s.heap.objs.size = some { cls := .type "tuple", data := .seq #[.int i tk, y] } := (sb.2 _ (Nat.ne_of_gt hel)).trans hT
    have new : ObjOk X.prog X.w (upd H s.heap.objs.size (.tup [.int (i : Nat), x])) h'' s.heap.objs.size (.tup [.int (i : Nat), x]) :=
      ⟨by show 2 ≤ sizeLine; decide, [.int i tk, y], .cons ⟨_, rfl⟩ (.cons ru .nil), ⟨_, hT2, rfl, _, rfl⟩⟩
    have I1 : Inv X pins σ (upd H s.heap.objs.size (.tup [.int (i : Nat), x])) { s with heap := h'', toks := tk + 1 } :=
      I.turnedNew (ch := [e, it]) (fun b o hb q => (sb.2 b (fun z => hb (by simp [z]))).trans (hk b o (fun z => hb (by simp [z])) (fun z => hb (by simp [z])) q)) hf (Nat.le_refl _) new
    refine ⟨.ref s.heap.objs.size, _, I1, rfl, ⟨_, x, rfl, I.hok.fresh (Nat.le_refl _), rfl, fun ys hy => by rw [I.tuple_inj hy hq]; exact hx⟩, ⟨⟨y, ?_⟩, hst'.1.at fun o q => (sb.2 it (Ne.symm hne)).trans q, hne, hai, hae⟩, fun b hb => ?_⟩
    · have e1 : ((i + 1 : Nat) : Int) = (i : Int) + 1 := by omega
      rw [e1]; exact he'
    · have hb' : b < s.heap.objs.size := by
        have e' : b = e ∨ b = it := by simpa using hb
        rcases e' with z | z <;> rw [z]
        · exact hel
        · exact hil
      rw [upd_ne (Nat.ne_of_lt hb')]
      exact (hf b hb).1
  done := by
    intro X hP hw hK hc i pins s σ H E I hf st hg
    subst hP hw hK
    obtain ⟨⟨old, he⟩, hit, hne, hai, hae⟩ := st
    obtain ⟨xs, hq, hx⟩ := hg
    obtain ⟨its, rv, p, hz⟩ := I.tuple hq
    have pt : s.heap.IsTuple a its.toArray := p
    obtain ⟨f0, f1, f2, f3, f4, f5⟩ := hf it (by simp)
    have hl : xs.length = its.length := rv.length
    have hi : i = its.toArray.size := by rw [List.size_toArray, ← hl, hx]
    subst hi
    have D : Draws X.prog X.w X.A.in1 it [it, a] its.toArray.size (fun i v => its.toArray[i]? = some v) (fun i h => h.IsTupleIter it a i ∧ h.IsTuple a its.toArray) := Draws.tuple (show X.A.in1.handled = none from I.ok.hd hc) it a hai its.toArray
    exact wpAny_pyNext_enum_endD D he ⟨hit, pt⟩ fun h' eb => ⟨rfl, I.turned (t' := s.toks) (fun b o hb q => eb b o hb q) f0 f1 f3 f4 f5⟩
  self := fun A i s Q E st h => let ⟨⟨_, he⟩, _⟩ := st; wpAny_pyIter_enum he h
def iEnumT (K : PySem.W.Frag) (ta : TA) : TI := fun σ H R => ta σ H fun vs H1 => ∃ a xs, vs = [.ref a] ∧ SqT K H1 a xs ∧ R (IteT K a) H1
theorem pi_enumT {X : Cx} {e : Expr} {ta : TA} {p pos tpos : Pos} {elts : List Expr} {kk : Nat} (hg : Gl X "enumerate") (hm : X.mg "enumerate" = none) (ha : PA X [e] ta) (hs : starEach [e] X.env = [(false, eval e X.env)] := by rfl) :
    PI X (.Tuple elts kk tpos) (.Call (.Name "enumerate" p) [e] [] pos) (iEnumT X.K ta) := by
  refine ⟨fun pins s σ H R I h => Call_ (ld_blt I hg hm boot_enumerate (PyProof.Rows.callWith_type1 (thn (ha.run pos pins s σ H _ I h) fun us s1 ⟨vs, H1, I1, r1, q1⟩ => ?_) hs rfl))⟩
  obtain ⟨a, xs, ex, hq, q⟩ := q1
  subst ex
  cases r1 with
  | cons r rr =>
    cases rr
    cases r
    obtain ⟨its, rv, p', hz⟩ := I1.tuple hq
    have al : a < s1.heap.objs.size := by obtain ⟨o, ho, _⟩ := p'; exact Heap.lt_size ho
    refine enumT_call (begins_tuple a its.toArray) p' fun h' he hit hk => wpAny_pyIter_enum he ?_
    have I2 : Inv X pins σ H1 { s1 with heap := h' } := I1.kept (t' := s1.toks) hk
    refine ⟨s1.heap.objs.size + 1, [s1.heap.objs.size + 1, s1.heap.objs.size], _, _, H1, rfl, I2, turn_enumT a (s1.heap.objs.size + 1) s1.heap.objs.size, ⟨⟨.none, he⟩, ⟨_, hit, rfl, rfl⟩, Nat.succ_ne_self _, Nat.ne_of_lt al, Nat.ne_of_lt (Nat.lt_succ_of_lt al)⟩, fun b hb => ?_, q⟩
    have e' : b = s1.heap.objs.size + 1 ∨ b = s1.heap.objs.size := by simpa using hb
    have hle : s1.heap.objs.size ≤ b := e'.elim (fun z => by rw [z]; exact Nat.le_add_right _ _) fun z => by rw [z]; exact Nat.le_refl _
    exact I1.fpOk hle (I1.hok.fresh hle)
/-- a loop over enumerate(t) -/
theorem for_enumT {K : PySem.W.Frag} {a : Addr} {xs : List V} {g : TG} {tb : TS} {D : Ends} {σ : L2.St} {H : Hp} (Pv : Nat → L2.St → Hp → Prop) (h0 : Pv 0 σ H) (hq : ∀ i σ H, Pv i σ H → SqT K H a xs)
    (hs : ∀ (i : Nat) (x : V) (T : Addr) (σ : L2.St) (H : Hp), xs[i]? = some x → Pv i σ H → H T = none → g (.ref T) σ (upd H T (.tup [.int (i : Nat), x])) fun σ2 H2 => tb { D with nx := Pv (i + 1), ct := Pv (i + 1), bk := D.nx } σ2 H2) (hd : ∀ σ H, Pv xs.length σ H → D.nx σ H) :
    ∃ W : Nat → Nat → L2.St → Hp → Prop, (∃ m, W 0 m σ H) ∧ ∀ i m σ H, W i m σ H →
      ((IteT K a).stop i H ∧ D.nx σ H) ∨ ((IteT K a).go i H ∧ ∃ N : L2.St → Hp → Prop, (∀ σ' H', N σ' H' → ∃ m', m' < m ∧ W (i + 1) m' σ' H') ∧ ∀ v H', (IteT K a).yld i H v H' → g v σ H' fun σ2 H2 => tb { D with nx := N, ct := N, bk := D.nx } σ2 H2) := by
  refine ⟨fun i m σ H => m = xs.length - i ∧ i ≤ xs.length ∧ Pv i σ H, ⟨xs.length, rfl, Nat.zero_le _, h0⟩, ?_⟩
  rintro i m σ H ⟨rfl, hi, p⟩
  have qx := hq i σ H p
  by_cases hlt : i < xs.length
  · refine .inr ⟨⟨xs, _, qx, List.getElem?_eq_getElem hlt⟩, Pv (i + 1), fun σ' H' p' => ⟨xs.length - (i + 1), by omega, rfl, hlt, p'⟩, fun v H' y => ?_⟩
    obtain ⟨T, x', rfl, hT, rfl, f1⟩ := y
    exact hs i x' T σ H (f1 xs qx) p hT
  · obtain rfl : i = xs.length := by omega
    exact .inl ⟨⟨xs, qx, rfl⟩, hd σ H p⟩
end SI
set_option maxRecDepth 100000
set_option maxHeartbeats 4000000
/-! sum(t), t a tuple of ints -/
namespace SI
open PySem PySem.Spec PyProof.Rows L2
def rSumT (K : PySem.W.Frag) : List V → Hp → VK → Prop := fun vs H Q => ∃ (a : Addr) (ns : List Int), vs = [V.ref a] ∧ SqT K H a (ns.map V.int) ∧ Q (.int ns.sum) H
theorem cr_sumT {X : Cx} (hc : X.calm = true) : CallR X (.builtin "sum") (rSumT X.K) := by
  intro pins s σ H vs us Q I r h
  obtain ⟨a, ns, rfl, hs, q⟩ := h
  obtain ⟨its, rv, hl, _⟩ := I.tuple hs
  rw [Vals.ref1 r]
  have hi := rv.ints
  obtain ⟨xs, e⟩ := hi.allInts.items
  have hn : numsOf (intItems xs).toList = ns := by rw [← e]; exact hi.numsOf
  rw [nums_intItems] at hn
  have hl' : s.heap.IsTuple a (intItems xs) := e ▸ (show s.heap.IsTuple a its.toArray from hl)
  refine PySem.W.ktm_sumG (I.ok.hd hc) hl' fun h' tk t' hk => ?_
  rw [preSum_eq, List.take_of_length_le (by simp), hn]
  exact ⟨.int _, H, I.kept hk, ⟨_, rfl⟩, q⟩
end SI
namespace SI
open PySem L2
/-- a loop over enumerate(list) -/
theorem for_enumL {K : PySem.W.Frag} {a : Addr} {xs : List V} {g : TG} {tb : TS} {D : Ends} {σ : L2.St} {H : Hp} (Pv : Nat → L2.St → Hp → Prop) (h0 : Pv 0 σ H) (hq : ∀ i σ H, Pv i σ H → SqL K H a xs)
    (hs : ∀ (i : Nat) (x : V) (T : Addr) (σ : L2.St) (H : Hp), xs[i]? = some x → Pv i σ H → H T = none → g (.ref T) σ (upd H T (.tup [.int (i : Nat), x])) fun σ2 H2 => tb { D with nx := Pv (i + 1), ct := Pv (i + 1), bk := D.nx } σ2 H2) (hd : ∀ σ H, Pv xs.length σ H → D.nx σ H) :
    ∃ W : Nat → Nat → L2.St → Hp → Prop, (∃ m, W 0 m σ H) ∧ ∀ i m σ H, W i m σ H →
      ((Ite K a).stop i H ∧ D.nx σ H) ∨ ((Ite K a).go i H ∧ ∃ N : L2.St → Hp → Prop, (∀ σ' H', N σ' H' → ∃ m', m' < m ∧ W (i + 1) m' σ' H') ∧ ∀ v H', (Ite K a).yld i H v H' → g v σ H' fun σ2 H2 => tb { D with nx := N, ct := N, bk := D.nx } σ2 H2) := by
  refine ⟨fun i m σ H => m = xs.length - i ∧ i ≤ xs.length ∧ Pv i σ H, ⟨xs.length, rfl, Nat.zero_le _, h0⟩, ?_⟩
  rintro i m σ H ⟨rfl, hi, p⟩
  have qx := hq i σ H p
  by_cases hlt : i < xs.length
  · refine .inr ⟨⟨xs, _, qx, List.getElem?_eq_getElem hlt⟩, Pv (i + 1), fun σ' H' p' => ⟨xs.length - (i + 1), by omega, rfl, hlt, p'⟩, fun v H' y => ?_⟩
    obtain ⟨T, x', rfl, hT, rfl, f1⟩ := y
    exact hs i x' T σ H (f1 xs qx) p hT
  · exact .inl ⟨⟨xs, qx, by omega⟩, hd σ H (by rw [show xs.length = i by omega]; exact p)⟩
end SI
namespace SI
open PySem L2
/-- a comprehension over enumerate(t) -/
theorem lc_enumT {K : PySem.W.Frag} {a : Addr} {xs : List V} {g : TG} {tt : TT} {te : TE} {vs : List Nat} {σ : L2.St} {H1 : Hp} {D : Addr} {Qd : Hp → Prop} (Pv : Nat → Hp → Prop) (h0 : Pv 0 (upd H1 D (.lst []))) (hl : ∀ i H, Pv i H → SqT K H a xs)
    (hs : ∀ (i : Nat) (x : V) (T : Addr) (H : Hp), xs[i]? = some x → Pv i H → H T = none → g (.ref T) (wipe σ vs) (upd H T (.tup [.int (i : Nat), x])) fun σ2 H2 => wipe σ2 vs = wipe σ vs ∧ tt σ2 H2 fun b H3 =>
      if b = true then te σ2 H3 fun y H4 => ∃ acc, H4 D = some (.lst acc) ∧ acc.length < sizeLine ∧ Pv (i + 1) (upd H4 D (.lst (acc ++ [y]))) else Pv (i + 1) H3) (hd : ∀ H, Pv xs.length H → Qd H) :
    ∃ W : Nat → Nat → Hp → Prop, (∃ m, W 0 m (upd H1 D (.lst []))) ∧ ∀ i m H, W i m H →
      ((IteT K a).stop i H ∧ Qd H) ∨ ((IteT K a).go i H ∧ ∃ Nx : Hp → Prop, (∀ H', Nx H' → ∃ m', m' < m ∧ W (i + 1) m' H') ∧ ∀ x H', (IteT K a).yld i H x H' → g x (wipe σ vs) H' fun σ2 H2 => wipe σ2 vs = wipe σ vs ∧ tt σ2 H2 fun b H3 =>
        if b = true then te σ2 H3 fun y H4 => ∃ acc, H4 D = some (.lst acc) ∧ acc.length < sizeLine ∧ Nx (upd H4 D (.lst (acc ++ [y]))) else Nx H3) := by
  refine ⟨fun i m H => m = xs.length - i ∧ i ≤ xs.length ∧ Pv i H, ⟨xs.length, rfl, Nat.zero_le _, h0⟩, ?_⟩
  rintro i m H ⟨rfl, hi, p⟩
  have qx := hl i H p
  by_cases hlt : i < xs.length
  · refine .inr ⟨⟨xs, _, qx, List.getElem?_eq_getElem hlt⟩, Pv (i + 1), fun H' p' => ⟨xs.length - (i + 1), by omega, rfl, hlt, p'⟩, fun v H' y => ?_⟩
    obtain ⟨T, x', rfl, hT, rfl, f1⟩ := y
    exact hs i x' T H (f1 xs qx) p hT
  · obtain rfl : i = xs.length := by omega
    exact .inl ⟨⟨xs, qx, rfl⟩, hd H p⟩
end SI
set_option maxRecDepth 100000
set_option maxHeartbeats 4000000
/-! defs, methods, classes under their names; what they let out is wished for at the caller's slots -/
namespace SI
open PySem PySem.Spec PyProof.Rows L2
/-- a def that lets nothing out, as one that may -/
theorem ok0X {P : Program} {w : World} {K : PySem.W.Frag} {mg : Str → Option Value} {base : Heap} {k : Nat} {f : Addr} {fd : FuncData} {ps : List Str} {sp : Sp} (F : FnOk P w K mg base CX0 k f fd ps sp) : FnOk P w K mg base (L2.CX P w) k f fd ps sp :=
  ⟨F.len, fun A outer s H args us vs Q E hr e0 hb r h => codeAny_mono (F.run A outer s H args us vs Q E hr e0 hb r h) fun res s' z => match res, z with
    | .ok (.ret _), z => z
    | .ok .next, z => z
    | .ok .brk, z => z
    | .ok .cont, z => z
    | .error _, z => False.elim z⟩
structure Cl (P : Program) (w : World) (K : PySem.W.Frag) (mg : Str → Option Value) (base : Heap) (k : Nat) (x : Str) (sp : Sp) (dvs : List V) : Prop where
  ex : ∃ (f : Addr) (fd : FuncData) (ps : List Str) (ds : List Value), FnOk P w K mg base (L2.CX P w) k f fd ps sp ∧ mg x = some (.ref f) ∧ PySem.W.keepIn K (.ref f) = true ∧ Binds K fd ps ds ∧ Vals dvs ds
structure Mt (P : Program) (w : World) (K : PySem.W.Frag) (mg : Str → Option Value) (base : Heap) (k : Nat) (C : Addr) (m : Str) (sp : Sp) (dvs : List V) : Prop where
  ex : ∃ (f : Addr) (fd : FuncData) (ps : List Str) (ds : List Value), Cls K C ∧ Meth K C m f ∧ FnOk P w K mg base (L2.CX P w) k f fd ps sp ∧ Binds K fd ps ds ∧ Vals dvs ds
structure Mkr (P : Program) (w : World) (K : PySem.W.Frag) (mg : Str → Option Value) (base : Heap) (k : Nat) (x : Str) (C : Addr) (sp : Sp) (dvs : List V) : Prop where
  ex : ∃ (f : Addr) (fd : FuncData) (ps : List Str) (ds : List Value), Mk K C f ∧ FnOk P w K mg base (L2.CX P w) k f fd ps sp ∧ mg x = some (.ref C) ∧ Binds K fd ps ds ∧ Vals dvs ds
def tMethS (C : Addr) (m : Str) (sp : Sp) (dvs : List V) (E : L2.St → XK) (ta : TE) (t : TA) : TE := fun σ H Q => ta σ H fun x H1 => ∃ a dx fs, x = .ref a ∧ H1 a = some (.ins C dx fs) ∧ fs.lookup m = none ∧
  t σ H1 fun vs H2 => sp (x :: (vs ++ dvs)) H2 Q (E σ)
def tMakeS (C : Addr) (sp : Sp) (dvs : List V) (E : L2.St → XK) (t : TA) : TE := fun σ H Q => t σ H fun vs H1 => ∀ x dx, H1 x = none → H1 dx = none → dx ≠ x →
  sp (.ref x :: (vs ++ dvs)) (upd (upd H1 dx (.own x)) x (.ins C dx [])) (fun v H2 => v = .non ∧ Q (.ref x) H2) (E σ)
section
variable {X : Cx} {k j : Nat} {f C : Addr} {x m : Str} {sp : Sp} {dvs : List V} {p pos apos : Pos} {e o : Expr} {es : List Expr} {ta : TE} {t : TA} {W : WX}
/-! nothing comes out here -/
theorem pe_c (c : Cl X.prog X.w X.K X.mg X.base k x sp dvs) (hr : Room j X.A) (hk : k ≤ j) (hg : Gl X x) (ha : PA X (e :: es) t)
    (hdb : (x == ("__debug__" : Str)) = false := by decide) (he : starEach (e :: es) X.env = (false, eval e X.env) :: starEach es X.env := by rfl) (hpl : (backTo pos (starEach es X.env)).any (·.1) = false := by rfl) :
    PE X (.Call (.Name x p) (e :: es) [] pos) (tCall sp dvs E0 t) := by
  obtain ⟨f, fd, ps, ds, F, hm, kp, b, d⟩ := c.ex
  exact pe_call F (hr.mono hk) hg hm kp b d passL ha hdb he hpl
theorem pe_c0 (c : Cl X.prog X.w X.K X.mg X.base k x sp dvs) (hr : Room j X.A) (hk : k ≤ j) (hg : Gl X x) (hdb : (x == ("__debug__" : Str)) = false := by decide) : PE X (.Call (.Name x p) [] [] pos) (tCall sp dvs E0 tNil) := by
  obtain ⟨f, fd, ps, ds, F, hm, kp, b, d⟩ := c.ex
  exact pe_call0 F (hr.mono hk) hg hm kp b d passL hdb
theorem pe_mk (c : Mkr X.prog X.w X.K X.mg X.base k x C sp dvs) (hr : Room j X.A) (hk : k + 1 ≤ j) (hg : Gl X x) (ha : PA X (e :: es) t)
    (hdb : (x == ("__debug__" : Str)) = false := by decide) (he : starEach (e :: es) X.env = (false, eval e X.env) :: starEach es X.env := by rfl) (hpl : (backTo pos (starEach es X.env)).any (·.1) = false := by rfl) :
    PE X (.Call (.Name x p) (e :: es) [] pos) (tMake C sp dvs E0 t) := by
  obtain ⟨f, fd, ps, ds, M, F, hm, b, d⟩ := c.ex
  exact pe_make M F (hr.mono hk) hg hm b d passL ha hdb he hpl
theorem pe_mt {pl : Sem Bool} (c : Mt X.prog X.w X.K X.mg X.base k C m sp dvs) (hr : Room j X.A) (hk : k ≤ j) (he : PE X o ta) (ha : PA X (e :: es) t)
    (hst : starEach (e :: es) X.env = (false, eval e X.env) :: starEach es X.env := by rfl) (hpl : (backTo pos (starEach es X.env)).any (·.1) = false := by rfl)
    (ht : eval (.Call (.Attribute o m apos) (e :: es) [] pos) X.env = (do
      let ov ← eval o X.env
      standAt apos.atName
      let (f, first) ← holding [ov] (getMethod ov m pl)
      callWith pos f first (backTo pos (starEach (e :: es) X.env)) (backToKw pos (keywordEach [] X.env))) := by rfl) :
    PE X (.Call (.Attribute o m apos) (e :: es) [] pos) (tMeth C m sp dvs E0 ta t) := by
  obtain ⟨f, fd, ps, ds, hc, hm, F, b, d⟩ := c.ex
  exact pe_meth (pl := pl) he hc hm F (hr.mono hk) b d passL ha hst hpl ht
theorem pe_mt0 {pl : Sem Bool} (c : Mt X.prog X.w X.K X.mg X.base k C m sp dvs) (hr : Room j X.A) (hk : k ≤ j) (he : PE X o ta)
    (ht : eval (.Call (.Attribute o m apos) [] [] pos) X.env = (do
      let ov ← eval o X.env
      standAt apos.atName
      let (f, first) ← holding [ov] (getMethod ov m pl)
      callWith pos f first (backTo pos (starEach [] X.env)) (backToKw pos (keywordEach [] X.env))) := by rfl) :
    PE X (.Call (.Attribute o m apos) [] [] pos) (tMeth C m sp dvs E0 ta tNil) := by
  obtain ⟨f, fd, ps, ds, hc, hm, F, b, d⟩ := c.ex
  exact pe_meth0 (pl := pl) he hc hm F (hr.mono hk) b d passL ht
/-- int(i), i an int -/
theorem call_intI : CallR X (.type "int") (fun xs H Q => ∃ i, xs = [.int i] ∧ Q (.int i) H) := fun pins s σ H xs us Q I r h => call_int1 pins s σ H xs us Q I r (.inl h)
/-! errors come out: W is wished -/
theorem pe_cX (tk : Takes X W) (c : Cl X.prog X.w X.K X.mg X.base k x sp dvs) (hr : Room j X.A) (hk : k ≤ j) (hg : Gl X x) (ha : PA X (e :: es) t)
    (hdb : (x == ("__debug__" : Str)) = false := by decide) (he : starEach (e :: es) X.env = (false, eval e X.env) :: starEach es X.env := by rfl) (hpl : (backTo pos (starEach es X.env)).any (·.1) = false := by rfl) :
    PE X (.Call (.Name x p) (e :: es) [] pos) (tCallSD sp dvs (WE W) t) := by
  obtain ⟨f, fd, ps, ds, F, hm, kp, b, d⟩ := c.ex
  exact pe_callSD F (hr.mono hk) hg hm kp b d (fun σ => passAt tk σ) ha hdb he hpl
theorem run_mkS {pins : List (Addr × Obj)} {σ : L2.St} {H : Hp} {s : Shared} {Q : VK} {us : List Value} {vs : List V} {fd : FuncData} {ps : List Str} {ds : List Value} {E : XK} (M : Mk X.K C f) (F : FnOk X.prog X.w X.K X.mg X.base (L2.CX X.prog X.w) k f fd ps sp) (hr : Room (k + 1) X.A) (hb : Binds X.K fd ps ds) (hd : Vals dvs ds)
    (hx : PassesAt (L2.CX X.prog X.w) X σ E) (I : Inv X pins σ H s) (r : Vals vs us)
    (h : ∀ x dx, H x = none → H dx = none → dx ≠ x → sp (.ref x :: (vs ++ dvs)) (upd (upd H dx (.own x)) x (.ins C dx [])) (fun v H2 => v = .non ∧ Q (.ref x) H2) E) :
    wpAny (model X.prog X.w) X.A (call (.ref C) us) (EP X pins σ Q) X.xe s := by
  have hq := h (s.heap.objs.size + 1) s.heap.objs.size (I.hok.fresh (Nat.le_succ _)) (I.hok.fresh (Nat.le_refl _)) (Nat.ne_of_lt (Nat.lt_succ_self _))
  have I2 := Inv.made (C := C) I
  have r2 : Vals (V.ref (s.heap.objs.size + 1) :: (vs ++ dvs)) (Value.ref (s.heap.objs.size + 1) :: (us ++ ds)) := .cons rfl (r.append hd)
  have hl : (Value.ref (s.heap.objs.size + 1) :: us ++ ds).length = ps.length := (r2.length.symm.trans (F.len _ _ _ _ hq) : _)
  refine wpAny_call (make_map (f := f) I.kIn M.makes M.init (beq_iff_eq.mp M.fn) (codeAny_mono (F.run _ X.stack _ _ ⟨Value.ref (s.heap.objs.size + 1) :: us, []⟩ (Value.ref (s.heap.objs.size + 1) :: (us ++ ds)) _ _ E (hr.make C us [])
    (I2.env0.make C us []) (hb _ (Value.ref (s.heap.objs.size + 1) :: us) I2.kIn hl) r2 hq) fun r s' hq' => ?_))
  match r, hq' with
  | .error e, hq' => exact hx pins _ _ e s' I2 hq'
  | .ok (.ret u), hq' =>
    obtain ⟨v, H', I3, rv, ev, q3⟩ := I2.after hq'
    subst ev
    exact ⟨rv, ⟨V.ref (s.heap.objs.size + 1), H', I3, rfl, q3⟩⟩
  | .ok .next, hq' => exact False.elim hq'
  | .ok .brk, hq' => exact False.elim hq'
  | .ok .cont, hq' => exact False.elim hq'
theorem pe_mkX (tk : Takes X W) (c : Mkr X.prog X.w X.K X.mg X.base k x C sp dvs) (hr : Room j X.A) (hk : k + 1 ≤ j) (hg : Gl X x) (ha : PA X (e :: es) t)
    (hdb : (x == ("__debug__" : Str)) = false := by decide) (he : starEach (e :: es) X.env = (false, eval e X.env) :: starEach es X.env := by rfl) (hpl : (backTo pos (starEach es X.env)).any (·.1) = false := by rfl) :
    PE X (.Call (.Name x p) (e :: es) [] pos) (tMakeS C sp dvs (WE W) t) := by
  obtain ⟨f, fd, ps, ds, M, F, hm, b, d⟩ := c.ex
  exact ⟨fun pins s σ H Q I h => wpAny_Call_Name_kw (ld_glob I hg hm (PySem.W.callWith_K (h₀ := X.base) I.ok.mod.kin M.kp (thn (ha.run pos pins s σ H _ I h) fun us s1 ⟨vs, H1, I1, r, q⟩ => ⟨I1.kIn, run_mkS M F (hr.mono hk) b d (passAt tk σ) I1 r q⟩) he hpl) hdb)⟩
theorem pe_mtX {pl : Sem Bool} (tk : Takes X W) (c : Mt X.prog X.w X.K X.mg X.base k C m sp dvs) (hr : Room j X.A) (hk : k ≤ j) (he : PE X o ta) (ha : PA X (e :: es) t)
    (hst : starEach (e :: es) X.env = (false, eval e X.env) :: starEach es X.env := by rfl) (hpl : (backTo pos (starEach es X.env)).any (·.1) = false := by rfl)
    (ht : eval (.Call (.Attribute o m apos) (e :: es) [] pos) X.env = (do
      let ov ← eval o X.env
      standAt apos.atName
      let (f, first) ← holding [ov] (getMethod ov m pl)
      callWith pos f first (backTo pos (starEach (e :: es) X.env)) (backToKw pos (keywordEach [] X.env))) := by rfl) :
    PE X (.Call (.Attribute o m apos) (e :: es) [] pos) (tMethS C m sp dvs (WE W) ta t) := by
  obtain ⟨f, fd, ps, ds, hc, hm, F, b, d⟩ := c.ex
  refine ⟨fun pins s σ H Q I h => PySem.W.methodCall_KW (pl := pl) (thn (he.run pins s σ H _ I h) fun u s1 ⟨x, H1, I1, rx, a, dx, fs, ex, ea, l, q⟩ => ?_) ht⟩
  subst ex
  obtain rfl : u = Value.ref a := rx
  exact getmeth_ok I1 ea hc hm l (PySem.W.callWith_K (first := [.ref a]) (h₀ := X.base) I.ok.mod.kin hm.kp (thn (ha.run pos pins s1 σ H1 _ I1 q) fun us s2 ⟨vs, H2, I2, r, q2⟩ => ⟨I2.kIn, run_fnSD (us := .ref a :: us) (vs := .ref a :: vs) F (hr.mono hk) b d (passAt tk σ) I2 (.cons rfl r) q2⟩) hst hpl)
end
end SI
set_option maxRecDepth 100000
set_option maxHeartbeats 4000000
/-! what the top has written, a thing at a time -/
namespace SI
open PySem PySem.Spec PyProof.Rows L2 NdefX
section
variable {P : Program} {w : World} {K : PySem.W.Frag} {mg : Str → Option Value} {base : Heap}
structure DefAt (K : PySem.W.Frag) (mg : Str → Option Value) (x : Str) (st : Stmt) (ps : List Str) : Prop where
  ex : ∃ (f : Addr) (fd : FuncData), Fun K x x st f fd ∧ mg x = some (.ref f) ∧ Binds K fd ps []
structure MetAt (K : PySem.W.Frag) (C : Addr) (m qual : Str) (st : Stmt) (ps : List Str) : Prop where
  ex : ∃ (f : Addr) (fd : FuncData), Cls K C ∧ Meth K C m f ∧ Fun K m qual st f fd ∧ Binds K fd ps []
structure MakAt (K : PySem.W.Frag) (mg : Str → Option Value) (x : Str) (C : Addr) (qual : Str) (st : Stmt) (ps : List Str) : Prop where
  ex : ∃ (f : Addr) (fd : FuncData), Mk K C f ∧ Fun K "__init__" qual st f fd ∧ mg x = some (.ref C) ∧ Binds K fd ps []
theorem cl_of {x : Str} {st : Stmt} {N ps : List Str} {k : Nat} {sp : Sp} (D : DefAt K mg x st ps) (S : FnScope N ps (defScope st)) (len : ∀ vs H Q E, sp vs H Q E → vs.length = ps.length)
    (hbody : ∀ (f : Addr) (cdv : Value) (A : Around) (outer : List Env) (s : Shared) (H : Hp) (vs : List V) (Q : VK) (E : XK), Room k (A.deeper (envOfC x (defScope st) s.heap.objs.size f cdv)) → sp vs H Q E →
      ∃ t, PSs (cxOf (L2.CX P w) P w K mg base N x (defScope st) f cdv A outer s H E) (defBody st) t ∧ t { nx := fun _ H' => Q .non H', rt := Q } (L2.start N vs) H) : Cl P w K mg base (k + 1) x sp [] := by
  obtain ⟨f, fd, F, hm, b⟩ := D.ex
  exact ⟨f, fd, ps, [], F.okX S len (hbody f), hm, F.kp, b, .nil⟩
theorem mt_of {m qual : Str} {C : Addr} {st : Stmt} {N ps : List Str} {k : Nat} {sp : Sp} (D : MetAt K C m qual st ps) (S : FnScope N ps (defScope st)) (len : ∀ vs H Q E, sp vs H Q E → vs.length = ps.length)
    (hbody : ∀ (f : Addr) (cdv : Value) (A : Around) (outer : List Env) (s : Shared) (H : Hp) (vs : List V) (Q : VK) (E : XK), Room k (A.deeper (envOfC qual (defScope st) s.heap.objs.size f cdv)) → sp vs H Q E →
      ∃ t, PSs (cxOf (L2.CX P w) P w K mg base N qual (defScope st) f cdv A outer s H E) (defBody st) t ∧ t { nx := fun _ H' => Q .non H', rt := Q } (L2.start N vs) H) : Mt P w K mg base (k + 1) C m sp [] := by
  obtain ⟨f, fd, c, me, F, b⟩ := D.ex
  exact ⟨f, fd, ps, [], c, me, F.okX S len (hbody f), b, .nil⟩
theorem mkr_of {x qual : Str} {C : Addr} {st : Stmt} {N ps : List Str} {k : Nat} {sp : Sp} (D : MakAt K mg x C qual st ps) (S : FnScope N ps (defScope st)) (len : ∀ vs H Q E, sp vs H Q E → vs.length = ps.length)
    (hbody : ∀ (f : Addr) (cdv : Value) (A : Around) (outer : List Env) (s : Shared) (H : Hp) (vs : List V) (Q : VK) (E : XK), Room k (A.deeper (envOfC qual (defScope st) s.heap.objs.size f cdv)) → sp vs H Q E →
      ∃ t, PSs (cxOf (L2.CX P w) P w K mg base N qual (defScope st) f cdv A outer s H E) (defBody st) t ∧ t { nx := fun _ H' => Q .non H', rt := Q } (L2.start N vs) H) : Mkr P w K mg base (k + 1) x C sp [] := by
  obtain ⟨f, fd, M, F, hm, b⟩ := D.ex
  exact ⟨f, fd, ps, [], M, F.okX S len (hbody f), hm, b, .nil⟩
/-- a def that is called by keywords, too -/
structure Cd (P : Program) (w : World) (K : PySem.W.Frag) (mg : Str → Option Value) (base : Heap) (k : Nat) (x : Str) (st : Stmt) (ps : List Str) (sp : Sp) : Prop where
  ex : ∃ (f : Addr) (fd : FuncData), FnOk P w K mg base (L2.CX P w) k f fd ps sp ∧ Fun K x x st f fd ∧ mg x = some (.ref f) ∧ Binds K fd ps []
theorem Cd.cl {k : Nat} {x : Str} {st : Stmt} {ps : List Str} {sp : Sp} (c : Cd P w K mg base k x st ps sp) : Cl P w K mg base k x sp [] := by
  obtain ⟨f, fd, F, Fn, hm, b⟩ := c.ex
  exact ⟨f, fd, ps, [], F, hm, Fn.kp, b, .nil⟩
theorem cd_of {x : Str} {st : Stmt} {N ps : List Str} {k : Nat} {sp : Sp} (D : DefAt K mg x st ps) (S : FnScope N ps (defScope st)) (len : ∀ vs H Q E, sp vs H Q E → vs.length = ps.length)
    (hbody : ∀ (f : Addr) (cdv : Value) (A : Around) (outer : List Env) (s : Shared) (H : Hp) (vs : List V) (Q : VK) (E : XK), Room k (A.deeper (envOfC x (defScope st) s.heap.objs.size f cdv)) → sp vs H Q E →
      ∃ t, PSs (cxOf (L2.CX P w) P w K mg base N x (defScope st) f cdv A outer s H E) (defBody st) t ∧ t { nx := fun _ H' => Q .non H', rt := Q } (L2.start N vs) H) : Cd P w K mg base (k + 1) x st ps sp := by
  obtain ⟨f, fd, F, hm, b⟩ := D.ex
  exact ⟨f, fd, F.okX S len (hbody f), F, hm, b⟩
/-- f(k = v, ..): ks the keywords in the call's order, gV puts their values in the parameters' order -/
def tK0 (m : Nat) (sp : Sp) (gV : List V → List V) (tk : TA) : TE := fun σ H Q => tk σ H fun zs H1 => zs.length = m ∧ sp (gV zs) H1 Q E0
theorem pe_cK0 {X : Cx} {k j : Nat} {x : Str} {st : Stmt} {ps ks : List Str} {sp : Sp} {p pos : Pos} {kws : List Keyword} {tk : TA} {g : {α : Type} → List α → List α} (c : Cd X.prog X.w X.K X.mg X.base k x st ps sp) (hr : Room j X.A) (hk : k ≤ j) (hg : Gl X x) (hkw : PK X kws tk)
    (hb : ∀ (kV doc pm : Value) (an : Option Addr) (cdv ct : Value) (ws : List Value), ws.length = ks.length → bindArgs (PySem.W.fnOf x x (defArgs st) (defBody st) (defScope st) .none kV doc pm an cdv ct) ⟨[], ks.zip ws⟩ = pure (ps.zip (g ws)))
    (hrel : ∀ {zs : List V} {ws : List Value}, Vals zs ws → Vals (g zs) (g ws))
    (hall : (backToKw pos (keywordEach kws X.env)).all (·.1.isSome) = true := by rfl) (hks : (backToKw pos (keywordEach kws X.env)).filterMap (·.1) = ks := by rfl)
    (hdb : (x == ("__debug__" : Str)) = false := by decide) (hpl : ((backTo pos (starEach [] X.env)).any (·.1) || (backToKw pos (keywordEach kws X.env)).any (·.1.isNone)) = false := by rfl) :
    PE X (.Call (.Name x p) [] kws pos) (tK0 ks.length sp g tk) := by
  obtain ⟨f, fd, F, Fn, hm, _⟩ := c.ex
  refine ⟨fun pins s σ H Q I h => wpAny_Call_Name_kw (ld_glob I hg hm ?_ hdb)⟩
  refine PySem.W.callWith_KW0 (h₀ := X.base) I.ok.mod.kin Fn.kp hall (thn (hkw.run pos pins s σ H _ I h) fun ws s2 ⟨zs, H2, I2, rz, l2, q2⟩ => ⟨I2.kIn, ?_⟩) hpl
  rw [hks]
  obtain ⟨oc, od, kV, doc, pm, an, cdv, ct, osl, rfl, lk, hcd⟩ := Fn.ex
  have b : KBn X.K (PySem.W.fnOf x x (defArgs st) (defBody st) (defScope st) .none kV doc pm an cdv ct) ps 0 ks (fun _ ws => g ws) (fun _ zs => g zs) :=
    ⟨fun s us ws _ l1 l2 => by
      have e : us = [] := List.eq_nil_of_length_eq_zero l1
      subst e
      exact BindsTo.of_eq (hb kV doc pm an cdv ct ws l2), fun _ r => hrel r⟩
  exact run_fnN (F.mono hk) hr b passL I2 .nil rz rfl l2 q2
/-- a def within an except suite -/
structure ClW (P : Program) (w : World) (K : PySem.W.Frag) (mg : Str → Option Value) (base : Heap) (k : Nat) (x : Str) (sp : Addr × Obj → Sp) : Prop where
  ex : ∃ (f : Addr) (fd : FuncData) (ps : List Str), FnW P w K mg base CX0 k f fd ps sp ∧ mg x = some (.ref f) ∧ PySem.W.keepIn K (.ref f) = true ∧ Binds K fd ps []
theorem clW_of {x : Str} {st : Stmt} {N ps : List Str} {k : Nat} {sp : Addr × Obj → Sp} (D : DefAt K mg x st ps) (S : FnScope N ps (defScope st)) (len : ∀ p vs H Q E, sp p vs H Q E → vs.length = ps.length)
    (hbody : ∀ (f : Addr) (cdv : Value) (A : Around) (outer : List Env) (s : Shared) (H : Hp) (vs : List V) (Q : VK) (E : XK) (p : Addr × Obj), L2H.RoomH k (A.deeper (envOfC x (defScope st) s.heap.objs.size f cdv)) → sp p vs H Q E →
      ∃ t, PSs (L2H.cxH CX0 P w K mg base N x (defScope st) f cdv A outer s H E p).nox (defBody st) t ∧ t { nx := fun _ H' => Q .non H', rt := Q } (L2.start N vs) H) : ClW P w K mg base (k + 1) x sp := by
  obtain ⟨f, fd, F, hm, b⟩ := D.ex
  exact ⟨f, fd, ps, Fun_okW F S len (hbody f), hm, F.kp, b⟩
theorem room_mark {k : Nat} {A : Around} (r : Room k A) (v : Option Value) : L2H.RoomH k (A.mark v) := ⟨r.dp, r.un⟩
theorem pe_cW {X : Cx} {k j : Nat} {x : Str} {sp : Addr × Obj → Sp} {q pos : Pos} {e : Expr} {es : List Expr} {t : TA} {p : Addr × Obj} (c : ClW X.prog X.w X.K X.mg X.base k x sp) (hr : L2H.RoomH j X.A) (hk : k ≤ j) (hp : p ∈ X.pn) (hg : Gl X x) (ha : PA X (e :: es) t)
    (hdb : (x == ("__debug__" : Str)) = false := by decide) (he : starEach (e :: es) X.env = (false, eval e X.env) :: starEach es X.env := by rfl) (hpl : (backTo pos (starEach es X.env)).any (·.1) = false := by rfl) :
    PE X (.Call (.Name x q) (e :: es) [] pos) (tCallS (sp p) (fun _ => E0) t) := by
  obtain ⟨f, fd, ps, F, hm, kp, b⟩ := c.ex
  exact pe_callW F (hr.mono hk) hp hg hm kp b (fun _ => passA0) ha hdb he hpl
abbrev cxd (P : Program) (w : World) (K : PySem.W.Frag) (mg : Str → Option Value) (base : Heap) (N : List Str) (x : Str) (st : Stmt) (f : Addr) (cdv : Value) (A : Around) (outer : List Env) (s : Shared) (H : Hp) (E : XK) : Cx := cxOf (L2.CX P w) P w K mg base N x (defScope st) f cdv A outer s H E
/-! in a suite -/
theorem call_isS {X : Cx} {a : Addr} {oe : Obj} {cls : Value} {d : Option Addr} {pn : List (Addr × Obj)} (EK : ErrK X.K) (hz : Zc cls d oe) (hf : ∃ vs, oe.data = .fields vs) : CallR (X.suite a ((a, oe) :: pn)) (.builtin "isinstance") (rIsX X.K a cls d) :=
  call_isX (X := X.suite a ((a, oe) :: pn)) EK List.mem_cons_self hz hf
theorem pe_errS {X : Cx} {a : Addr} {oe : Obj} {cls : Value} {d : Option Addr} {pn : List (Addr × Obj)} {e : Expr} {te : TE} {pos : Pos} {n : Str} (hz : Zc cls d oe) (hf : ∃ vs, oe.data = .fields vs) (he : PE (X.suite a ((a, oe) :: pn)) e te)
    (hb : attributeBase e n (X.suite a ((a, oe) :: pn)).env (eval e (X.suite a ((a, oe) :: pn)).env) = eval e (X.suite a ((a, oe) :: pn)).env := by rfl) : PE (X.suite a ((a, oe) :: pn)) (.Attribute e n pos) (tErrF X.K a cls d n te) :=
  pe_errF (X := X.suite a ((a, oe) :: pn)) List.mem_cons_self hz hf he hb
theorem pe_cWS {X : Cx} {a : Addr} {oe : Obj} {pn : List (Addr × Obj)} {k j : Nat} {x : Str} {sp : Addr × Obj → Sp} {q pos : Pos} {e : Expr} {es : List Expr} {t : TA} (c : ClW X.prog X.w X.K X.mg X.base k x sp) (hr : Room j X.A) (hk : k ≤ j) (hg : Gl X x) (ha : PA (X.suite a ((a, oe) :: pn)) (e :: es) t)
    (hdb : (x == ("__debug__" : Str)) = false := by decide) (he : starEach (e :: es) X.env = (false, eval e X.env) :: starEach es X.env := by rfl) (hpl : (backTo pos (starEach es X.env)).any (·.1) = false := by rfl) :
    PE (X.suite a ((a, oe) :: pn)) (.Call (.Name x q) (e :: es) [] pos) (tCallS (sp (a, oe)) (fun _ => E0) t) :=
  pe_cW (X := X.suite a ((a, oe) :: pn)) c (room_mark hr _) hk List.mem_cons_self hg ha hdb he hpl
/-! constants -/
theorem pe_const {X : Cx} {x : Str} {i : Int} {pos : Pos} (hg : Gl X x) (hm : ∃ t, X.mg x = some (.int i t)) (hd : (x == ("__debug__" : Str)) = false := by decide) : PE X (.Name x pos) (tC (.int i)) :=
  ⟨fun _ _ _ H _ I h => hm.elim fun t ht => ld_glob I hg ht ⟨.int i, H, I, ⟨t, rfl⟩, h⟩ hd⟩
/-! errors -/
structure Rs (P : Program) (w : World) (K : PySem.W.Frag) (mg : Str → Option Value) (base : Heap) (x : Str) (C : Addr) (mk : List V → List (Str × V) → Prop) : Prop where
  run : ∀ {X : Cx} {e : Expr} {es : List Expr} {ta : TA} {p pos : Pos}, X.prog = P → X.w = w → X.K = K → X.mg = mg → X.base = base → Room 2 X.A → Gl X x → PA X (e :: es) ta →
    starEach (e :: es) X.env = (false, eval e X.env) :: starEach es X.env → (backTo pos (starEach es X.env)).any (·.1) = false → PMk X (.Call (.Name x p) (e :: es) [] pos) (tErr C mk ta)
theorem pmk_rs {X : Cx} {j : Nat} {x : Str} {C : Addr} {mk : List V → List (Str × V) → Prop} {e : Expr} {es : List Expr} {ta : TA} {p pos : Pos} (c : Rs X.prog X.w X.K X.mg X.base x C mk) (hr : Room j X.A) (hk : 2 ≤ j) (hg : Gl X x) (ha : PA X (e :: es) ta)
    (he : starEach (e :: es) X.env = (false, eval e X.env) :: starEach es X.env := by rfl) (hpl : (backTo pos (starEach es X.env)).any (·.1) = false := by rfl) : PMk X (.Call (.Name x p) (e :: es) [] pos) (tErr C mk ta) :=
  c.run rfl rfl rfl rfl rfl (hr.mono hk) hg ha he hpl
theorem rs1 {x y f : Str} {C fI : Addr} {fd : FuncData} (T : OexC K C) (hm : mg x = some (.ref C)) (iC : PySem.W.findIn K (.ref C) "__init__" = some (some (.ref fI)))
    (tI : PySem.W.typeIn K (.ref fI) = some (.type "function")) (F : FnOk P w K mg base CX0 1 fI fd ["self", y] (spE1 C f)) (b : Binds K fd ["self", y] []) (hdb : (x == ("__debug__" : Str)) = false) : Rs P w K mg base x C (mk1 f) :=
  ⟨fun h1 h2 h3 h4 h5 hr hg ha he hpl => by subst h1 h2 h3 h4 h5; exact pmk_e1 T iC tI F hr b pass0 hg hm ha hdb he hpl⟩
theorem rs2 {x y z f g : Str} {C fI : Addr} {ok : V → Prop} {fd : FuncData} (T : OexC K C) (hm : mg x = some (.ref C)) (iC : PySem.W.findIn K (.ref C) "__init__" = some (some (.ref fI)))
    (tI : PySem.W.typeIn K (.ref fI) = some (.type "function")) (F : FnOk P w K mg base CX0 1 fI fd ["self", y, z] (spE2 C f g ok)) (b : Binds K fd ["self", y, z] []) (hdb : (x == ("__debug__" : Str)) = false) : Rs P w K mg base x C (mk2 f g ok) :=
  ⟨fun h1 h2 h3 h4 h5 hr hg ha he hpl => by subst h1 h2 h3 h4 h5; exact pmk_e2 T iC tI F hr b pass0 hg hm ha hdb he hpl⟩
end

/-! tests -/
section
variable {A B : Prop}
theorem ifT {c : Bool} (h : c = true) (a : A) : if c = true then A else B := by rw [if_pos h]; exact a
theorem ifF {c : Bool} (h : c = false) (b : B) : if c = true then A else B := by rw [h, if_neg Bool.false_ne_true]; exact b
theorem ifB {c : Bool} (h1 : c = true → A) (h2 : c = false → B) : if c = true then A else B := by
  cases c with
  | true => exact ifT rfl (h1 rfl)
  | false => exact ifF rfl (h2 rfl)
theorem ifD {p : Prop} [Decidable p] (h1 : p → A) (h2 : ¬ p → B) : if decide p = true then A else B := ifB (fun h => h1 (of_decide_eq_true h)) fun h => h2 (of_decide_eq_false h)
theorem ifN {p : Prop} [Decidable p] (h1 : ¬ p → A) (h2 : p → B) : if (!decide p) = true then A else B := ifB (fun h => h1 (by simpa using h)) fun h => h2 (by simpa using h)
theorem ifI {i j : Int} (h1 : i = j → A) (h2 : i ≠ j → B) : if decide (V.int i = V.int j) = true then A else B := ifD (fun h => h1 (V.int.inj h)) fun h => h2 fun e => h (by rw [e])
theorem ifIN {i j : Int} (h1 : i ≠ j → A) (h2 : i = j → B) : if (!decide (V.int i = V.int j)) = true then A else B := ifN (fun h => h1 fun e => h (by rw [e])) fun h => h2 (V.int.inj h)
end
theorem atI0 {x : V} {xs : List V} : atI (x :: xs) 0 = some x := at_of (j := 0) rfl rfl
theorem atI1 {x y : V} {xs : List V} : atI (x :: y :: xs) 1 = some y := at_of (j := 1) rfl rfl
theorem ixN_of {n j : Nat} {i : Int} (e : i = (j : Int)) (h : j < n) : ixN n i = some j := by
  unfold ixN
  rw [e, if_pos (Int.natCast_nonneg j), if_pos (by omega)]
  simp
theorem seqIx_of {n j : Nat} {i : Int} (e : i = (j : Int)) (h : j < n) : seqIndex? i n = some j := by
  rw [e, PySem.seqIndex_of (Int.natCast_nonneg j) (by omega)]
  simp
theorem len1 {x : V} {xs : List V} : 0 < (x :: xs).length := Nat.succ_pos _
theorem len2 {x y : V} {xs : List V} : 1 < (x :: y :: xs).length := Nat.succ_lt_succ (Nat.succ_pos _)

/-! heaps -/
theorem smN {H H' : Hp} {q : Addr} {o : HO} (s : Same H H') (h : H' q = none) : Same H (upd H' q o) := fun b u e => by rw [upd_ne (ne_of_none (s b u e) h)]; exact s b u e
theorem smM {H H' : Hp} {q : Addr} {o : HO} (s : Same H H') (h : H q = none) : Same H (upd H' q o) := fun b u e => by rw [upd_ne (ne_of_none e h)]; exact s b u e
theorem sm0 {H : Hp} {q : Addr} {o : HO} (h : H q = none) : Same H (upd H q o) := smN (Same.refl H) h
theorem smT {K : PySem.W.Frag} {H H' : Hp} {a : Addr} {xs : List V} (e : Same H H') (h : SqT K H a xs) : SqT K H' a xs := Evl.ex_t e h
/-- a value is read behind a new object -/
theorem atN {H : Hp} {q b : Addr} {o u : HO} (h : H b = some u) (n : H q = none) : upd H q o b = some u := by rw [upd_ne (ne_of_none h n)]; exact h
theorem ints_at {ns : List Int} {i : Nat} {x : V} (h : (ns.map V.int)[i]? = some x) : ∃ z, ns[i]? = some z ∧ x = V.int z := by
  rw [List.getElem?_map] at h
  cases e : ns[i]? with
  | none => rw [e] at h; cases h
  | some z => rw [e] at h; exact ⟨z, rfl, (Option.some.inj h).symm⟩
theorem at_ints {ns : List Int} {i : Nat} {z : Int} (h : ns[i]? = some z) : (ns.map V.int)[i]? = some (V.int z) := by rw [List.getElem?_map, h]; rfl
theorem sz_small {n : Nat} (h : n ≤ 100000) : n ≤ sizeLine := Nat.le_trans h (by decide)
theorem sz_lt {n : Nat} (h : n ≤ 100000) : n < sizeLine := Nat.lt_of_le_of_lt h (by decide)
theorem cut_map {α : Type} (F : α → V) (ns : List α) (lo hi : Option Int) : ∃ ms : List α, cutV (ns.map F) lo hi = ms.map F ∧ ms.length ≤ ns.length ∧ ms = (ns.drop (HT.sIx ns.length 0 lo)).take (HT.sIx ns.length ns.length hi - HT.sIx ns.length 0 lo) :=
  ⟨_, by unfold cutV; rw [List.length_map, List.map_take, List.map_drop], by rw [List.length_take, List.length_drop]; omega, rfl⟩
theorem pow10 {j : Int} (h0 : 0 ≤ j) (h1 : j ≤ 1000000) : CPow 10 j := ⟨h0, h1, by decide⟩
/-! attributes -/
theorem putF_new {f : Str} {v : V} : ∀ {fs : List (Str × V)}, fs.lookup f = none → putF f v fs = fs ++ [(f, v)]
  | [], _ => rfl
  | (g, y) :: fs, h => by
    have hne : ¬ g = f := fun e => by
      subst e
      simp [List.lookup] at h
    have h2 : fs.lookup f = none := by
      rw [lookup_put, if_neg (Ne.symm hne)] at h
      exact h
    show (if g = f then (g, v) :: fs else (g, y) :: putF f v fs) = _
    rw [if_neg hne, putF_new h2]
    rfl
theorem lk_hit {f : Str} {v : V} {fs : List (Str × V)} : ((f, v) :: fs).lookup f = some v := by rw [lookup_put, if_pos rfl]
theorem lk_next {f g : Str} {v : V} {fs : List (Str × V)} {o : Option V} (h : ¬ f = g) (k : fs.lookup f = o) : ((g, v) :: fs).lookup f = o := by rw [lookup_put, if_neg h]; exact k
theorem lk_nil {f : Str} : ([] : List (Str × V)).lookup f = none := rfl
end SI
set_option maxRecDepth 100000
set_option maxHeartbeats 4000000
/-! == of rows of ints; values by a measure of depth -/
namespace SI
open PySem PySem.Spec PyProof.Rows L2
theorem dpAll_map {α : Type} {K : PySem.W.Frag} {H : Hp} {F : α → V} {G : α → PyData} : ∀ {l : List α}, (∀ x ∈ l, Dp K H (F x) (G x)) → DpAll K H (l.map F) (l.map G)
  | [], _ => .nil
  | x :: l, h => .cons (h x List.mem_cons_self) (dpAll_map fun y hy => h y (List.mem_cons_of_mem _ hy))
theorem dpL {K : PySem.W.Frag} {H : Hp} {a : Addr} {ns : List Int} (h : SqL K H a (ns.map V.int)) : Dp K H (.ref a) (.list (ns.map PyData.int)) := .lst h (dpAll_map fun x _ => .int x)
theorem dpT {K : PySem.W.Frag} {H : Hp} {a : Addr} {ns : List Int} (h : SqT K H a (ns.map V.int)) : Dp K H (.ref a) (.tuple (ns.map PyData.int)) := .tup h (dpAll_map fun x _ => .int x)
theorem lay_ints : ∀ ns : List Int, PyData.canLayAll0 (ns.map PyData.int) = true ∧ PyData.depthAll (ns.map PyData.int) = 0
  | [] => ⟨rfl, rfl⟩
  | n :: ns => by
    obtain ⟨h1, h2⟩ := lay_ints ns
    refine ⟨?_, ?_⟩
    · show (PyData.canLay0 (.int n) && PyData.canLayAll0 (ns.map PyData.int)) = true
      rw [h1]
      rfl
    · show max (PyData.depth (.int n)) (PyData.depthAll (ns.map PyData.int)) = 0
      rw [h2]
      rfl
theorem shL (ns : List Int) : SeqAt.shaped (.list (ns.map PyData.int)) = true := by
  obtain ⟨h1, h2⟩ := lay_ints ns
  show (PyData.canLayAll0 (ns.map PyData.int) && decide (PyData.depthAll (ns.map PyData.int) + 1 ≤ 64)) = true
  rw [h1, h2]
  rfl
theorem shT (ns : List Int) : SeqAt.shaped (.tuple (ns.map PyData.int)) = true := by
  obtain ⟨h1, h2⟩ := lay_ints ns
  show (PyData.canLayAll0 (ns.map PyData.int) && decide (PyData.depthAll (ns.map PyData.int) + 1 ≤ 64)) = true
  rw [h1, h2]
  rfl
theorem eqv_all : ∀ xs ys : List Int, PyData.eqvAll (xs.map PyData.int) (ys.map PyData.int) = decide (xs = ys)
  | [], [] => rfl
  | [], _ :: _ => rfl
  | _ :: _, [] => rfl
  | x :: xs, y :: ys => by
    show ((x == y) && PyData.eqvAll (xs.map PyData.int) (ys.map PyData.int)) = _
    rw [eqv_all xs ys]
    by_cases h : x = y
    · subst h
      by_cases h2 : xs = ys
      · subst h2; simp
      · simp [h2]
    · simp [h]
theorem eqvL (xs ys : List Int) : PyData.eqv (.list (xs.map PyData.int)) (.list (ys.map PyData.int)) = decide (xs = ys) := eqv_all xs ys
theorem eqvT (xs ys : List Int) : PyData.eqv (.tuple (xs.map PyData.int)) (.tuple (ys.map PyData.int)) = decide (xs = ys) := eqv_all xs ys
/-- == of data in an except suite -/
theorem op_eqDS {X : Cx} {a : Addr} {oe : Obj} {pn : List (Addr × Obj)} (hu : X.A.units + 64 < cLine) : OpR (X.suite a ((a, oe) :: pn)) (compareOp .Eq) (rEqD X.K) := op_eqD (X := X.suite a ((a, oe) :: pn)) hu
theorem op_neDS {X : Cx} {a : Addr} {oe : Obj} {pn : List (Addr × Obj)} (hu : X.A.units + 64 < cLine) : OpR (X.suite a ((a, oe) :: pn)) (compareOp .NotEq) (rNeD X.K) := op_neD (X := X.suite a ((a, oe) :: pn)) hu
/-! builtins in a try body: X the def's own context -/
theorem call_list_ofT {X : Cx} {pn : List (Addr × Obj)} {xe : Value → Shared → Prop} : CallR (X.tr pn xe) (.type "list") (fun xs H Q => ∃ (p : Addr) (ys : List V), xs = [V.ref p] ∧ (SqL X.K H p ys ∨ SqT X.K H p ys) ∧ ∀ (l : Addr), H l = none → Q (V.ref l) (upd H l (HO.lst ys))) := call_list_of (X := X.tr pn xe)
/-! in a comprehension's block: X the def's own context -/
section
variable {X : Cx} {s : Shared} {H : Hp} {sc : Scope} {ce : Env} {fp : List Addr}
theorem ix_listB : IxR (X.blk s H sc ce fp) (rIxL X.K) := ix_list (X := X.blk s H sc ce fp)
theorem ix_tupB : IxR (X.blk s H sc ce fp) (rIxT X.K) := ix_tup (X := X.blk s H sc ce fp)
end
end SI
set_option maxRecDepth 100000
set_option maxHeartbeats 4000000
/-! rules in a comprehension's block (B), in an except suite (S), in a try body (T): their readings name the def's own written part -/
namespace SI
open PySem PySem.Spec PyProof.Rows L2
section
variable {X : Cx} {s : Shared} {H : Hp} {sc : Scope} {ce : Env} {fp : List Addr}
theorem sl_listB : SlR (X.blk s H sc ce fp) (rSlL X.K) := sl_list (X := (X.blk s H sc ce fp))
theorem sl_tupAB : SlR (X.blk s H sc ce fp) (rSlA X.K) := sl_tupA (X := (X.blk s H sc ce fp))
theorem call_isiB : CallR (X.blk s H sc ce fp) (.builtin "isinstance") (rIsi X.K) := call_isi (X := (X.blk s H sc ce fp))
theorem op_catTB : OpR (X.blk s H sc ce fp) (binaryOp .Add) (rCatT X.K) := op_catT (X := (X.blk s H sc ce fp))
theorem call_list_ofB : CallR (X.blk s H sc ce fp) (.type "list") (fun xs H Q => ∃ (p : Addr) (ys : List V), xs = [V.ref p] ∧ (SqL X.K H p ys ∨ SqT X.K H p ys) ∧ ∀ (l : Addr), H l = none → Q (V.ref l) (upd H l (HO.lst ys))) := call_list_of (X := (X.blk s H sc ce fp))
theorem call_tuple_ofB : CallR (X.blk s H sc ce fp) (.type "tuple") (fun xs H Q => ∃ (p : Addr) (ys : List V), xs = [V.ref p] ∧ ((SqL X.K H p ys ∧ ∀ (l : Addr), H l = none → Q (V.ref l) (upd H l (HO.tup ys))) ∨ (SqT X.K H p ys ∧ Q (V.ref p) H))) := call_tuple_of (X := (X.blk s H sc ce fp))
theorem call_len_seqB : CallR (X.blk s H sc ce fp) (.builtin "len") (fun xs H Q => ∃ (p : Addr) (ys : List V), xs = [V.ref p] ∧ (SqL X.K H p ys ∨ SqT X.K H p ys) ∧ Q (V.int (ys.length : Nat)) H) := call_len_seq (X := (X.blk s H sc ce fp))
theorem op_eqDB (hu : X.A.units + 64 < cLine) : OpR (X.blk s H sc ce fp) (compareOp .Eq) (rEqD X.K) := op_eqD (X := (X.blk s H sc ce fp)) hu
theorem op_neDB (hu : X.A.units + 64 < cLine) : OpR (X.blk s H sc ce fp) (compareOp .NotEq) (rNeD X.K) := op_neD (X := (X.blk s H sc ce fp)) hu
theorem pe_fldB {e : Expr} {f : Str} {pos : Pos} {ta : TE} (he : PE (X.blk s H sc ce fp) e ta) (hb : attributeBase e f ((X.blk s H sc ce fp)).env (eval e ((X.blk s H sc ce fp)).env) = eval e ((X.blk s H sc ce fp)).env) : PE (X.blk s H sc ce fp) (.Attribute e f pos) (tFld X.K ta f) := pe_fld (X := (X.blk s H sc ce fp)) he hb
end
section
variable {X : Cx} {a : Addr} {oe : Obj} {pn : List (Addr × Obj)}
theorem ix_listS : IxR (X.suite a ((a, oe) :: pn)) (rIxL X.K) := ix_list (X := (X.suite a ((a, oe) :: pn)))
theorem ix_tupS : IxR (X.suite a ((a, oe) :: pn)) (rIxT X.K) := ix_tup (X := (X.suite a ((a, oe) :: pn)))
theorem sl_listS : SlR (X.suite a ((a, oe) :: pn)) (rSlL X.K) := sl_list (X := (X.suite a ((a, oe) :: pn)))
theorem sl_tupAS : SlR (X.suite a ((a, oe) :: pn)) (rSlA X.K) := sl_tupA (X := (X.suite a ((a, oe) :: pn)))
theorem call_isiS : CallR (X.suite a ((a, oe) :: pn)) (.builtin "isinstance") (rIsi X.K) := call_isi (X := (X.suite a ((a, oe) :: pn)))
theorem op_catTS : OpR (X.suite a ((a, oe) :: pn)) (binaryOp .Add) (rCatT X.K) := op_catT (X := (X.suite a ((a, oe) :: pn)))
theorem call_list_ofS : CallR (X.suite a ((a, oe) :: pn)) (.type "list") (fun xs H Q => ∃ (p : Addr) (ys : List V), xs = [V.ref p] ∧ (SqL X.K H p ys ∨ SqT X.K H p ys) ∧ ∀ (l : Addr), H l = none → Q (V.ref l) (upd H l (HO.lst ys))) := call_list_of (X := (X.suite a ((a, oe) :: pn)))
theorem call_tuple_ofS : CallR (X.suite a ((a, oe) :: pn)) (.type "tuple") (fun xs H Q => ∃ (p : Addr) (ys : List V), xs = [V.ref p] ∧ ((SqL X.K H p ys ∧ ∀ (l : Addr), H l = none → Q (V.ref l) (upd H l (HO.tup ys))) ∨ (SqT X.K H p ys ∧ Q (V.ref p) H))) := call_tuple_of (X := (X.suite a ((a, oe) :: pn)))
theorem call_len_seqS : CallR (X.suite a ((a, oe) :: pn)) (.builtin "len") (fun xs H Q => ∃ (p : Addr) (ys : List V), xs = [V.ref p] ∧ (SqL X.K H p ys ∨ SqT X.K H p ys) ∧ Q (V.int (ys.length : Nat)) H) := call_len_seq (X := (X.suite a ((a, oe) :: pn)))
theorem pe_fldS {e : Expr} {f : Str} {pos : Pos} {ta : TE} (he : PE (X.suite a ((a, oe) :: pn)) e ta) (hb : attributeBase e f ((X.suite a ((a, oe) :: pn))).env (eval e ((X.suite a ((a, oe) :: pn))).env) = eval e ((X.suite a ((a, oe) :: pn))).env) : PE (X.suite a ((a, oe) :: pn)) (.Attribute e f pos) (tFld X.K ta f) := pe_fld (X := (X.suite a ((a, oe) :: pn))) he hb
end
section
variable {X : Cx} {pn : List (Addr × Obj)} {xe : Value → Shared → Prop}
theorem ix_listT : IxR (X.tr pn xe) (rIxL X.K) := ix_list (X := (X.tr pn xe))
theorem ix_tupT : IxR (X.tr pn xe) (rIxT X.K) := ix_tup (X := (X.tr pn xe))
theorem sl_listT : SlR (X.tr pn xe) (rSlL X.K) := sl_list (X := (X.tr pn xe))
theorem sl_tupAT : SlR (X.tr pn xe) (rSlA X.K) := sl_tupA (X := (X.tr pn xe))
theorem call_isiT : CallR (X.tr pn xe) (.builtin "isinstance") (rIsi X.K) := call_isi (X := (X.tr pn xe))
theorem op_catTT : OpR (X.tr pn xe) (binaryOp .Add) (rCatT X.K) := op_catT (X := (X.tr pn xe))
theorem call_tuple_ofT : CallR (X.tr pn xe) (.type "tuple") (fun xs H Q => ∃ (p : Addr) (ys : List V), xs = [V.ref p] ∧ ((SqL X.K H p ys ∧ ∀ (l : Addr), H l = none → Q (V.ref l) (upd H l (HO.tup ys))) ∨ (SqT X.K H p ys ∧ Q (V.ref p) H))) := call_tuple_of (X := (X.tr pn xe))
theorem call_len_seqT : CallR (X.tr pn xe) (.builtin "len") (fun xs H Q => ∃ (p : Addr) (ys : List V), xs = [V.ref p] ∧ (SqL X.K H p ys ∨ SqT X.K H p ys) ∧ Q (V.int (ys.length : Nat)) H) := call_len_seq (X := (X.tr pn xe))
theorem op_eqDT (hu : X.A.units + 64 < cLine) : OpR (X.tr pn xe) (compareOp .Eq) (rEqD X.K) := op_eqD (X := (X.tr pn xe)) hu
theorem op_neDT (hu : X.A.units + 64 < cLine) : OpR (X.tr pn xe) (compareOp .NotEq) (rNeD X.K) := op_neD (X := (X.tr pn xe)) hu
theorem pe_fldT {e : Expr} {f : Str} {pos : Pos} {ta : TE} (he : PE (X.tr pn xe) e ta) (hb : attributeBase e f ((X.tr pn xe)).env (eval e ((X.tr pn xe)).env) = eval e ((X.tr pn xe)).env) : PE (X.tr pn xe) (.Attribute e f pos) (tFld X.K ta f) := pe_fld (X := (X.tr pn xe)) he hb
end
def swp {α : Type} : List α → List α
  | [x, y] => [y, x]
  | l => l
theorem swp_rel {zs : List V} {ws : List Value} (r : L2.Vals zs ws) : L2.Vals (swp zs) (swp ws) := by
  cases r with
  | nil => exact .nil
  | cons a r => cases r with
    | nil => exact .cons a .nil
    | cons b r => cases r with
      | nil => exact .cons b (.cons a .nil)
      | cons c r => exact .cons a (.cons b (.cons c r))
end SI
set_option maxRecDepth 100000
set_option maxHeartbeats 4000000
/-! from what k_is finds to what the walks take -/
namespace SI
open PySem PySem.Spec PyProof.Rows L2 NdefX
section
variable {P : Program} {w : World} {K : PySem.W.Frag} {mg : Str → Option Value} {base h : Heap}
abbrev BindOk (x qual : Str) (st : Stmt) (ps : List Str) : Prop := ∀ (kV doc pm : Value) (an : Option Addr) (cdv ct : Value) (us : List Value), us.length = ps.length →
  bindArgs (PySem.W.fnOf x qual (defArgs st) (defBody st) (defScope st) .none kV doc pm an cdv ct) ⟨us, []⟩ = pure (ps.zip us)
theorem def_at {x : Str} {st : Stmt} {ps : List Str} {f : Addr} {oc kV doc pm cdv ct : Value} {od an : Option Addr} {osl : Array (Option Value)} (X : K.In h) (G : h.Ns mainGlobals mg) (hb : BindOk x x st ps)
    (a : PySem.W.nsIn K mainGlobals x = some (some (.ref f))) (l : K.lookup f = some ⟨oc, od, .func (PySem.W.fnOf x x (defArgs st) (defBody st) (defScope st) .none kV doc pm an cdv ct), osl⟩)
    (c : PySem.W.codeIn K cdv x = true) (k : PySem.W.keepIn K (.ref f) = true) {R : Prop} (r : DefAt K mg x st ps → R) : R :=
  r ⟨f, _, fun_mk l c k, PySem.W.mg_of X G a, (fun_mk l c k).binds hb⟩
theorem cls_at {C : Addr} (pg : PySem.W.plainGet K C Str.empty = true) (hd : PySem.W.hasDictIn K C = true) (po : PySem.W.plainOver K C = true) (sa : PySem.W.findIn K (.ref C) "__setattr__" = some (some (.builtin "object.__setattr__")))
    {R : Prop} (r : Cls K C → R) : R := r ⟨pg, hd, po, sa⟩
theorem mak_at {x qual : Str} {C : Addr} {st : Stmt} {ps : List Str} {f : Addr} {oc kV doc pm cdv ct : Value} {od an : Option Addr} {osl : Array (Option Value)} (X : K.In h) (G : h.Ns mainGlobals mg) (hb : BindOk "__init__" qual st ps)
    (a : PySem.W.nsIn K mainGlobals x = some (some (.ref C))) (mk : PySem.W.makesIn K C = true) (i : PySem.W.findIn K (.ref C) "__init__" = some (some (.ref f))) (n : PySem.W.isFn K (.ref f) = true) (kc : PySem.W.keepIn K (.ref C) = true)
    (l : K.lookup f = some ⟨oc, od, .func (PySem.W.fnOf "__init__" qual (defArgs st) (defBody st) (defScope st) .none kV doc pm an cdv ct), osl⟩)
    (c : PySem.W.codeIn K cdv qual = true) (k : PySem.W.keepIn K (.ref f) = true) {R : Prop} (r : MakAt K mg x C qual st ps → R) : R :=
  r ⟨f, _, ⟨mk, i, n, kc⟩, fun_mk l c k, PySem.W.mg_of X G a, (fun_mk l c k).binds hb⟩
theorem met_at {m qual : Str} {C : Addr} {st : Stmt} {ps : List Str} {f : Addr} {oc kV doc pm cdv ct : Value} {od an : Option Addr} {osl : Array (Option Value)} (hC : Cls K C) (hb : BindOk m qual st ps)
    (i : PySem.W.findIn K (.ref C) m = some (some (.ref f))) (n : PySem.W.isFn K (.ref f) = true)
    (l : K.lookup f = some ⟨oc, od, .func (PySem.W.fnOf m qual (defArgs st) (defBody st) (defScope st) .none kV doc pm an cdv ct), osl⟩)
    (c : PySem.W.codeIn K cdv qual = true) (k : PySem.W.keepIn K (.ref f) = true) {R : Prop} (r : MetAt K C m qual st ps → R) : R :=
  r ⟨f, _, hC, ⟨i, n, k⟩, fun_mk l c k, (fun_mk l c k).binds hb⟩
/-- a class of errors: at its name, what isinstance and except read of it -/
theorem exc_at {x : Str} {C : Addr} {nm q : Str} {N : Addr} {bs bm : List Value} {sn : List Str} {sub : List Value} {ab : Bool} {col : Option Bool} {dd : Option Addr} {k0 k1 k2 k3 k5 : Option Value} (X : K.In h) (G : h.Ns mainGlobals mg)
    (a : PySem.W.nsIn K mainGlobals x = some (some (.ref C))) (l : K.lookup C = some (excClassObj nm q C N bs bm true sn sub ab col dd k0 k1 k2 k3 k5 "ValueError.__new__")) (rf : PySem.HandSPX.refsVE bm = true)
    (sa : PySem.W.findIn K (.ref C) "__setattr__" = some (some (.builtin "object.__setattr__"))) (exC : PySem.W.subIn K (.ref C) (.type "BaseException") = some true) (tyC : PySem.W.typeIn K (.ref C) = some (.type "type")) (kC : PySem.W.keepIn K (.ref C) = true)
    (ga : PySem.W.findIn K (.ref C) "__getattribute__" = some (some (.builtin "BaseException.__getattribute__"))) (gg : PySem.W.findIn K (.ref C) "__getattr__" = some none) (hd : PySem.W.hasDictIn K C = true)
    (ac : PySem.W.findIn K (.ref C) "__class__" = some (some (.builtin "object.__class__"))) (mo : PySem.W.mroIn K C (.type "object") = some true)
    {R : Prop} (r : mg x = some (.ref C) → OexC K C → ErrC K C → R) : R :=
  r (PySem.W.mg_of X G a) ⟨⟨nm, q, N, bs, bm, sn, sub, ab, col, dd, k0, k1, k2, k3, k5, l, rf⟩, sa, exC, tyC, kC⟩
    ⟨by unfold PySem.W.clsIn; rw [l] <;> rfl, ga, gg, exC, hd, ac, mo⟩
/-- what an own __init__ with super() is -/
theorem sup_at {C fI : Addr} {qual : Str} {st : Stmt} {e0 : Expr} {rest : List Stmt} {p0 p1 p2 p3 p4 : Pos} {oc : Value} {od : Option Addr} {kV doc pm : Value} {an : Option Addr} {ct : Value} {osl : Array (Option Value)} {cc cda : Addr}
      {q1 : Value} {q2 : Option Addr} {q3 : Array (Option Value)} {r1 : Value} {r2 : Option Addr} {vs : Array Value} {r3 : Array (Option Value)} {file : Str} {tf : Tok} (X : K.In h) (G : h.Ns mainGlobals mg) (O : OexC K C)
    (hbody : defBody st = .Expr (.Call (.Attribute (.Call (.Name "super" p0) [] [] p1) "__init__" p2) [e0] [] p3) p4 :: rest)
    (i : PySem.W.findIn K (.ref C) "__init__" = some (some (.ref fI))) (t : PySem.W.typeIn K (.ref fI) = some (.type "function"))
    (l : K.lookup fI = some ⟨oc, od, .func (PySem.W.fnX "__init__" qual (defArgs st) (defBody st) (defScope st) [("__class__", cc)] .none kV doc pm an (.ref cda) ct), osl⟩)
    (c : PySem.W.codeIn K (.ref cda) qual = true) (lc : K.lookup cda = some ⟨r1, r2, .fields vs, r3⟩) (hf : vs[2]? = some (.str file tf)) (hm : (P.main.file == file) = true) (lcc : K.lookup cc = some ⟨q1, q2, .cell (some (.ref C)), q3⟩)
    (self : PySem.W.mroIn K C (.ref C) = some true) (sup : PySem.W.ks_superIn K C C "__init__" = some (some (.builtin "ValueError.__init__"))) (sub : PySem.W.subIn K (.ref C) (.type "ValueError") = some true)
    (z : PySem.W.nsIn K mainGlobals "super" = some none) (any : PySem.W.nsIn K cStatics "thirdparty.any" = some none) (top : (P.main.scope.names.lookup ("super" : Str)).isSome = false)
    {R : Prop} (r : ∀ fd, SupF P K mg C fI qual (defArgs st) e0 rest (defScope st) p0 p1 p2 p3 p4 fd → PySem.W.findIn K (.ref C) "__init__" = some (some (.ref fI)) → PySem.W.typeIn K (.ref fI) = some (.type "function") → 
      (∃ (kV doc pm : Value) (an : Option Addr) (cc : Addr) (cdv ct : Value), fd = PySem.W.fnX "__init__" qual (defArgs st) (defBody st) (defScope st) [("__class__", cc)] .none kV doc pm an cdv ct) → R) : R :=
  r _ ⟨⟨oc, od, kV, doc, pm, an, ct, osl, cc, cda, q1, q2, q3, r1, r2, vs, r3, file, tf, by rw [hbody], l, c, lc, hf, hm, lcc⟩, O, self, sup, sub, PySem.W.mg_none_of X G z, any, top⟩ i t ⟨kV, doc, pm, an, cc, .ref cda, ct, rfl⟩
abbrev BindX (qual : Str) (st : Stmt) (ps : List Str) : Prop := ∀ (kV doc pm : Value) (an : Option Addr) (cc : Addr) (cdv ct : Value) (us : List Value), us.length = ps.length →
  bindArgs (PySem.W.fnX "__init__" qual (defArgs st) (defBody st) (defScope st) [("__class__", cc)] .none kV doc pm an cdv ct) ⟨us, []⟩ = pure (ps.zip us)
theorem bindX {qual : Str} {st : Stmt} {ps : List Str} {fd : FuncData} (hb : BindX qual st ps) (e : ∃ (kV doc pm : Value) (an : Option Addr) (cc : Addr) (cdv ct : Value), fd = PySem.W.fnX "__init__" qual (defArgs st) (defBody st) (defScope st) [("__class__", cc)] .none kV doc pm an cdv ct) : Binds K fd ps [] := by
  obtain ⟨kV, doc, pm, an, cc, cdv, ct, rfl⟩ := e
  exact .all (hb kV doc pm an cc cdv ct)
theorem xm_at {C D : Addr} {b : Bool} (e : ErrC K D) (o : OexC K D) (s : PySem.W.subIn K (.ref C) (.ref D) = some b) : PySem.W.exmOne K (.ref C) (.ref D) = some b := PySem.W.exm_ref e.exC e.hd o.tyC s
theorem kit_ref {C D : Addr} {b : Bool} (e : ErrC K D) (o : OexC K D) (n : C ≠ D) (s : PySem.W.subIn K (.ref C) (.ref D) = some b) : PySem.W.kitOne K (.ref C) (.ref D) = some b := by
  unfold PySem.W.kitOne
  rw [if_neg (by intro z; exact n (by have := eq_of_beq z; cases this; rfl))]
  show (if ((PySem.W.clsIn K D).isSome && PySem.W.typeIn K (.ref D) == some (.type "type")) = true then _ else none) = _
  rw [if_pos (by rw [e.cl, o.tyC] <;> rfl)]
  exact s
theorem kit_self {C : Addr} : PySem.W.kitOne K (.ref C) (.ref C) = some true := by
  unfold PySem.W.kitOne
  rw [if_pos (by simp)]
theorem kit_VE {C : Addr} (s : PySem.W.subIn K (.ref C) (.type "ValueError") = some true) : PySem.W.kitOne K (.ref C) (.type "ValueError") = some true := by
  unfold PySem.W.kitOne
  rw [if_neg (by intro z; have := eq_of_beq z; cases this)]
  show (if PySem.W.kitMeta "ValueError" = true then _ else none) = _
  rw [if_pos (by decide +kernel)]
  exact s
theorem int_at {x : Str} {i : Int} {t : Tok} (X : K.In h) (G : h.Ns mainGlobals mg) (a : PySem.W.nsIn K mainGlobals x = some (some (.int i t))) : ∃ t, mg x = some (.int i t) := ⟨t, PySem.W.mg_of X G a⟩
theorem int_is {x : Str} {i : Int} {t : Tok} (X : K.In h) (G : h.Ns mainGlobals mg) (a : PySem.W.nsIn K mainGlobals x = some (some (.int i t))) {R : Prop} (r : (∃ t, mg x = some (.int i t)) → R) : R := r ⟨t, PySem.W.mg_of X G a⟩
theorem int_as {x : Str} {i j : Int} (e : i = j) (h : ∃ t, mg x = some (.int i t)) : ∃ t, mg x = some (.int j t) := e ▸ h
theorem law_at {l : PySem.W.OpenLaw} {k : Nat} {fa : Addr} {x y : Str} {st : Stmt} {sp : Sp} {oc kV doc pm cdv ct : Value} {f : Addr} {od an : Option Addr} {osl : Array (Option Value)} (X : K.In h) (G : h.Ns mainGlobals mg) (hfa : mg x = some (.ref fa)) (hb : BindOk x x st [y])
    (hl : K.lookup f = some ⟨oc, od, .func (PySem.W.fnOf x x (defArgs st) (defBody st) (defScope st) .none kV doc pm an cdv ct), osl⟩) (a : PySem.W.nsIn K mainGlobals x = some (some (.ref f)))
    (c : ∀ base, Cd l.prog w K mg base k x st [y] sp) :
    ∃ fd : FuncData, (∀ (s : Shared) (v : Value), BindsTo s fd ⟨[v], []⟩ [(y, v)]) ∧ ∀ base : Heap, K.In base → base.Ns mainGlobals mg → FnOk l.prog w K mg base (L2.CX l.prog w) k fa fd [y] sp := by
  have e := hfa.symm.trans (PySem.W.mg_of X G a)
  cases e
  refine ⟨_, fun s v => .of_eq (hb kV doc pm an cdv ct [v] rfl), fun base _ _ => ?_⟩
  obtain ⟨f', fd', F, Fn, hm, b⟩ := (c base).ex
  have e2 := hm.symm.trans hfa
  cases e2
  obtain ⟨oc', od', kV', doc', pm', an', cdv', ct', osl', rfl, lk, hcd⟩ := Fn.ex
  have e3 := lk.symm.trans hl
  injection e3 with e3
  injection e3 with _ _ e3 _
  injection e3 with e3
  rw [← e3]
  exact F
end
theorem walkK {l : PySem.W.OpenLaw} {n k : Nat} {q : Program} {loose : List Str} {XP : (Str → Option Value) → Heap → Prop} {YP : World → Heap → Prop} {d : DefRec} {K : Params → PySem.W.Frag} {sp : PySem.W.Frag → Sp} {x : Str}
    (hn : l.most = some n) (hn2 : n ≤ sizeLine) (hdf : d.params.defaults = []) (hr : Room k callerA) (hsp : ∀ (K : PySem.W.Frag) (H : Hp) (a : Addr) (ns : List Int), ns.length ≤ n → SqL K H a (ns.map V.int) → sp K [.ref a] H (fun v _ => v = .bl true) fun _ _ _ => False)
    (hY : ∀ (w : World) (h : Heap), YP w h → (K w.params).In h)
    (F : ∀ (w : World) (mg : Str → Option Value) (fa : Addr) (h : Heap), (K w.params).In h → h.Ns mainGlobals mg → mg d.name = some (.ref fa) →
      ∃ fd : FuncData, (∀ (s : Shared) (u : Value), BindsTo s fd ⟨[u], []⟩ [(x, u)]) ∧
        ∀ base : Heap, (K w.params).In base → base.Ns mainGlobals mg → FnOk l.prog w (K w.params) mg base (L2.CX l.prog w) k fa fd [x] (sp (K w.params))) :
    PySem.W.WalkO q loose XP YP l.row.toRowW d [] (fun f vs => PySem.call f vs) :=
  L2.walk_of (CX := fun w => L2.CX l.prog w) (sp := fun w => sp (K w.params)) hn hn2 hdf hr hY F (fun w H a ns hl _ hS => hsp _ H a ns hl hS) fun w H s e s' h => by
    obtain ⟨_, _, _, _, _, _, _, _, _, _, _, _, hE⟩ := h
    exact hE
end SI
set_option maxRecDepth 100000
set_option maxHeartbeats 4000000
/-! comparisons by an own method of a class whose instances have a dict -/
namespace SI
open PySem PySem.Spec PyProof.Rows L2
/-- the type of a value, as the abstract heap tells it -/
inductive TyV (K : PySem.W.Frag) (H : Hp) : V → Value → Prop
  | non : TyV K H .non (.type "NoneType")
  | bl (b : Bool) : TyV K H (.bl b) (.type "bool")
  | int (i : Int) : TyV K H (.int i) (.type "int")
  | str (s : Str) : TyV K H (.str s) (.type "str")
  | tup {a : Addr} {xs : List V} (h : SqT K H a xs) : TyV K H (.ref a) (.type "tuple")
  | lst {a : Addr} {xs : List V} (h : SqL K H a xs) : TyV K H (.ref a) (.type "list")
  | ins {a C d : Addr} {fs : List (Str × V)} (h : H a = some (.ins C d fs)) : TyV K H (.ref a) (.ref C)
section
variable {X : Cx} {k j : Nat} {C : Addr} {sp : Sp}
theorem looks_ty {pins : List (Addr × Obj)} {σ : L2.St} {H : Hp} {s : Shared} {y : V} {u tb : Value} (I : Inv X pins σ H s) (r : RelV y u) (t : TyV X.K H y tb) : PySem.W.Looks (model X.prog X.w) s.heap (typeOf u) tb := by
  cases t with
  | non => cases (show u = Value.none from r); exact fun A Q E s1 _ h => by unfold typeOf; exact wpAny_pure h
  | bl b => cases (show u = Value.bool b from r); exact fun A Q E s1 _ h => by unfold typeOf; exact wpAny_pure h
  | int i => obtain ⟨t, rfl⟩ := (show ∃ t, u = Value.int i t from r); exact fun A Q E s1 _ h => by unfold typeOf; exact wpAny_pure h
  | str x => obtain ⟨t, rfl⟩ := (show ∃ t, u = Value.str x t from r); exact fun A Q E s1 _ h => by unfold typeOf; exact wpAny_pure h
  | tup h =>
    cases (show u = Value.ref _ from r)
    obtain ⟨its, r2, ⟨o, e, hc, n, hd⟩, z⟩ := I.tuple h
    exact hc ▸ (PySem.W.Looks.ld e).andThen .now
  | lst h =>
    cases (show u = Value.ref _ from r)
    obtain ⟨its, r2, ⟨o, n, e, hc, hd, hs⟩, z⟩ := I.list h
    exact hc ▸ (PySem.W.Looks.ld e).andThen .now
  | ins h =>
    cases (show u = Value.ref _ from r)
    obtain ⟨m, J, _⟩ := ins_get I.hok h
    obtain ⟨od, J, _⟩ := J.look
    exact J.type
theorem nf_sub {K : PySem.W.Frag} {tb : Value} (h : PySem.W.subIn K tb (.ref C) = some false) : PySem.W.notFirst K C tb = true := by
  unfold PySem.W.notFirst
  rw [h]
  simp
theorem nf_self {K : PySem.W.Frag} : PySem.W.notFirst K C (.ref C) = true := by simp [PySem.W.notFirst]
theorem kit_tyR {K : PySem.W.Frag} {n : String} {b : Bool} (hd : PySem.W.hasDictIn K C = true) (ht : PySem.W.typeIn K (.ref C) = some (.type "type")) (s : PySem.W.subIn K (.type n) (.ref C) = some b) : PySem.W.kitOne K (.type n) (.ref C) = some b := by
  obtain ⟨cd, hc, _⟩ := PySem.W.any_some hd
  unfold PySem.W.kitOne
  rw [if_neg (by intro z; have := eq_of_beq z; cases this)]
  show (if ((PySem.W.clsIn K C).isSome && PySem.W.typeIn K (.ref C) == some (.type "type")) = true then _ else none) = _
  rw [if_pos (by rw [hc, ht] <;> rfl)]
  exact s
/-- isinstance(e, (c1, c2, ..)), e the error that is handled -/
def rIsXT (K : PySem.W.Frag) (a : Addr) (cls : Value) (d : Option Addr) : List V → Hp → VK → Prop := fun xs H Q => ∃ (D tp : Addr) (cs : List V) (us : List Value) (b : Bool), cls = .ref D ∧ ErrC K D ∧ xs = [.ref a, .ref tp] ∧ H tp = some (.tup cs) ∧ Paired ClsV cs us ∧ PySem.W.kitAny K cls us = some b ∧
  (∀ dd, d = some dd → ∃ fs, H dd = some (.xd fs)) ∧ Q (.bl b) H
theorem call_isXT {a : Addr} {oe : Obj} {cls : Value} {d : Option Addr} (EK : ErrK X.K) (hp : (a, oe) ∈ X.pn) (hz : Zc cls d oe) (hf : ∃ vs, oe.data = .fields vs) : CallR X (.builtin "isinstance") (rIsXT X.K a cls d) := by
  intro pins s σ H xs us Q I r h
  obtain ⟨D, tp, cs, ws, b, ecls, C, rfl, hT, hcs, e, hd, q⟩ := h
  cases r with
  | cons rx rr =>
    cases rr with
    | cons rt rr =>
      cases rr
      cases rx
      cases rt
      subst ecls
      obtain ⟨_, its, rv, o, h1, h2, n, h3⟩ := (show ObjOk X.prog X.w H s.heap tp (.tup cs) from I.hok tp _ hT)
      have e3 := ClsV.all hcs rv
      subst e3
      obtain ⟨oc, odd, dt, sl⟩ := o
      simp only at h2 h3
      subst h2 h3
      obtain ⟨hget, _⟩ := I.pin (a, oe) (List.mem_append_left _ hp)
      obtain ⟨vs, hv⟩ := hf
      obtain ⟨od, J⟩ : ∃ od, PySem.W.InstAt s.heap a oe D od := by
        obtain ⟨oc, odi, oda, osl⟩ := oe
        obtain ⟨h1, h2⟩ := hz
        dsimp only at h1 h2 hv
        subst h1 h2 hv
        cases odi with
        | none => exact ⟨none, hget, rfl, rfl, trivial⟩
        | some dd =>
          obtain ⟨fs, hfs⟩ := hd dd rfl
          have hx : ObjOk X.prog X.w H s.heap dd (.xd fs) := I.hok dd _ hfs
          obtain ⟨mA, ⟨o, es, ep, ho, _⟩, _⟩ := hx
          exact ⟨some o, hget, rfl, rfl, ho⟩
      exact PySem.W.kia_tup (PySem.W.kitx_exc C.cl C.ga C.gg C.exC C.ac EK.hn EK.ht C.mo) I.kIn J h1 e (fun z => nomatch z) fun tk => ⟨.bl b, H, I.kept (t' := tk) fun _ _ z => z, rfl, q⟩
/-- x op y: an own method of x answers -/
def rOwnI (K : PySem.W.Frag) (C : Addr) (sp : Sp) : R2 := fun x y H Q => ∃ a dx fs tb, x = .ref a ∧ H a = some (.ins C dx fs) ∧ TyV K H y tb ∧ PySem.W.notFirst K C tb = true ∧ sp [x, y] H Q E0
theorem op_ownI {op : CmpOp} (hop : ∀ a b, compareOp op a b = richCompare op a b) (c : Mt X.prog X.w X.K X.mg X.base k C (cmpInfo op).2.1 sp []) (hr : Room j X.A) (hk : k ≤ j) : OpR X (compareOp op) (rOwnI X.K C sp) := by
  obtain ⟨f, fd, ps, ds, hc, hm, F, b, d⟩ := c.ex
  cases d
  intro pins s σ H x y v u Q I rx ry h
  obtain ⟨a, dx, fs, tb, rfl, ha, ht, hn, q⟩ := h
  cases (show v = Value.ref a from rx)
  obtain ⟨mA, J, _⟩ := ins_get I.hok ha
  obtain ⟨od, J, _⟩ := J.look
  obtain ⟨m, hF⟩ := I.fr
  rw [hop]
  refine PySem.W.cmp_K (op := op) (tb := tb) hr.units0 hF I.ok.mod.kin J (looks_ty I ry ht) hn hm.at_ hm.fn ?_
  refine wpAny_mono (run_fn (us := [.ref a, u]) (vs := [.ref a, y]) F (hr.mono hk) b .nil passL I (.cons rfl (.cons ry .nil)) q) (fun w s' z => ?_) fun _ _ x => x
  obtain ⟨z', H', I', rz, qz⟩ := z
  exact SlX.cmpback rz ⟨z', H', I', rz, qz⟩
end
end SI
set_option maxRecDepth 100000
set_option maxHeartbeats 4000000
/-! methods and classes called by keywords; a def in a suite that gets the error itself -/
namespace SI
open PySem PySem.Spec PyProof.Rows L2 NdefX
structure Mtd (P : Program) (w : World) (K : PySem.W.Frag) (mg : Str → Option Value) (base : Heap) (k : Nat) (C : Addr) (m qual : Str) (st : Stmt) (ps : List Str) (sp : Sp) : Prop where
  ex : ∃ (f : Addr) (fd : FuncData), Cls K C ∧ Meth K C m f ∧ FnOk P w K mg base (L2.CX P w) k f fd ps sp ∧ Fun K m qual st f fd ∧ Binds K fd ps []
structure Mkd (P : Program) (w : World) (K : PySem.W.Frag) (mg : Str → Option Value) (base : Heap) (k : Nat) (x : Str) (C : Addr) (qual : Str) (st : Stmt) (ps : List Str) (sp : Sp) : Prop where
  ex : ∃ (f : Addr) (fd : FuncData), Mk K C f ∧ FnOk P w K mg base (L2.CX P w) k f fd ps sp ∧ Fun K "__init__" qual st f fd ∧ mg x = some (.ref C) ∧ Binds K fd ps []
section
variable {P : Program} {w : World} {K : PySem.W.Frag} {mg : Str → Option Value} {base : Heap}
theorem Mtd.mt {k : Nat} {C : Addr} {m qual : Str} {st : Stmt} {ps : List Str} {sp : Sp} (c : Mtd P w K mg base k C m qual st ps sp) : Mt P w K mg base k C m sp [] := by
  obtain ⟨f, fd, hc, hm, F, _, b⟩ := c.ex
  exact ⟨f, fd, ps, [], hc, hm, F, b, .nil⟩
theorem Mkd.mkr {k : Nat} {x : Str} {C : Addr} {qual : Str} {st : Stmt} {ps : List Str} {sp : Sp} (c : Mkd P w K mg base k x C qual st ps sp) : Mkr P w K mg base k x C sp [] := by
  obtain ⟨f, fd, M, F, _, hm, b⟩ := c.ex
  exact ⟨f, fd, ps, [], M, F, hm, b, .nil⟩
theorem mtd_of {m qual : Str} {C : Addr} {st : Stmt} {N ps : List Str} {k : Nat} {sp : Sp} (D : MetAt K C m qual st ps) (S : FnScope N ps (defScope st)) (len : ∀ vs H Q E, sp vs H Q E → vs.length = ps.length)
    (hbody : ∀ (f : Addr) (cdv : Value) (A : Around) (outer : List Env) (s : Shared) (H : Hp) (vs : List V) (Q : VK) (E : XK), Room k (A.deeper (envOfC qual (defScope st) s.heap.objs.size f cdv)) → sp vs H Q E →
      ∃ t, PSs (cxOf (L2.CX P w) P w K mg base N qual (defScope st) f cdv A outer s H E) (defBody st) t ∧ t { nx := fun _ H' => Q .non H', rt := Q } (L2.start N vs) H) : Mtd P w K mg base (k + 1) C m qual st ps sp := by
  obtain ⟨f, fd, c, me, F, b⟩ := D.ex
  exact ⟨f, fd, c, me, F.okX S len (hbody f), F, b⟩
theorem mkd_of {x qual : Str} {C : Addr} {st : Stmt} {N ps : List Str} {k : Nat} {sp : Sp} (D : MakAt K mg x C qual st ps) (S : FnScope N ps (defScope st)) (len : ∀ vs H Q E, sp vs H Q E → vs.length = ps.length)
    (hbody : ∀ (f : Addr) (cdv : Value) (A : Around) (outer : List Env) (s : Shared) (H : Hp) (vs : List V) (Q : VK) (E : XK), Room k (A.deeper (envOfC qual (defScope st) s.heap.objs.size f cdv)) → sp vs H Q E →
      ∃ t, PSs (cxOf (L2.CX P w) P w K mg base N qual (defScope st) f cdv A outer s H E) (defBody st) t ∧ t { nx := fun _ H' => Q .non H', rt := Q } (L2.start N vs) H) : Mkd P w K mg base (k + 1) x C qual st ps sp := by
  obtain ⟨f, fd, M, F, hm, b⟩ := D.ex
  exact ⟨f, fd, M, F.okX S len (hbody f), F, hm, b⟩
end
theorem met_atX {K : PySem.W.Frag} {h : Heap} {x m qual : Str} {C : Addr} {st : Stmt} {ps : List Str} {f : Addr} {oc kV doc pm cdv ct : Value} {od an : Option Addr} {osl : Array (Option Value)} (_X : K.In h) (hb : BindOk m qual st ps)
    (_a : PySem.W.nsIn K mainGlobals x = some (some (.ref C))) (hC : Cls K C)
    (i : PySem.W.findIn K (.ref C) m = some (some (.ref f))) (n : PySem.W.isFn K (.ref f) = true)
    (l : K.lookup f = some ⟨oc, od, .func (PySem.W.fnOf m qual (defArgs st) (defBody st) (defScope st) .none kV doc pm an cdv ct), osl⟩)
    (c : PySem.W.codeIn K cdv qual = true) (k : PySem.W.keepIn K (.ref f) = true) {R : Prop} (r : MetAt K C m qual st ps → R) : R := met_at hC hb i n l c k r
/-- o.m(k = v, ..): ks the keywords in the call's order, g puts their values in the parameters' order -/
def tMethK (C : Addr) (m : Str) (n : Nat) (sp : Sp) (gV : List V → List V) (E : XK) (ta : TE) (tk : TA) : TE := fun σ H Q => ta σ H fun x H1 => ∃ a dx fs, x = .ref a ∧ H1 a = some (.ins C dx fs) ∧ fs.lookup m = none ∧
  tk σ H1 fun zs H2 => zs.length = n ∧ sp (x :: gV zs) H2 Q E
section
variable {X : Cx} {k j : Nat} {C : Addr} {x m qual : Str} {st : Stmt} {ps ks : List Str} {sp : Sp} {p pos apos : Pos} {e o : Expr} {es : List Expr} {kws : List Keyword} {ta : TE} {t tk : TA} {g : {α : Type} → List α → List α}
theorem pe_mtK0 {pl : Sem Bool} (c : Mtd X.prog X.w X.K X.mg X.base k C m qual st ps sp) (hr : Room j X.A) (hk : k ≤ j) (he : PE X o ta) (hkw : PK X kws tk)
    (hb : ∀ (kV doc pm : Value) (an : Option Addr) (cdv ct sv : Value) (ws : List Value), ws.length = ks.length → bindArgs (PySem.W.fnOf m qual (defArgs st) (defBody st) (defScope st) .none kV doc pm an cdv ct) ⟨[sv], ks.zip ws⟩ = pure (ps.zip (sv :: g ws)))
    (hrel : ∀ {zs : List V} {ws : List Value}, Vals zs ws → Vals (g zs) (g ws))
    (hall : (backToKw pos (keywordEach kws X.env)).all (·.1.isSome) = true := by rfl) (hks : (backToKw pos (keywordEach kws X.env)).filterMap (·.1) = ks := by rfl)
    (hpl : ((backTo pos (starEach [] X.env)).any (·.1) || (backToKw pos (keywordEach kws X.env)).any (·.1.isNone)) = false := by rfl)
    (ht : eval (.Call (.Attribute o m apos) [] kws pos) X.env = (do
      let ov ← eval o X.env
      standAt apos.atName
      let (f, first) ← holding [ov] (getMethod ov m pl)
      callWith pos f first (backTo pos (starEach [] X.env)) (backToKw pos (keywordEach kws X.env))) := by rfl) :
    PE X (.Call (.Attribute o m apos) [] kws pos) (tMethK C m ks.length sp g E0 ta tk) := by
  obtain ⟨f, fd, hc, hm, F, Fn, _⟩ := c.ex
  refine ⟨fun pins s σ H Q I h => PySem.W.methodCall_KW (pl := pl) (thn (he.run pins s σ H _ I h) fun u s1 ⟨x, H1, I1, rx, a, dx, fs, ex, ea, l, q⟩ => ?_) ht⟩
  subst ex
  obtain rfl : u = Value.ref a := rx
  refine getmeth_ok I1 ea hc hm l (PySem.W.callWith_KW0 (first := [.ref a]) (h₀ := X.base) I.ok.mod.kin hm.kp hall (thn (hkw.run pos pins s1 σ H1 _ I1 q) fun ws s2 ⟨zs, H2, I2, rz, l2, q2⟩ => ⟨I2.kIn, ?_⟩) hpl)
  rw [hks]
  obtain ⟨oc, od, kV, doc, pm, an, cdv, ct, osl, rfl, lk, hcd⟩ := Fn.ex
  have b : KBn X.K (PySem.W.fnOf m qual (defArgs st) (defBody st) (defScope st) .none kV doc pm an cdv ct) ps 1 ks (fun us ws => us ++ g ws) (fun vs zs => vs ++ g zs) :=
    ⟨fun s us ws _ l1 l2 => by
      match us, l1 with
      | [sv], _ => exact BindsTo.of_eq (hb kV doc pm an cdv ct sv ws l2), fun r1 r => r1.append (hrel r)⟩
  exact run_fnN (us := [.ref a]) (vs := [.ref a]) (F.mono hk) hr b passL I2 (.cons rfl .nil) rz rfl l2 q2
/-- C(k = v, ..) -/
theorem pe_mkK0 (c : Mkd X.prog X.w X.K X.mg X.base k x C qual st ps sp) (hr : Room j X.A) (hk : k + 1 ≤ j) (hg : Gl X x) (hkw : PK X kws tk)
    (hb : ∀ (kV doc pm : Value) (an : Option Addr) (cdv ct sv : Value) (ws : List Value), ws.length = ks.length → bindArgs (PySem.W.fnOf "__init__" qual (defArgs st) (defBody st) (defScope st) .none kV doc pm an cdv ct) ⟨[sv], ks.zip ws⟩ = pure (ps.zip (sv :: g ws)))
    (hrel : ∀ {zs : List V} {ws : List Value}, Vals zs ws → Vals (g zs) (g ws))
    (hall : (backToKw pos (keywordEach kws X.env)).all (·.1.isSome) = true := by rfl) (hks : (backToKw pos (keywordEach kws X.env)).filterMap (·.1) = ks := by rfl) (hdb : (x == ("__debug__" : Str)) = false := by decide)
    (hpl : ((backTo pos (starEach [] X.env)).any (·.1) || (backToKw pos (keywordEach kws X.env)).any (·.1.isNone)) = false := by rfl) :
    PE X (.Call (.Name x p) [] kws pos) (tMakeK C 0 ks.length sp (fun vs zs => vs ++ g zs) E0 tNil tk) := by
  obtain ⟨f, fd, M, F, Fn, hm, _⟩ := c.ex
  obtain ⟨oc, od, kV, doc, pm, an, cdv, ct, osl, rfl, lk, hcd⟩ := Fn.ex
  have b : KBn X.K (PySem.W.fnOf "__init__" qual (defArgs st) (defBody st) (defScope st) .none kV doc pm an cdv ct) ps 1 ks (fun us ws => us ++ g ws) (fun vs zs => vs ++ g zs) :=
    ⟨fun s us ws _ l1 l2 => by
      match us, l1 with
      | [sv], _ => exact BindsTo.of_eq (hb kV doc pm an cdv ct sv ws l2), fun r1 r => r1.append (hrel r)⟩
  exact pe_makeK0 M F (hr.mono hk) hg hm b passL hkw hall hks hdb hpl
/-- a def in a suite, that reads the error it is given -/
theorem pe_cWE {a : Addr} {oe : Obj} {cls : Value} {d : Option Addr} {pn : List (Addr × Obj)} {sp' : Addr → Value → Option Addr → Sp} {q : Pos} (hz : Zc cls d oe) (hf : ∃ vs, oe.data = .fields vs)
    (c : ClW X.prog X.w X.K X.mg X.base k x (fun p vs H Q E => ∃ cls d, Zc cls d p.2 ∧ (∃ vs, p.2.data = .fields vs) ∧ sp' p.1 cls d vs H Q E)) (hr : Room j X.A) (hk : k ≤ j) (hg : Gl X x) (ha : PA (X.suite a ((a, oe) :: pn)) (e :: es) t)
    (hdb : (x == ("__debug__" : Str)) = false := by decide) (he : starEach (e :: es) X.env = (false, eval e X.env) :: starEach es X.env := by rfl) (hpl : (backTo pos (starEach es X.env)).any (·.1) = false := by rfl) :
    PE (X.suite a ((a, oe) :: pn)) (.Call (.Name x q) (e :: es) [] pos) (tCallS (sp' a cls d) (fun _ => E0) t) := by
  obtain ⟨f, fd, ps, F, hm, kp, b⟩ := c.ex
  refine ⟨fun pins s σ H Q I h => wpAny_Call_Name_kw (ld_glob I hg hm ?_ hdb)⟩
  exact PySem.W.callWith_K (h₀ := X.base) I.ok.mod.kin kp (thn (ha.run pos pins s σ H _ I h) fun us s1 ⟨vs, H1, I1, r, q⟩ => ⟨I1.kIn, run_fnW (X := X.suite a ((a, oe) :: pn)) (E := fun _ => E0) (p := (a, oe)) F ((room_mark hr _).mono hk) List.mem_cons_self b passA0 I1 r ⟨cls, d, hz, hf, q⟩⟩) he hpl
end
end SI
set_option maxRecDepth 100000
set_option maxHeartbeats 4000000
/-! defs with defaults under their names -/
namespace SI
open PySem PySem.Spec PyProof.Rows L2 NdefX
structure DefD (K : PySem.W.Frag) (mg : Str → Option Value) (x : Str) (st : Stmt) (dvs : List V) : Prop where
  ex : ∃ (f : Addr) (fd : FuncData), FunD K x x (defArgs st) (defBody st) (defScope st) dvs [] f fd ∧ mg x = some (.ref f)
structure CdD (P : Program) (w : World) (K : PySem.W.Frag) (mg : Str → Option Value) (base : Heap) (k : Nat) (x : Str) (st : Stmt) (ps : List Str) (sp : Sp) (dvs : List V) : Prop where
  ex : ∃ (f : Addr) (fd : FuncData), FnOk P w K mg base (L2.CX P w) k f fd ps sp ∧ FunD K x x (defArgs st) (defBody st) (defScope st) dvs [] f fd ∧ mg x = some (.ref f)
section
variable {P : Program} {w : World} {K : PySem.W.Frag} {mg : Str → Option Value} {base h : Heap}
theorem cdd_of {x : Str} {st : Stmt} {N ps : List Str} {k : Nat} {sp : Sp} {dvs : List V} (D : DefD K mg x st dvs) (S : FnScope N ps (defScope st)) (len : ∀ vs H Q E, sp vs H Q E → vs.length = ps.length)
    (hbody : ∀ (f : Addr) (cdv : Value) (A : Around) (outer : List Env) (s : Shared) (H : Hp) (vs : List V) (Q : VK) (E : XK), Room k (A.deeper (envOfC x (defScope st) s.heap.objs.size f cdv)) → sp vs H Q E →
      ∃ t, PSs (cxOf (L2.CX P w) P w K mg base N x (defScope st) f cdv A outer s H E) (defBody st) t ∧ t { nx := fun _ H' => Q .non H', rt := Q } (L2.start N vs) H) : CdD P w K mg base (k + 1) x st ps sp dvs := by
  obtain ⟨f, fd, F, hm⟩ := D.ex
  exact ⟨f, fd, F.ok S len (hbody f), F, hm⟩
/-- called with all but the last dvs.length - j values -/
theorem CdD.cl {k : Nat} {x : Str} {st : Stmt} {ps : List Str} {sp : Sp} {dvs : List V} (c : CdD P w K mg base k x st ps sp dvs) (n j : Nat) (hd : dvs ≠ []) (hn : n + (dvs.length - j) = ps.length)
    (hb : ∀ (T : Addr) (kV doc pm : Value) (an : Option Addr) (cdv ct : Value) (us its : List Value), us.length = n → its.length = dvs.length →
      ∃ k, bindArgs (PySem.W.fnOf x x (defArgs st) (defBody st) (defScope st) (.ref T) kV doc pm an cdv ct) ⟨us, []⟩ = seqItems? (.ref T) >>= k ∧ k (some its.toArray) = pure (ps.zip (us ++ its.drop j))) : Cl P w K mg base k x sp (dvs.drop j) := by
  obtain ⟨f, fd, F, Fn, hm⟩ := c.ex
  obtain ⟨ds, hv, b⟩ := Fn.binds1 n j hd hn hb
  exact ⟨f, fd, ps, ds, F, hm, Fn.kp, b, hv⟩
theorem defd_at {x : Str} {st : Stmt} {dvs : List V} {f T : Addr} {oc kV doc pm cdv ct toc : Value} {od an tod : Option Addr} {osl tsl : Array (Option Value)} {its : List Value} {n : Nat} (X : K.In h) (G : h.Ns mainGlobals mg)
    (a : PySem.W.nsIn K mainGlobals x = some (some (.ref f))) (l : K.lookup f = some ⟨oc, od, .func (PySem.W.fnOf x x (defArgs st) (defBody st) (defScope st) (.ref T) kV doc pm an cdv ct), osl⟩)
    (c : PySem.W.codeIn K cdv x = true) (k : PySem.W.keepIn K (.ref f) = true) (t : K.lookup T = some ⟨toc, tod, .seq its.toArray n, tsl⟩) (hd : dvs ≠ []) (hv : Vals dvs its) {R : Prop} (r : DefD K mg x st dvs → R) : R :=
  r ⟨f, _, ⟨⟨oc, od, .ref T, kV, doc, pm, an, cdv, ct, osl, rfl, l, c, .inr ⟨hd, T, _, its, n, rfl, t, rfl, hv⟩, .inl rfl⟩, k⟩, PySem.W.mg_of X G a⟩
end
section
variable {X : Cx} {k j : Nat} {x : Str} {st : Stmt} {ps ks : List Str} {sp : Sp} {dvs : List V} {p pos : Pos} {kws : List Keyword} {tk : TA} {g : {α : Type} → List α → List α → List α}
/-- f(k = v, ..): g puts the defaults and the keywords' values in the parameters' order -/
theorem pe_cKD (c : CdD X.prog X.w X.K X.mg X.base k x st ps sp dvs) (hr : Room j X.A) (hk : k ≤ j) (hg : Gl X x) (hkw : PK X kws tk) (hd : dvs ≠ [])
    (hrel : ∀ {ds zs : List V} {its ws : List Value}, Vals ds its → Vals zs ws → Vals (g ds zs) (g its ws))
    (hb : ∀ (T : Addr) (kV doc pm : Value) (an : Option Addr) (cdv ct : Value) (us its ws : List Value), us.length = 0 → its.length = dvs.length → ws.length = ks.length →
      ∃ k, bindArgs (PySem.W.fnOf x x (defArgs st) (defBody st) (defScope st) (.ref T) kV doc pm an cdv ct) ⟨us, ks.zip ws⟩ = seqItems? (.ref T) >>= k ∧ k (some its.toArray) = pure (ps.zip (us ++ g its ws)))
    (hall : (backToKw pos (keywordEach kws X.env)).all (·.1.isSome) = true := by rfl) (hks : (backToKw pos (keywordEach kws X.env)).filterMap (·.1) = ks := by rfl)
    (hdb : (x == ("__debug__" : Str)) = false := by decide) (hpl : ((backTo pos (starEach [] X.env)).any (·.1) || (backToKw pos (keywordEach kws X.env)).any (·.1.isNone)) = false := by rfl) :
    PE X (.Call (.Name x p) [] kws pos) (tK0 ks.length sp (g dvs) tk) := by
  obtain ⟨f, fd, F, Fn, hm⟩ := c.ex
  obtain ⟨its, b⟩ := Fn.kbindsD 0 ks (fun vs ds zs => vs ++ g ds zs) hd (fun r1 r2 r3 => r1.append (hrel r2 r3)) hb
  refine ⟨fun pins s σ H Q I h => wpAny_Call_Name_kw (ld_glob I hg hm ?_ hdb)⟩
  refine PySem.W.callWith_KW0 (h₀ := X.base) I.ok.mod.kin Fn.kp hall (thn (hkw.run pos pins s σ H _ I h) fun ws s2 ⟨zs, H2, I2, rz, l2, q2⟩ => ⟨I2.kIn, ?_⟩) hpl
  rw [hks]
  exact run_fnN (us := []) (vs := []) (F.mono hk) hr b passL I2 .nil rz rfl l2 q2
end
end SI
set_option maxRecDepth 100000
set_option maxHeartbeats 4000000
/-! tuple * int, 0 and 1 too -/
namespace SI
open PySem PySem.Spec PyProof.Rows L2
theorem tuple_mul1 (l : Addr) (items : Array Value) (n : Nat) (dd : Option Addr) (sl : Array (Option Value)) (u : Tok) :
    Meets (Builtin.«tuple.__mul__» ⟨[.ref l, .int 1 u], []⟩) (fun _ R s => s.heap.get? l = some { cls := .type "tuple", dict := dd, data := .seq items n, slots := sl } ∧ R (.ok (.ret (.ref l))) s) :=
  .of_wp fun prog w A R s h => by
    obtain ⟨hp, g, d, tk, os⟩ := s
    obtain ⟨hl, h⟩ := h
    have f1 := AutoSeq1.idx_int
    have c1 : (items.isEmpty || (1 : Int) == 1) = true := by simp
    wp_walk using wpAny_loadPart' hl
    repeat (first
      | (refine wpAny_ite_false (decide_eq_false (by decide)) ?_; wp_walk using wpAny_loadPart' hl)
      | (refine wpAny_ite_true (decide_eq_true (by rw [c1])) ?_; wp_walk using wpAny_loadPart' hl))
    exact ⟨_, rfl, h⟩
theorem tuple_mul0 (l : Addr) (items : Array Value) (n : Nat) (dd : Option Addr) (sl : Array (Option Value)) (u : Tok) (hi : items.isEmpty = false) :
    Meets (Builtin.«tuple.__mul__» ⟨[.ref l, .int 0 u], []⟩) (fun _ R s => s.heap.get? l = some { cls := .type "tuple", dict := dd, data := .seq items n, slots := sl } ∧
      R (.ok (.ret (Value.ref s.heap.objs.size))) { s with heap := s.heap.push { cls := Value.type "tuple", data := Data.seq #[] }, toks := s.toks }) :=
  .of_wp fun prog w A R s h => by
    obtain ⟨hp, g, d, tk, os⟩ := s
    obtain ⟨hl, h⟩ := h
    have f1 := AutoSeq1.idx_int
    have c1 : (items.isEmpty || (0 : Int) == 1) = false := by rw [hi]; rfl
    have c2 : (decide ((0 : Int) ≤ 0) || items.isEmpty) = true := by simp
    wp_walk using wpAny_loadPart' hl
    repeat (first
      | (refine wpAny_ite_false (decide_eq_false (by decide)) ?_; wp_walk using wpAny_loadPart' hl)
      | (refine wpAny_ite_false (decide_eq_false (by rw [c1]; exact Bool.false_ne_true)) ?_; wp_walk using wpAny_loadPart' hl)
      | (refine wpAny_ite_true (decide_eq_true (by rw [c2])) ?_; wp_walk using wpAny_loadPart' hl))
    exact ⟨_, rfl, h⟩
def rRepS (K : PySem.W.Frag) : R2 := fun x y H Q => ∃ l k xs, x = .ref l ∧ y = .int k ∧ SqT K H l xs ∧ xs ≠ [] ∧ 0 ≤ k ∧ k ≤ 1000 ∧ xs.length ≤ 1000 ∧ (k = 1 → Q (.ref l) H) ∧ (k ≠ 1 → ∀ p, H p = none → Q (.ref p) (upd H p (.tup (List.replicate k.toNat xs).flatten)))
section
variable {X : Cx}
theorem op_repS : OpR X (binaryOp .Mult) (rRepS X.K) := by
  intro pins s σ H x y v u Q I rx ry h
  obtain ⟨l, k, xs, rfl, rfl, hT, hne, h1, h2, hz, q1, q⟩ := h
  by_cases c2 : 2 ≤ k
  · exact op_repT pins s σ H _ _ v u Q I rx ry ⟨l, k, xs, rfl, rfl, hT, hne, c2, h2, hz, q (by omega)⟩
  cases rx
  obtain ⟨t, rfl⟩ := ry
  obtain ⟨its, r, ⟨⟨cls, dd, data, sl⟩, ho, hc, n, hd⟩, hs⟩ := I.tuple hT
  simp only at hc hd
  subst hc hd
  have hle : its.length = xs.length := r.length.symm
  have hn : its ≠ [] := fun e => hne (by
    rw [e] at hle
    exact List.eq_nil_of_length_eq_zero hle.symm)
  have hi : its.toArray.isEmpty = false := by
    cases its with
    | nil => exact absurd rfl hn
    | cons a b => rfl
  by_cases c1 : k = 1
  · subst c1
    exact wpAny_binaryOp_repeat_ref (T := "tuple") (U := "int") (by decide) ⟨_, ho, rfl⟩ (fun s' => typeIs_int s' 1 t) noFill_tuple_mul F.fills_int_mul F.slot_int_rmul repeat_tuple F.slot_int_index.lookup
      (call_meets F.slot_int_rmul (typeIs_int s 1 t) F.entry_int_rmul (F.args_int_rmul_2 _ _) (int_rmul_tuple 1 t l its.toArray n dd sl)
        ⟨ho, rfl, ⟨_, ho, rfl⟩, call_meets F.slot_tuple_mul ⟨_, ho, rfl⟩ F.entry_tuple_mul (F.args_tuple_mul_2 _ _) (tuple_mul1 l its.toArray n dd sl t) ⟨ho, ⟨.ref l, H, I, rfl, q1 rfl⟩⟩⟩)
  · obtain rfl : k = 0 := by omega
    exact wpAny_binaryOp_repeat_ref (T := "tuple") (U := "int") (by decide) ⟨_, ho, rfl⟩ (fun s' => typeIs_int s' 0 t) noFill_tuple_mul F.fills_int_mul F.slot_int_rmul repeat_tuple F.slot_int_index.lookup
      (call_meets F.slot_int_rmul (typeIs_int s 0 t) F.entry_int_rmul (F.args_int_rmul_2 _ _) (int_rmul_tuple 0 t l its.toArray n dd sl)
        ⟨ho, rfl, ⟨_, ho, rfl⟩, call_meets F.slot_tuple_mul ⟨_, ho, rfl⟩ F.entry_tuple_mul (F.args_tuple_mul_2 _ _) (tuple_mul0 l its.toArray n dd sl t hi)
          ⟨ho, ⟨.ref s.heap.objs.size, _, I.laid (t' := s.toks) (o := .tup []) (fun b ob q => Heap.get?_push_of_some _ q) (Nat.le_refl _) ⟨by show 0 ≤ sizeLine; decide, [], .nil, IsTup.new _ _⟩, rfl, q (by decide) _ (I.hok.fresh (Nat.le_refl _))⟩⟩⟩)
end
end SI
set_option maxRecDepth 100000
set_option maxHeartbeats 4000000
namespace K13
open PySem L2 SI
def top (i : Nat) : Stmt := PySem.Challenge.pw_pebblesreach_k13_tree_line.main.body.getD i (.Pass ⟨0, 0, 0, 0⟩)
abbrev sHeights : Stmt := top 8
abbrev sMainChildren : Stmt := top 9
abbrev sPathDown : Stmt := top 10
abbrev sPaths : Stmt := top 11
abbrev sPathProduct : Stmt := top 12
abbrev sCheckWanted : Stmt := top 14
abbrev sLine : Stmt := top 15
abbrev sTreeEnough : Stmt := top 16
abbrev sCheckEdges : Stmt := top 23
abbrev sTreeInit : Stmt := inClass (top 24) 0
abbrev sPathTree : Stmt := top 26
abbrev sStarTree : Stmt := top 27
abbrev sStemmed : Stmt := top 28
abbrev sHung : Stmt := top 29
abbrev sGlued : Stmt := top 30
abbrev sLTakeCells : Stmt := top 32
abbrev sLDraw : Stmt := top 33
abbrev sLSame : Stmt := top 34
abbrev sLParentRow : Stmt := top 35
abbrev sLPriceRow : Stmt := top 36
abbrev sLHeightRow : Stmt := top 37
abbrev sLLineOf : Stmt := top 38
abbrev sLIsTree : Stmt := top 39
abbrev sLNumbersRight : Stmt := top 40
abbrev sLFaultOf : Stmt := top 41
abbrev sLTry : Stmt := top 42
abbrev sLTryRow : Stmt := top 43
abbrev sLWrongPrice : Stmt := top 44
abbrev sLGrow : Stmt := top 45
abbrev sLGluedRight : Stmt := top 46
abbrev sLFull : Stmt := top 47
abbrev sLRows : Stmt := top 48
abbrev sLaw : Stmt := top 49
abbrev sBadCountInit : Stmt := inClass (top 2) 0
abbrev sNoNodeInit : Stmt := inClass (top 3) 0
abbrev sWrongWidthInit : Stmt := inClass (top 4) 0
abbrev sBadParentInit : Stmt := inClass (top 18) 0
abbrev sBadPriceInit : Stmt := inClass (top 19) 0
structure Txt (P : Program) (w : World) (K : PySem.W.Frag) (mg : Str → Option Value) (base : Heap) (Ad1 Ad2 Ad4 Ad6 Ad9 Ad10 Ad11 : Addr) : Prop where
  b_len : mg "len" = none
  b_int : mg "int" = none
  b_tuple : mg "tuple" = none
  b_list : mg "list" = none
  b_range : mg "range" = none
  b_isinstance : mg "isinstance" = none
  b_bool : mg "bool" = none
  b_ValueError : mg "ValueError" = none
  b_enumerate : mg "enumerate" = none
  b_max : mg "max" = none
  b_min : mg "min" = none
  b_sum : mg "sum" = none
  b_str : mg "str" = none
  c_MOST_PRICE : ∃ t, mg "MOST_PRICE" = some (.int 31 t)
  c_LEAST_PRICE : ∃ t, mg "LEAST_PRICE" = some (.int 2 t)
  c_MOST_TREE_NODES : ∃ t, mg "MOST_TREE_NODES" = some (.int 60 t)
  c_MOST_MANY : ∃ t, mg "MOST_MANY" = some (.int 1000000 t)
  rBadCount : Rs P w K mg base "BadCount" Ad2 (mk2 "what" "many" fun v => ∃ t : Str, v = .str t ∧ t.length ≤ 1000)
  rNoNode : Rs P w K mg base "NoNode" Ad4 (mk1 "node")
  rWrongWidth : Rs P w K mg base "WrongWidth" Ad6 (mk2 "have" "need" fun _ => True)
  rBadParent : Rs P w K mg base "BadParent" Ad9 (mk1 "at")
  rBadPrice : Rs P w K mg base "BadPrice" Ad10 (mk1 "at")
  m_Tree : MakAt K mg "Tree" Ad11 "Tree.__init__" sTreeInit ["self", "parents", "prices"]
  lTree : Cls K Ad11
  nTree_nodes : NoAttr K Ad11 "nodes"
  nTree_parents : NoAttr K Ad11 "parents"
  nTree_prices : NoAttr K Ad11 "prices"
  d_heights : DefAt K mg "heights" sHeights ["tree"]
  d_main_children : DefAt K mg "main_children" sMainChildren ["tree"]
  d_path_down : DefAt K mg "path_down" sPathDown ["main", "top", "second"]
  d_paths : DefAt K mg "paths" sPaths ["tree"]
  d_path_product : DefAt K mg "path_product" sPathProduct ["tree", "path"]
  d_check_wanted : DefAt K mg "check_wanted" sCheckWanted ["many"]
  d_line : DefAt K mg "line" sLine ["tree"]
  d_tree_enough : DefD K mg "tree_enough" sTreeEnough [.int 1]
  d_check_edges : DefAt K mg "check_edges" sCheckEdges ["parents", "prices"]
  d_path_tree : DefAt K mg "path_tree" sPathTree ["prices"]
  d_star_tree : DefAt K mg "star_tree" sStarTree ["prices"]
  d_stemmed : DefAt K mg "stemmed" sStemmed ["tree", "price"]
  d_hung : DefAt K mg "hung" sHung ["tree", "node", "price"]
  d_glued : DefAt K mg "glued" sGlued ["left", "right"]
  d__law_take_cells : DefAt K mg "_law_take_cells" sLTakeCells ["script"]
  d__law_draw : DefAt K mg "_law_draw" sLDraw ["pool", "many"]
  d__law_same : DefAt K mg "_law_same" sLSame ["told", "due"]
  d__law_parent_row : DefAt K mg "_law_parent_row" sLParentRow ["pool", "edges"]
  d__law_price_row : DefAt K mg "_law_price_row" sLPriceRow ["pool", "edges"]
  d__law_height_row : DefAt K mg "_law_height_row" sLHeightRow ["parents", "prices"]
  d__law_line_of : DefAt K mg "_law_line_of" sLLineOf ["parents", "prices"]
  d__law_is_tree : DefAt K mg "_law_is_tree" sLIsTree ["told", "parents", "prices"]
  d__law_numbers_right : DefAt K mg "_law_numbers_right" sLNumbersRight ["tree", "parents", "prices", "many"]
  d__law_fault_of : DefAt K mg "_law_fault_of" sLFaultOf ["e"]
  d__law_try : DefAt K mg "_law_try" sLTry ["deed", "tree", "other", "number", "price"]
  d__law_try_row : DefAt K mg "_law_try_row" sLTryRow ["star", "prices"]
  d__law_wrong_price : DefAt K mg "_law_wrong_price" sLWrongPrice ["pool"]
  d__law_grow : DefAt K mg "_law_grow" sLGrow ["pool", "tree", "parents", "prices", "many"]
  d__law_glued_right : DefAt K mg "_law_glued_right" sLGluedRight ["left", "right", "rows", "many"]
  d__law_full : DefAt K mg "_law_full" sLFull ["pool", "right", "parents", "prices", "many"]
  d__law_rows : DefAt K mg "_law_rows" sLRows ["pool", "prices", "many"]
  d_law : DefAt K mg "law" sLaw ["script"]
  gPebbleError : mg "PebbleError" = some (.ref Ad1)
  gBadCount : mg "BadCount" = some (.ref Ad2)
  gNoNode : mg "NoNode" = some (.ref Ad4)
  gWrongWidth : mg "WrongWidth" = some (.ref Ad6)
  gBadParent : mg "BadParent" = some (.ref Ad9)
  gBadPrice : mg "BadPrice" = some (.ref Ad10)
  gTree : mg "Tree" = some (.ref Ad11)
  ek : ErrK K
  eBadCount : ErrC K Ad2
  fBadCount_what : PySem.W.findIn K (.ref Ad2) "what" = some none
  fBadCount_many : PySem.W.findIn K (.ref Ad2) "many" = some none
  xBadCount_PebbleError : PySem.W.exmOne K (.ref Ad2) (.ref Ad1) = some true
  tBadCount_BadCount : PySem.W.kitOne K (.ref Ad2) (.ref Ad2) = some true
  tBadCount_NoNode : PySem.W.kitOne K (.ref Ad2) (.ref Ad4) = some false
  tBadCount_BadPrice : PySem.W.kitOne K (.ref Ad2) (.ref Ad10) = some false
  tBadCount_BadParent : PySem.W.kitOne K (.ref Ad2) (.ref Ad9) = some false
  tBadCount_WrongWidth : PySem.W.kitOne K (.ref Ad2) (.ref Ad6) = some false
  tBadCount_ValueError : PySem.W.kitOne K (.ref Ad2) (.type "ValueError") = some true
  eNoNode : ErrC K Ad4
  fNoNode_node : PySem.W.findIn K (.ref Ad4) "node" = some none
  xNoNode_PebbleError : PySem.W.exmOne K (.ref Ad4) (.ref Ad1) = some true
  tNoNode_BadCount : PySem.W.kitOne K (.ref Ad4) (.ref Ad2) = some false
  tNoNode_NoNode : PySem.W.kitOne K (.ref Ad4) (.ref Ad4) = some true
  tNoNode_BadPrice : PySem.W.kitOne K (.ref Ad4) (.ref Ad10) = some false
  tNoNode_BadParent : PySem.W.kitOne K (.ref Ad4) (.ref Ad9) = some false
  tNoNode_WrongWidth : PySem.W.kitOne K (.ref Ad4) (.ref Ad6) = some false
  tNoNode_ValueError : PySem.W.kitOne K (.ref Ad4) (.type "ValueError") = some true
  eWrongWidth : ErrC K Ad6
  fWrongWidth_have : PySem.W.findIn K (.ref Ad6) "have" = some none
  fWrongWidth_need : PySem.W.findIn K (.ref Ad6) "need" = some none
  xWrongWidth_PebbleError : PySem.W.exmOne K (.ref Ad6) (.ref Ad1) = some true
  tWrongWidth_BadCount : PySem.W.kitOne K (.ref Ad6) (.ref Ad2) = some false
  tWrongWidth_NoNode : PySem.W.kitOne K (.ref Ad6) (.ref Ad4) = some false
  tWrongWidth_BadPrice : PySem.W.kitOne K (.ref Ad6) (.ref Ad10) = some false
  tWrongWidth_BadParent : PySem.W.kitOne K (.ref Ad6) (.ref Ad9) = some false
  tWrongWidth_WrongWidth : PySem.W.kitOne K (.ref Ad6) (.ref Ad6) = some true
  tWrongWidth_ValueError : PySem.W.kitOne K (.ref Ad6) (.type "ValueError") = some true
  eBadParent : ErrC K Ad9
  fBadParent_at : PySem.W.findIn K (.ref Ad9) "at" = some none
  xBadParent_PebbleError : PySem.W.exmOne K (.ref Ad9) (.ref Ad1) = some true
  tBadParent_BadCount : PySem.W.kitOne K (.ref Ad9) (.ref Ad2) = some false
  tBadParent_NoNode : PySem.W.kitOne K (.ref Ad9) (.ref Ad4) = some false
  tBadParent_BadPrice : PySem.W.kitOne K (.ref Ad9) (.ref Ad10) = some false
  tBadParent_BadParent : PySem.W.kitOne K (.ref Ad9) (.ref Ad9) = some true
  tBadParent_WrongWidth : PySem.W.kitOne K (.ref Ad9) (.ref Ad6) = some false
  tBadParent_ValueError : PySem.W.kitOne K (.ref Ad9) (.type "ValueError") = some true
  eBadPrice : ErrC K Ad10
  fBadPrice_at : PySem.W.findIn K (.ref Ad10) "at" = some none
  xBadPrice_PebbleError : PySem.W.exmOne K (.ref Ad10) (.ref Ad1) = some true
  tBadPrice_BadCount : PySem.W.kitOne K (.ref Ad10) (.ref Ad2) = some false
  tBadPrice_NoNode : PySem.W.kitOne K (.ref Ad10) (.ref Ad4) = some false
  tBadPrice_BadPrice : PySem.W.kitOne K (.ref Ad10) (.ref Ad10) = some true
  tBadPrice_BadParent : PySem.W.kitOne K (.ref Ad10) (.ref Ad9) = some false
  tBadPrice_WrongWidth : PySem.W.kitOne K (.ref Ad10) (.ref Ad6) = some false
  tBadPrice_ValueError : PySem.W.kitOne K (.ref Ad10) (.type "ValueError") = some true
  iTree : SlX.SIsi K Ad11
end K13
set_option maxRecDepth 100000
set_option maxHeartbeats 4000000
set_option exponentiation.threshold 20000
namespace K13
open PySem L2 SI
/-- all but the object at W stays -/
def But (W : Addr) (H H' : Hp) : Prop := ∀ b o, b ≠ W → H b = some o → H' b = some o
theorem But.trans {W : Addr} {H H' H'' : Hp} (s : But W H H') (s' : But W H' H'') : But W H H'' := fun b o n e => s' b o n (s b o n e)
theorem But.of {W : Addr} {H H' : Hp} (s : Same H H') : But W H H' := fun b o _ e => s b o e
theorem But.upd {W : Addr} {H : Hp} {o : HO} : But W H (L2.upd H W o) := fun b u n e => by rw [upd_ne n]; exact e
theorem cdiv_small {n : Int} (h0 : 0 < n) (h1 : n ≤ 10 ^ 130) : CDivW 0 n := ⟨h0, by
  have e : n.natAbs < 2 ^ 500 := by
    have : (10 : Int) ^ 130 < 2 ^ 500 := by decide +kernel
    omega
  exact Nat.lt_of_lt_of_le (PySem.Flt.log2_lt_of (by decide) e) (by decide)⟩
theorem cmul_small {i j : Int} (h0 : i.natAbs < 2 ^ 10000) (h1 : j.natAbs < 2 ^ 10000) : CMulW i j := wide_mul h0 h1 (by decide) (by decide) (by decide)
theorem abs_small {n : Int} (h0 : -(10 ^ 200) ≤ n) (h1 : n ≤ 10 ^ 200) : n.natAbs < 2 ^ 10000 := by
  have h : (10 : Int) ^ 200 < 2 ^ 700 := by decide +kernel
  have h2 : (2 : Nat) ^ 700 ≤ 2 ^ 10000 := Nat.pow_le_pow_right (by decide) (by decide)
  refine Nat.lt_of_lt_of_le ?_ h2
  omega
/-- the pool of the law's draws; b more and it is still small -/
def PoolB (H : Hp) (p : Addr) (b : Nat) : Prop := ∃ (z : Int) (ns : List Int), H p = some (.lst ((z :: ns).map V.int)) ∧ 0 ≤ z ∧ z ≤ 1000003 + b ∧ ns.length ≤ 64
@[irreducible] def spDraw : Sp := fun vs H Q _ => ∃ (p : Addr) (n : Int) (b : Nat), vs = [.ref p, .int n] ∧ PoolB H p b ∧ b ≤ 10 ^ 100 ∧ CDivW 0 n ∧ ∀ d H', But p H H' → PoolB H' p (b + 1) → 0 ≤ d → d < n → Q (.int d) H'
theorem draw_of {H : Hp} {p : Addr} {n : Int} {b : Nat} {Q : VK} {E : XK} (hp : PoolB H p b) (hb : b ≤ 10 ^ 100) (h0 : 0 < n) (h1 : n ≤ 10 ^ 130) (k : ∀ d H', But p H H' → PoolB H' p (b + 1) → 0 ≤ d → d < n → Q (.int d) H') : spDraw [.ref p, .int n] H Q E := by
  unfold spDraw
  exact ⟨p, n, b, rfl, hp, hb, cdiv_small h0 h1, k⟩
section
variable {P : Program} {w : World} {K : PySem.W.Frag} {mg : Str → Option Value} {base : Heap} {Ad1 Ad2 Ad4 Ad6 Ad9 Ad10 Ad11 : Addr}
theorem scLDraw : FnScope ["pool", "many", "number"] ["pool", "many"] (defScope sLDraw) := ⟨rfl, rfl, rfl, by decide +kernel, rfl, by decide +kernel, by decide +kernel⟩
theorem ok_LDraw (T : Txt P w K mg base Ad1 Ad2 Ad4 Ad6 Ad9 Ad10 Ad11) : Cl P w K mg base 1 "_law_draw" spDraw [] := by
  refine cl_of T.d__law_draw scLDraw (fun vs H Q E h => ?_) fun f cdv A outer s H vs Q E hr h => ?_
  · unfold spDraw at h
    obtain ⟨p, n, b, rfl, _⟩ := h
    rfl
  · unfold spDraw at h
    obtain ⟨p, n, b, rfl, ⟨z, ns, hp, z0, z1, hl⟩, hb, hn, k⟩ := h
    refine ⟨_, (C8.pss_cut (ps_if (pt_cmpR op_eq (pe_callB call_len_seq (by rfl) T.b_len (by decide +kernel) (pa_cons (pv 0) pa_nil)) pe_int (nomark _))
    (pss_cons (ps_asg (pe_op op_add (pe_ix ix_list (pv 0) pe_int (fun _ _ => rfl)) pe_int) (pg_sub (pv 0) pe_int set_list))
    (pss_one (ps_expr (pe_bm PySem.F.plainAttrs_list PySem.F.slot_list_append PySem.F.type_list_append mt_append (pv 0) (pa_cons (pe_op op_mulW (pe_op op_pow pe_int pe_int) (pe_op op_add (pe_op op_pow pe_int pe_int) (pe_ix ix_list (pv 0) pe_int (fun _ _ => rfl)))) pa_nil)))))
    pss_nil)
  (pss_cons (ps_set (i := 2) scLDraw.nd rfl (by first | exact Or.inl rfl | exact Or.inr rfl) (pe_bm0 PySem.F.plainAttrs_list PySem.F.slot_list_pop PySem.F.type_list_pop mt_pop (pv 0)))
  (C8.pss_cut (ps_if (pt_cmpR op_ge (pv 2) (pv 1) (nomark _))
    (pss_one (ps_expr (pe_bm PySem.F.plainAttrs_list PySem.F.slot_list_append PySem.F.type_list_append mt_append (pv 0) (pa_cons (pe_op op_fdivW (pv 2) (pv 1)) pa_nil))))
    pss_nil)
  (pss_one (ps_ret (pe_op op_mod (pe_callTy call_intI (by rfl) T.b_int (by decide +kernel) (pa_cons (pv 2) pa_nil)) (pv 1))))))), ?_⟩
    have hn0 : 0 < n := hn.1
    refine ⟨fun σ' H' => ∃ (z' : Int) (ms : List Int) (y : Int), σ' = [some (.ref p), some (.int n), none] ∧ But p H H' ∧ H' p = some (.lst ((z' :: (ms ++ [y])).map V.int)) ∧ 0 ≤ z' ∧ z' ≤ 1000003 + (b + 1 : Nat) ∧ ms.length ≤ 63, ?_, ?_⟩
    · refine ⟨_, rfl, p, _, rfl, .inl (SqL.of hp), rfl, _, rfl, ?_⟩
      cases ns with
      | nil =>
        refine iteT ?_
        refine ⟨_, rfl, p, _, _, _, rfl, rfl, SqL.of hp, atI0, _, _, rfl, rfl, _, rfl, p, _, _, 0, rfl, rfl, hp, rfl, ?_⟩
        refine ⟨_, rfl, .inl ⟨rfl, _, SqL.of upd_same⟩, _, _, rfl, rfl, ⟨by decide, by decide, by decide⟩, _, _, rfl, rfl, ⟨by decide, by decide, by decide⟩, _, rfl, p, _, _, _, rfl, rfl, SqL.of upd_same, atI0, _, _, rfl, rfl, _, _, rfl, rfl, ?_, p, _, _, rfl, rfl, upd_same, by show 1 < sizeLine; decide, ?_⟩
        · refine cmul_small (abs_small (by decide +kernel) (by decide +kernel)) (abs_small ?_ ?_)
          · have : (0 : Int) ≤ 47 ^ Int.toNat 36 := by decide +kernel
            omega
          · have : (47 : Int) ^ Int.toNat 36 ≤ 10 ^ 190 := by decide +kernel
            omega
        · refine ⟨z + 1, [], 43 ^ Int.toNat 36 * (47 ^ Int.toNat 36 + (z + 1)), rfl, But.upd.trans But.upd, by rw [upd_same]; rfl, by omega, by omega, by decide⟩
      | cons y r =>
        refine ifI (fun c => absurd c (by simp only [List.length_map, List.length_cons]; omega)) fun _ => ?_
        have e := List.dropLast_concat_getLast (l := y :: r) (by simp)
        refine ⟨z, (y :: r).dropLast, (y :: r).getLast (by simp), rfl, fun b o _ e => e, by rw [e]; exact hp, z0, by omega, by rw [List.length_dropLast]; omega⟩
    rintro _ H1 ⟨z', ms, y, rfl, b1, hp1, z0', z1', hms⟩
    refine ⟨_, rfl, .inl ⟨rfl, _, SqL.of hp1⟩, p, _, .int y, rfl, rfl, hp1, ?_, ?_⟩
    · rw [List.map_cons, List.map_append, List.length_cons, List.length_append, List.length_map]
      simp
    have ed : ((z' :: (ms ++ [y])).map V.int).dropLast = (z' :: ms).map V.int := by
      rw [← List.map_dropLast]
      congr 1
      rw [← List.cons_append, List.dropLast_concat]
    rw [ed]
    have hp2 : upd H1 p (.lst ((z' :: ms).map V.int)) p = some (.lst ((z' :: ms).map V.int)) := upd_same
    have b2 : But p H (upd H1 p (.lst ((z' :: ms).map V.int))) := b1.trans But.upd
    generalize upd H1 p (.lst ((z' :: ms).map V.int)) = H2 at hp2 b2 ⊢
    refine ⟨fun σ' H' => ∃ ks : List Int, σ' = [some (.ref p), some (.int n), some (.int y)] ∧ But p H H' ∧ H' p = some (.lst ((z' :: ks).map V.int)) ∧ ks.length ≤ 64, ?_, ?_⟩
    · refine ⟨_, rfl, _, rfl, _, _, rfl, rfl, _, rfl, ifD (fun _ => ?_) fun _ => ?_⟩
      · refine ⟨_, rfl, .inl ⟨rfl, _, SqL.of hp2⟩, _, rfl, _, rfl, _, _, rfl, rfl, hn, p, _, _, rfl, rfl, hp2, by simp only [List.length_map, List.length_cons]; exact sz_lt (by omega), ?_⟩
        exact ⟨ms ++ [y / n], rfl, b2.trans But.upd, by rw [upd_same, ← List.cons_append, List.map_append] <;> rfl, by simp; omega⟩
      · exact ⟨ms, rfl, b2, hp2, by omega⟩
    rintro _ H3 ⟨ks, rfl, b3, hp3, hks⟩
    refine ⟨_, rfl, _, rfl, _, rfl, _, _, rfl, rfl, hn0, ?_⟩
    exact k _ H3 b3 ⟨z', ks, hp3, z0', z1', hks⟩ (Int.emod_nonneg _ (by omega)) (Int.emod_lt_of_pos _ hn0)
end
end K13
set_option maxRecDepth 100000
set_option maxHeartbeats 4000000
namespace K13
open PySem L2 SI
/-- equal data of depth at most d -/
inductive Da (H : Hp) : Nat → V → V → Prop where
  | int (d : Nat) (i : Int) : Da H d (.int i) (.int i)
  | str (d : Nat) (s : Str) (h : SeqAt.shaped (.str s) = true) : Da H d (.str s) (.str s)
  | tup (d : Nat) (a b : Addr) (xs ys : List V) (ha : H a = some (.tup xs)) (hb : H b = some (.tup ys)) (hl : xs.length = ys.length) (hz : ys.length ≤ 100000) (h : ∀ (i : Nat) x y, xs[i]? = some x → ys[i]? = some y → Da H d x y) : Da H (d + 1) (.ref a) (.ref b)
@[irreducible] def spSame (d : Nat) : Sp := fun vs H Q _ => ∃ v u : V, vs = [v, u] ∧ Da H d v u ∧ Q (.bl true) H
theorem same_of {d : Nat} {H : Hp} {v u : V} {Q : VK} {E : XK} (h : Da H d v u) (k : Q (.bl true) H) : spSame d [v, u] H Q E := by
  unfold spSame
  exact ⟨v, u, rfl, h, k⟩
section
variable {P : Program} {w : World} {K : PySem.W.Frag} {mg : Str → Option Value} {base : Heap} {Ad1 Ad2 Ad4 Ad6 Ad9 Ad10 Ad11 : Addr}
theorem kNt : PySem.W.kitOne K (.type "NoneType") (.type "tuple") = some false := kit_ty (by decide +kernel)
theorem kit_t : PySem.W.kitOne K (.type "int") (.type "tuple") = some false := kit_ty (by decide +kernel)
theorem kst : PySem.W.kitOne K (.type "str") (.type "tuple") = some false := kit_ty (by decide +kernel)
theorem ktt : PySem.W.kitOne K (.type "tuple") (.type "tuple") = some true := kit_ty (by decide +kernel)
theorem kis : PySem.W.kitOne K (.type "int") (.type "str") = some false := kit_ty (by decide +kernel)
theorem kss : PySem.W.kitOne K (.type "str") (.type "str") = some true := kit_ty (by decide +kernel)
theorem kii : PySem.W.kitOne K (.type "int") (.type "int") = some true := kit_ty (by decide +kernel)
theorem kib : PySem.W.kitOne K (.type "int") (.type "bool") = some false := kit_ty (by decide +kernel)
theorem kbb : PySem.W.kitOne K (.type "bool") (.type "bool") = some true := kit_ty (by decide +kernel)
theorem no_same (T : Txt P w K mg base Ad1 Ad2 Ad4 Ad6 Ad9 Ad10 Ad11) : Cl P w K mg base 0 "_law_same" (fun _ _ _ _ => False) [] := by
  obtain ⟨f, fd, F, hm, b⟩ := T.d__law_same.ex
  exact ⟨f, fd, _, [], ⟨fun vs H Q E h => h.elim, fun A outer s H args us vs Q E hr h1 h2 h3 h => h.elim⟩, hm, F.kp, b, .nil⟩
theorem scLSame : FnScope ["told", "due", "k"] ["told", "due"] (defScope sLSame) := ⟨rfl, rfl, rfl, by decide +kernel, rfl, by decide +kernel, by decide +kernel⟩
theorem step_same (T : Txt P w K mg base Ad1 Ad2 Ad4 Ad6 Ad9 Ad10 Ad11) {j d : Nat} {sp' : Sp} (c_LSame : Cl P w K mg base j "_law_same" sp' []) (hs : ∀ {e : Nat} {H : Hp} {v u : V} {Q : VK} {E : XK}, e + 1 = d → Da H e v u → Q (.bl true) H → sp' [v, u] H Q E) : Cl P w K mg base (j + 1) "_law_same" (spSame d) [] := by
  refine cl_of T.d__law_same scLSame (fun vs H Q E h => ?_) fun f cdv A outer s H vs Q E hr h => ?_
  · unfold spSame at h
    obtain ⟨v, u, rfl, _⟩ := h
    rfl
  · unfold spSame at h
    obtain ⟨v, u, rfl, hd, k⟩ := h
    refine ⟨_, (pss_cons (ps_if (pt_val (pe_callB call_isi (by rfl) T.b_isinstance (by decide +kernel) (pa_cons (pv 1) (pa_cons (pe_bltn (v := .ty "tuple") (u := .type "tuple") (by rfl) T.b_tuple (by decide +kernel) rfl) pa_nil))))
    (pss_cons (ps_if (PW.pt (pw_or (pt_not (pt_val (pe_callB call_isi (by rfl) T.b_isinstance (by decide +kernel) (pa_cons (pv 0) (pa_cons (pe_bltn (v := .ty "tuple") (u := .type "tuple") (by rfl) T.b_tuple (by decide +kernel) rfl) pa_nil))))) (pw_or1 (pt_cmpR op_ne (pe_callB call_len_seq (by rfl) T.b_len (by decide +kernel) (pa_cons (pv 0) pa_nil)) (pe_callB call_len_seq (by rfl) T.b_len (by decide +kernel) (pa_cons (pv 1) pa_nil)) (nomark _)))))
      (pss_one (ps_ret pe_bl))
      pss_nil)
    (pss_cons (ps_for (passes_of rfl) rfl (pi_range1 (by rfl) T.b_range (pa_cons (pe_callB call_len_seq (by rfl) T.b_len (by decide +kernel) (pa_cons (pv 1) pa_nil)) pa_nil)) (pg_name (i := 2) scLSame.nd rfl (by first | exact Or.inl rfl | exact Or.inr rfl))
      (pss_one (ps_if (pt_not (pt_val (pe_c c_LSame hr (Nat.le_refl _) rfl (pa_cons (pe_ix ix_tup (pv 0) (pv 2) (fun _ _ => rfl)) (pa_cons (pe_ix ix_tup (pv 1) (pv 2) (fun _ _ => rfl)) pa_nil)))))
        (pss_one (ps_ret pe_bl))
        pss_nil)))
    (pss_one (ps_ret pe_bl))))
    pss_nil)
  (pss_cons (ps_if (pt_val (pe_callB call_isi (by rfl) T.b_isinstance (by decide +kernel) (pa_cons (pv 1) (pa_cons (pe_bltn (v := .ty "str") (u := .type "str") (by rfl) T.b_str (by decide +kernel) rfl) pa_nil))))
    (pss_one (ps_ret (pe_and (pe_callB call_isi (by rfl) T.b_isinstance (by decide +kernel) (pa_cons (pv 0) (pa_cons (pe_bltn (v := .ty "str") (u := .type "str") (by rfl) T.b_str (by decide +kernel) rfl) pa_nil))) (pe_one (pe_cmpR (op_eqD hr.units) (pv 0) (pv 1) (nomark _))))))
    pss_nil)
  (pss_one (ps_ret (pe_and (pe_callB call_isi (by rfl) T.b_isinstance (by decide +kernel) (pa_cons (pv 0) (pa_cons (pe_bltn (v := .ty "int") (u := .type "int") (by rfl) T.b_int (by decide +kernel) rfl) pa_nil))) (pe_and (pe_not (pe_callB call_isi (by rfl) T.b_isinstance (by decide +kernel) (pa_cons (pv 0) (pa_cons (pe_bltn (v := .ty "bool") (u := .type "bool") (by rfl) T.b_bool (by decide +kernel) rfl) pa_nil)))) (pe_one (pe_cmpR (op_eqD hr.units) (pv 0) (pv 1) (nomark _))))))))), ?_⟩
    cases hd with
    | int _ i =>
      refine ⟨_, rfl, _, _, _, _, _, rfl, .ty "tuple", .base (.int _), kit_t, _, rfl, iteF ?_⟩
      refine ⟨_, rfl, _, _, _, _, _, rfl, .ty "str", .base (.int _), kis, _, rfl, iteF ?_⟩
      refine ⟨_, rfl, _, _, _, _, _, rfl, .ty "int", .base (.int _), kii, _, rfl, iteT ?_⟩
      refine ⟨_, rfl, _, _, _, _, _, rfl, .ty "bool", .base (.int _), kib, _, rfl, _, rfl, iteT ?_⟩
      refine ⟨_, rfl, _, rfl, .int i, .int i, .int _, .int _, rfl, rfl, ?_⟩
      rw [show PyData.eqv (.int i) (.int i) = true by show (i == i) = true; simp]
      exact k
    | str _ s0 hsh =>
      refine ⟨_, rfl, _, _, _, _, _, rfl, .ty "tuple", .base (.str _), kst, _, rfl, iteF ?_⟩
      refine ⟨_, rfl, _, _, _, _, _, rfl, .ty "str", .base (.str _), kss, _, rfl, iteT ?_⟩
      refine ⟨_, rfl, _, _, _, _, _, rfl, .ty "str", .base (.str _), kss, _, rfl, iteT ?_⟩
      refine ⟨_, rfl, _, rfl, .str s0, .str s0, .str _, .str _, hsh, hsh, ?_⟩
      rw [show PyData.eqv (.str s0) (.str s0) = true by show (s0 == s0) = true; simp]
      exact k
    | tup e a b xs ys ha hb hl hz hx =>
      refine ⟨_, rfl, _, _, _, _, _, rfl, .ty "tuple", .base (.tup hb), ktt, _, rfl, iteT ?_⟩
      refine ⟨_, rfl, _, _, _, _, _, rfl, .ty "tuple", .base (.tup ha), ktt, _, rfl, iteF ?_⟩
      refine ⟨_, rfl, a, _, rfl, .inr (SqT.of ha), _, rfl, b, _, rfl, .inr (SqT.of hb), rfl, _, rfl, ifIN (fun c => absurd (by rw [hl]) c) fun _ => ?_⟩
      refine ⟨_, rfl, b, _, rfl, .inr (SqT.of hb), _, rfl, by omega, by omega, ?_⟩
      rw [Int.toNat_natCast]
      refine for_range (lo := 0) (n := ys.length) (fun i σ H' => ∃ v2 : Option V, σ = [some (.ref a), some (.ref b), v2] ∧ H' = H)
        ⟨none, rfl, rfl⟩ (fun i σ H' hi h => ?_) fun σ H' h => ?_
      · obtain ⟨v2, rfl, rfl⟩ := h
        obtain ⟨y, hy⟩ : ∃ y, ys[i]? = some y := ⟨_, List.getElem?_eq_getElem hi⟩
        obtain ⟨x, hxx⟩ : ∃ x, xs[i]? = some x := ⟨_, List.getElem?_eq_getElem (by rw [hl]; exact hi)⟩
        rw [Int.zero_add]
        refine ⟨_, rfl, _, rfl, a, _, _, _, rfl, rfl, SqT.of ha, atI_nat hxx, _, rfl, _, rfl, b, _, _, _, rfl, rfl, SqT.of hb, atI_nat hy, ?_⟩
        exact hs rfl (hx i x y hxx hy) ⟨_, rfl, ifF rfl ⟨_, rfl, rfl⟩⟩
      · obtain ⟨v2, rfl, rfl⟩ := h
        exact k
theorem ok_LSame (T : Txt P w K mg base Ad1 Ad2 Ad4 Ad6 Ad9 Ad10 Ad11) : ∀ d, Cl P w K mg base (d + 1) "_law_same" (spSame d) []
  | 0 => step_same T (no_same T) fun h => by omega
  | d + 1 => step_same T (ok_LSame T d) fun h hd k => by
    obtain rfl := Nat.succ.inj h
    exact same_of hd k
end
end K13
set_option maxRecDepth 100000
set_option maxHeartbeats 4000000
namespace K13
open PySem L2 SI
local macro_rules | `(tactic| walk_at "lk") => `(tactic| first | exact lk_hit | exact lk_nil | (refine lk_next (by decide +kernel) ?_; walk_at "lk"))
def okE (i : Nat) (p q : Int) : Prop := 0 ≤ p ∧ p ≤ i ∧ 2 ≤ q ∧ q ≤ 31
def okTo (ps qs : List Int) (n : Nat) : Prop := ∀ (i : Nat) p q, i < n → ps[i]? = some p → qs[i]? = some q → okE i p q
/-- the first wrong edge: its parent, or its price -/
def badPar (ps qs : List Int) (i : Nat) : Prop := okTo ps qs i ∧ ∃ p, ps[i]? = some p ∧ (p < 0 ∨ (i : Int) < p)
def badPri (ps qs : List Int) (i : Nat) : Prop := okTo ps qs i ∧ (∃ p, ps[i]? = some p ∧ 0 ≤ p ∧ p ≤ i) ∧ ∃ q, qs[i]? = some q ∧ (q < 2 ∨ 31 < q)
def spEdges (K : PySem.W.Frag) (CP CQ : Addr) : Sp := fun vs H Q E => ∃ (a b : Addr) (ps qs : List Int), vs = [.ref a, .ref b] ∧ SqT K H a (ps.map V.int) ∧ SqT K H b (qs.map V.int) ∧ qs.length = ps.length ∧
  (okTo ps qs ps.length → ∀ H', Same H H' → Q .non H') ∧
  (∀ i, badPar ps qs i → ∀ d H', Same H H' → H' d = none → E (.ref CP) (some d) (upd H' d (.xd [("at", .int (i : Nat))]))) ∧
  (∀ i, badPri ps qs i → ∀ d H', Same H H' → H' d = none → E (.ref CQ) (some d) (upd H' d (.xd [("at", .int (i : Nat))])))
section
variable {P : Program} {w : World} {K : PySem.W.Frag} {mg : Str → Option Value} {base : Heap} {Ad1 Ad2 Ad4 Ad6 Ad9 Ad10 Ad11 : Addr}
theorem scCheckEdges : FnScope ["parents", "prices", "at", "parent"] ["parents", "prices"] (defScope sCheckEdges) := ⟨rfl, rfl, rfl, by decide +kernel, rfl, by decide +kernel, by decide +kernel⟩
theorem ok_CheckEdges (T : Txt P w K mg base Ad1 Ad2 Ad4 Ad6 Ad9 Ad10 Ad11) : Cl P w K mg base 3 "check_edges" (spEdges K Ad9 Ad10) [] := by
  refine cl_of T.d_check_edges scCheckEdges (fun vs H Q E h => ?_) fun f cdv A outer s H vs Q E hr h => ?_
  · obtain ⟨a, b, ps, qs, rfl, _⟩ := h
    rfl
  · obtain ⟨a, b, ps, qs, rfl, ha, hb, hl, k1, k2, k3⟩ := h
    refine ⟨_, (pss_one (ps_for (passes_of rfl) rfl (pi_enumT (by rfl) T.b_enumerate (pa_cons (pv 0) pa_nil)) (pg_tup rfl (pgs_cons (pg_name (i := 2) scCheckEdges.nd rfl (by first | exact Or.inl rfl | exact Or.inr rfl)) (pgs_cons (pg_name (i := 3) scCheckEdges.nd rfl (by first | exact Or.inl rfl | exact Or.inr rfl)) pgs_nil)))
    (pss_cons (ps_if (PW.pt (pw_or (pt_cmpR op_lt (pv 3) pe_int (nomark _)) (pw_or1 (pt_cmpR op_gt (pv 3) (pv 2) (nomark _)))))
      (pss_one (ps_raise rfl (takes_of rfl rfl rfl rfl) (pmk_rs T.rBadParent hr (by decide) rfl (pa_cons (pv 2) pa_nil))))
      pss_nil)
    (pss_one (ps_if (PW.pt (pw_or (pt_cmpR op_lt (pe_ix ix_tup (pv 1) (pv 2) (fun _ _ => rfl)) (pe_const rfl T.c_LEAST_PRICE) (nomark _)) (pw_or1 (pt_cmpR op_gt (pe_ix ix_tup (pv 1) (pv 2) (fun _ _ => rfl)) (pe_const rfl T.c_MOST_PRICE) (nomark _)))))
      (pss_one (ps_raise rfl (takes_of rfl rfl rfl rfl) (pmk_rs T.rBadPrice hr (by decide) rfl (pa_cons (pv 2) pa_nil))))
      pss_nil))))), ?_⟩
    refine ⟨_, rfl, a, _, rfl, ha, for_enumT (K := K) (a := a) (xs := ps.map V.int) (fun i σ H' => ∃ v1 v2 : Option V, σ = [some (.ref a), some (.ref b), v1, v2] ∧ Same H H' ∧ okTo ps qs i)
      ⟨none, none, rfl, Same.refl H, fun j p q hj => absurd hj (Nat.not_lt_zero _)⟩ (fun i σ H' h => by obtain ⟨_, _, _, sh, _⟩ := h; exact smT sh ha) (fun i x Tq σ H' hx h hT => ?_) fun σ H' h => ?_⟩
    · obtain ⟨v1, v2, rfl, sh, hok⟩ := h
      obtain ⟨p, hp, rfl⟩ := ints_at hx
      have hi : i < ps.length := (List.getElem?_eq_some_iff.mp hp).1
      obtain ⟨q, hq⟩ : ∃ q, qs[i]? = some q := ⟨_, List.getElem?_eq_getElem (by omega)⟩
      refine ⟨Tq, _, rfl, .inl (.inl upd_same), rfl, ?_⟩
      have st : Same H (upd H' Tq (.tup [.int (i : Nat), .int p])) := smN sh hT
      have hb2 := smT st hb
      refine ⟨_, _, rfl, _, _, rfl, rfl, _, rfl, _, _, rfl, rfl, _, rfl, ?_⟩
      refine ifD (fun c => ?_) fun c => ?_
      · exact ⟨_, rfl, _, ⟨_, rfl, rfl⟩, fun d hd => k2 i ⟨hok, p, hp, .inl c⟩ d _ st hd⟩
      refine ⟨_, rfl, _, rfl, _, _, rfl, rfl, _, rfl, ?_⟩
      refine ifD (fun c' => ?_) fun c' => ?_
      · exact ⟨_, rfl, _, ⟨_, rfl, rfl⟩, fun d hd => k2 i ⟨hok, p, hp, .inr c'⟩ d _ st hd⟩
      have okp : ∃ p, ps[i]? = some p ∧ 0 ≤ p ∧ p ≤ i := ⟨p, hp, by omega, by omega⟩
      refine ⟨_, rfl, _, rfl, b, _, _, _, rfl, rfl, hb2, atI_nat (at_ints hq), _, _, rfl, rfl, _, rfl, ?_⟩
      refine ifD (fun c2 => ?_) fun c2 => ?_
      · exact ⟨_, rfl, _, ⟨_, rfl, rfl⟩, fun d hd => k3 i ⟨hok, okp, q, hq, .inl c2⟩ d _ st hd⟩
      refine ⟨_, rfl, _, rfl, b, _, _, _, rfl, rfl, hb2, atI_nat (at_ints hq), _, _, rfl, rfl, _, rfl, ?_⟩
      refine ifD (fun c3 => ?_) fun c3 => ?_
      · exact ⟨_, rfl, _, ⟨_, rfl, rfl⟩, fun d hd => k3 i ⟨hok, okp, q, hq, .inr c3⟩ d _ st hd⟩
      refine ⟨_, _, rfl, st, fun j p' q' hj hp' hq' => ?_⟩
      by_cases e : j < i
      · exact hok j p' q' e hp' hq'
      · obtain rfl : j = i := by omega
        rw [hp] at hp'
        rw [hq] at hq'
        cases hp'
        cases hq'
        exact ⟨by omega, by omega, by omega, by omega⟩
    · obtain ⟨v1, v2, rfl, sh, hok⟩ := h
      rw [List.length_map] at hok
      exact k1 hok H' sh
/-- a tree at its address -/
def treeF (n : Int) (a b : Addr) : List (Str × V) := [("nodes", .int n), ("parents", .ref a), ("prices", .ref b)]
def TreeAt (C : Addr) (H : Hp) (t : Addr) (ps qs : List Int) : Prop := ∃ dx a b, H t = some (.ins C dx (treeF (ps.length + 1) a b)) ∧ H a = some (.tup (ps.map V.int)) ∧ H b = some (.tup (qs.map V.int))
def okT (ps qs : List Int) : Prop := ps.length ≤ 59 ∧ qs.length = ps.length ∧ okTo ps qs ps.length
/-- what Tree(parents, prices) raises -/
inductive BadT (Ad2 Ad6 Ad9 Ad10 : Addr) (ps qs : List Int) : Addr → List (Str × V) → Prop where
  | many (h : 59 < ps.length) : BadT Ad2 Ad6 Ad9 Ad10 ps qs Ad2 [("many", .int (ps.length + 1)), ("what", .str "nodes")]
  | width (h : ps.length ≤ 59) (h2 : qs.length ≠ ps.length) : BadT Ad2 Ad6 Ad9 Ad10 ps qs Ad6 [("need", .int (ps.length : Nat)), ("have", .int (qs.length : Nat))]
  | par (h : ps.length ≤ 59) (h2 : qs.length = ps.length) (i : Nat) (h3 : badPar ps qs i) : BadT Ad2 Ad6 Ad9 Ad10 ps qs Ad9 [("at", .int (i : Nat))]
  | pri (h : ps.length ≤ 59) (h2 : qs.length = ps.length) (i : Nat) (h3 : badPri ps qs i) : BadT Ad2 Ad6 Ad9 Ad10 ps qs Ad10 [("at", .int (i : Nat))]
abbrev RowR (K : PySem.W.Frag) (H : Hp) (a : Addr) (ps : List Int) : Prop := SqL K H a (ps.map V.int) ∨ H a = some (.tup (ps.map V.int))
def spTree (K : PySem.W.Frag) (Ad2 Ad6 Ad9 Ad10 C : Addr) : Sp := fun vs H Q E => ∃ (p dx a b : Addr) (ps qs : List Int), vs = [.ref p, .ref a, .ref b] ∧ H p = some (.ins C dx []) ∧ RowR K H a ps ∧ RowR K H b qs ∧
  (okT ps qs → ∀ H', (∀ b o, b ≠ p → H b = some o → H' b = some o) → TreeAt C H' p ps qs → Q .non H') ∧
  (∀ x fs, BadT Ad2 Ad6 Ad9 Ad10 ps qs x fs → ∀ d H', Same H H' → H' d = none → E (.ref x) (some d) (upd H' d (.xd fs)))
/-- tuple(row), whatever the row is -/
@[irreducible] def rTupR (K : PySem.W.Frag) : List V → Hp → VK → Prop := fun xs H Q => ∃ (p : Addr) (ys : List V), xs = [V.ref p] ∧ ((SqL K H p ys ∧ ∀ (l : Addr), H l = none → Q (V.ref l) (upd H l (HO.tup ys))) ∨ (SqT K H p ys ∧ Q (V.ref p) H))
theorem call_tupR {X : Cx} : CallR X (.type "tuple") (rTupR X.K) := by
  intro pins s σ H xs us Q I r h
  unfold rTupR at h
  exact call_tuple_of pins s σ H xs us Q I r h
theorem tup_of {K : PySem.W.Frag} {H : Hp} {a : Addr} {ps : List Int} {Q : VK} (h : RowR K H a ps) (k : ∀ q H', Same H H' → H' q = some (.tup (ps.map V.int)) → Q (.ref q) H') : rTupR K [V.ref a] H Q := by
  unfold rTupR
  rcases h with h | h
  · exact ⟨a, _, rfl, .inl ⟨h, fun l hl => k l _ (sm0 hl) upd_same⟩⟩
  · exact ⟨a, _, rfl, .inr ⟨SqT.of h, k a H (Same.refl H) h⟩⟩
theorem RowR.same {K : PySem.W.Frag} {H H' : Hp} {a : Addr} {ps : List Int} (s : Same H H') : RowR K H a ps → RowR K H' a ps
  | .inl h => .inl (s.seq h)
  | .inr h => .inr (s _ _ h)
theorem scTreeInit : FnScope ["self", "parents", "prices", "kept_parents", "kept_prices", "nodes"] ["self", "parents", "prices"] (defScope sTreeInit) := ⟨rfl, rfl, rfl, by decide +kernel, rfl, by decide +kernel, by decide +kernel⟩
theorem ok_Tree (T : Txt P w K mg base Ad1 Ad2 Ad4 Ad6 Ad9 Ad10 Ad11) : Mkd P w K mg base 4 "Tree" Ad11 "Tree.__init__" sTreeInit ["self", "parents", "prices"] (spTree K Ad2 Ad6 Ad9 Ad10 Ad11) := by
  have c_CheckEdges := ok_CheckEdges T
  refine mkd_of T.m_Tree scTreeInit (fun vs H Q E h => ?_) fun f cdv A outer s H vs Q E hr h => ?_
  · obtain ⟨p, dx, a, b, ps, qs, rfl, _⟩ := h
    rfl
  · obtain ⟨p, dx, a, b, ps, qs, rfl, hp, ha, hb, k1, k2⟩ := h
    refine ⟨_, (pss_cons (ps_set (i := 3) scTreeInit.nd rfl (by first | exact Or.inl rfl | exact Or.inr rfl) (pe_callTy call_tupR (by rfl) T.b_tuple (by decide +kernel) (pa_cons (pv 1) pa_nil)))
  (pss_cons (ps_set (i := 4) scTreeInit.nd rfl (by first | exact Or.inl rfl | exact Or.inr rfl) (pe_callTy call_tupR (by rfl) T.b_tuple (by decide +kernel) (pa_cons (pv 2) pa_nil)))
  (pss_cons (ps_set (i := 5) scTreeInit.nd rfl (by first | exact Or.inl rfl | exact Or.inr rfl) (pe_op op_add (pe_callB call_len_seq (by rfl) T.b_len (by decide +kernel) (pa_cons (pv 3) pa_nil)) pe_int))
  (pss_cons (ps_if (pt_cmpR op_gt (pv 5) (pe_const rfl T.c_MOST_TREE_NODES) (nomark _))
    (pss_one (ps_raise rfl (takes_of rfl rfl rfl rfl) (pmk_rs T.rBadCount hr (by decide) rfl (pa_cons pe_str (pa_cons (pv 5) pa_nil)))))
    pss_nil)
  (pss_cons (ps_if (pt_cmpR op_ne (pe_callB call_len_seq (by rfl) T.b_len (by decide +kernel) (pa_cons (pv 4) pa_nil)) (pe_callB call_len_seq (by rfl) T.b_len (by decide +kernel) (pa_cons (pv 3) pa_nil)) (nomark _))
    (pss_one (ps_raise rfl (takes_of rfl rfl rfl rfl) (pmk_rs T.rWrongWidth hr (by decide) rfl (pa_cons (pe_callB call_len_seq (by rfl) T.b_len (by decide +kernel) (pa_cons (pv 4) pa_nil)) (pa_cons (pe_callB call_len_seq (by rfl) T.b_len (by decide +kernel) (pa_cons (pv 3) pa_nil)) pa_nil)))))
    pss_nil)
  (pss_cons (ps_expr (pe_cX (takes_of rfl rfl rfl rfl) c_CheckEdges hr (by decide) rfl (pa_cons (pv 3) (pa_cons (pv 4) pa_nil))))
  (pss_cons (ps_fld (pv 0) (pv 5) rfl)
  (pss_cons (ps_fld (pv 0) (pv 3) rfl)
  (pss_one (ps_fld (pv 0) (pv 4) rfl)))))))))), ?_⟩
    refine ⟨_, rfl, tup_of ha fun q1 H1 s1 hq1 => ?_⟩
    refine ⟨_, rfl, tup_of (hb.same s1) fun q2 H2 s2 hq2 => ?_⟩
    have s02 := s1.trans s2
    have hq1' := s2 _ _ hq1
    refine ⟨_, rfl, q1, _, rfl, .inr (SqT.of hq1'), _, _, rfl, rfl, ?_⟩
    refine ⟨_, rfl, _, _, rfl, rfl, _, rfl, ?_⟩
    have elp : (((ps.map V.int).length : Nat) : Int) = (ps.length : Nat) := by rw [List.length_map]
    refine ifD (fun c => ?_) fun c => ?_
    · refine ⟨_, rfl, _, ⟨_, _, rfl, ⟨_, rfl, by decide +kernel⟩, rfl⟩, fun d hd => ?_⟩
      have c1 : (60 : Int) < ((ps.map V.int).length : Nat) + 1 := c
      rw [elp] at c1
      have := k2 _ _ (.many (by omega)) d H2 s02 hd
      rw [elp]
      exact this
    have c1 : ¬ (60 : Int) < ((ps.map V.int).length : Nat) + 1 := c
    rw [elp] at c1
    refine ⟨_, rfl, q2, _, rfl, .inr (SqT.of hq2), _, rfl, q1, _, rfl, .inr (SqT.of hq1'), rfl, _, rfl, ?_⟩
    refine ifIN (fun c2 => ?_) fun c2 => ?_
    · refine ⟨_, rfl, q2, _, rfl, .inr (SqT.of hq2), _, rfl, q1, _, rfl, .inr (SqT.of hq1'), _, ⟨_, _, rfl, trivial, rfl⟩, fun d hd => ?_⟩
      rw [List.length_map, List.length_map] at c2
      have := k2 _ _ (.width (by omega) (by omega)) d H2 s02 hd
      rw [List.length_map, List.length_map]
      exact this
    rw [List.length_map, List.length_map] at c2
    have c3 : qs.length = ps.length := by omega
    refine ⟨_, rfl, _, rfl, q1, q2, ps, qs, rfl, SqT.of hq1', SqT.of hq2, c3, fun hok H3 s3 => ?_, fun i hi d H3 s3 hd => k2 _ _ (.par (by omega) c3 i hi) d H3 (s02.trans s3) hd, fun i hi d H3 s3 hd => k2 _ _ (.pri (by omega) c3 i hi) d H3 (s02.trans s3) hd⟩
    have s03 := s02.trans s3
    have hp3 := s03 _ _ hp
    have n1 : q1 ≠ p := ne_of (s3 _ _ hq1') hp3 (by intro z; cases z)
    have n2 : q2 ≠ p := ne_of (s3 _ _ hq2) hp3 (by intro z; cases z)
    refine ⟨_, rfl, _, rfl, p, Ad11, dx, _, rfl, hp3, T.lTree, T.nTree_nodes, (by decide), ?_⟩
    refine ⟨_, rfl, _, rfl, p, Ad11, dx, _, rfl, upd_same, T.lTree, T.nTree_parents, (by show 1 < 1000; decide), ?_⟩
    refine ⟨_, rfl, _, rfl, p, Ad11, dx, _, rfl, upd_same, T.lTree, T.nTree_prices, (by show 2 < 1000; decide), ?_⟩
    rw [upd_upd, upd_upd]
    refine k1 ⟨by omega, c3, hok⟩ _ (fun b o nb e => ?_) ⟨dx, q1, q2, ?_, ?_, ?_⟩
    · rw [upd_ne nb]
      exact s03 _ _ e
    · rw [upd_same, List.length_map, putF_new (f := "nodes") (by walk_at "lk"), putF_new (f := "parents") (by walk_at "lk"), putF_new (f := "prices") (by walk_at "lk")]
      rfl
    · rw [upd_ne n1]; exact s3 _ _ hq1'
    · rw [upd_ne n2]; exact s3 _ _ hq2
end
end K13
set_option maxRecDepth 100000
set_option maxHeartbeats 4000000
namespace K13
open PySem L2 SI
local macro_rules | `(tactic| walk_at "lk") => `(tactic| first | exact lk_hit | exact lk_nil | (refine lk_next (by decide +kernel) ?_; walk_at "lk"))
theorem TreeAt.same {C t : Addr} {H H' : Hp} {ps qs : List Int} (s : Same H H') (h : TreeAt C H t ps qs) : TreeAt C H' t ps qs := by
  obtain ⟨dx, a, b, h1, h2, h3⟩ := h
  exact ⟨dx, a, b, s _ _ h1, s _ _ h2, s _ _ h3⟩
/-- heights by the edges from m on -/
structure IsH (ps qs : List Int) (m : Nat) (f : List Int) : Prop where
  len : f.length = ps.length + 1
  pos : ∀ (v : Nat) x, f[v]? = some x → 1 ≤ x ∧ x ≤ 31 ^ (ps.length + 1 - v)
  up : ∀ (i : Nat) p q x y, m ≤ i → ps[i]? = some p → qs[i]? = some q → f[i + 1]? = some x → f[p.toNat]? = some y → q * x ≤ y
  att : ∀ (v : Nat) y, f[v]? = some y → y = 1 ∨ ∃ (i : Nat) (q x : Int), m ≤ i ∧ ps[i]? = some (v : Int) ∧ qs[i]? = some q ∧ f[i + 1]? = some x ∧ y = q * x
theorem pow31 : ∀ k : Nat, (1 : Int) ≤ 31 ^ k
  | 0 => by decide
  | k + 1 => by rw [Int.pow_succ]; have := pow31 k; omega
theorem pow31_le {a b : Nat} (h : a ≤ b) : (31 : Int) ^ a ≤ 31 ^ b := by
  obtain ⟨k, rfl⟩ : ∃ k, b = a + k := ⟨b - a, by omega⟩
  rw [Int.pow_add]
  have h1 := pow31 a
  have h2 := pow31 k
  have := Int.mul_le_mul_of_nonneg_left h2 (show 0 ≤ (31 : Int) ^ a by omega)
  omega
theorem isH_ones (ps qs : List Int) : IsH ps qs ps.length (List.replicate (ps.length + 1) 1) where
  len := by simp
  pos := fun v x h => by
    rw [List.getElem?_replicate] at h
    split at h
    · cases h
      exact ⟨by decide, pow31 _⟩
    · cases h
  up := fun i p q x y hm hp => by
    have := (List.getElem?_eq_some_iff.mp hp).1
    omega
  att := fun v y h => by
    rw [List.getElem?_replicate] at h
    split at h
    · cases h
      exact .inl rfl
    · cases h
theorem isH_step {ps qs : List Int} {m p : Nat} {q x y : Int} {f : List Int} (h : IsH ps qs (m + 1) f) (hp : ps[m]? = some (p : Int)) (hpm : p ≤ m) (hq : qs[m]? = some q) (hq2 : 2 ≤ q) (hq31 : q ≤ 31) (hx : f[m + 1]? = some x) (hy : f[p]? = some y) (ok : ∀ (i : Nat) p, ps[i]? = some p → 0 ≤ p ∧ p ≤ i) :
    IsH ps qs m (f.set p (if q * x > y then q * x else y)) := by
  have hpl : p < f.length := (List.getElem?_eq_some_iff.mp hy).1
  have hmax1 : q * x ≤ (if q * x > y then q * x else y) := by split <;> omega
  have hmax2 : y ≤ (if q * x > y then q * x else y) := by split <;> omega
  have same : ∀ v, v ≠ p → (f.set p (if q * x > y then q * x else y))[v]? = f[v]? := fun v hv => List.getElem?_set_ne (Ne.symm hv)
  have here : (f.set p (if q * x > y then q * x else y))[p]? = some (if q * x > y then q * x else y) := List.getElem?_set_self hpl
  have px := h.pos _ _ hx
  have py := h.pos _ _ hy
  have hm1 : m + 1 < f.length := (List.getElem?_eq_some_iff.mp hx).1
  have hlen := h.len
  have hqx : q * x ≤ 31 ^ (ps.length + 1 - p) := by
    have e : 31 * x ≤ 31 ^ (ps.length + 1 - p) := by
      have e1 : (31 : Int) ^ (ps.length + 1 - (m + 1) + 1) ≤ 31 ^ (ps.length + 1 - p) := pow31_le (by omega)
      rw [Int.pow_succ] at e1
      omega
    have e2 : q * x ≤ 31 * x := Int.mul_le_mul_of_nonneg_right hq31 (by omega)
    omega
  refine ⟨by rw [List.length_set]; exact hlen, fun v z hv => ?_, fun i p' q' x' y' hi hp' hq' hx' hy' => ?_, fun v z hv => ?_⟩
  · by_cases e : v = p
    · subst e
      rw [here] at hv
      cases hv
      refine ⟨by omega, ?_⟩
      split <;> omega
    · rw [same v e] at hv
      exact h.pos v z hv
  · have hip : i + 1 ≠ p := by omega
    rw [same _ hip] at hx'
    by_cases e : i = m
    · subst e
      rw [hp] at hp'
      rw [hq] at hq'
      rw [hx] at hx'
      cases hp'
      cases hq'
      cases hx'
      rw [Int.toNat_natCast, here] at hy'
      cases hy'
      exact hmax1
    · by_cases e2 : p'.toNat = p
      · rw [e2, here] at hy'
        cases hy'
        have := h.up i p' q' x' y (by omega) hp' hq' hx' (by rw [e2]; exact hy)
        omega
      · rw [same _ e2] at hy'
        exact h.up i p' q' x' y' (by omega) hp' hq' hx' hy'
  · by_cases e : v = p
    · subst e
      rw [here] at hv
      cases hv
      by_cases c : q * x > y
      · rw [if_pos c]
        exact .inr ⟨m, q, x, Nat.le_refl _, hp, hq, by rw [List.getElem?_set_ne (by omega)]; exact hx, rfl⟩
      · rw [if_neg c]
        rcases h.att _ y hy with a | ⟨i, q', x', h1, h2, h3, h4, h5⟩
        · exact .inl a
        · exact .inr ⟨i, q', x', by omega, h2, h3, by rw [List.getElem?_set_ne (by omega)]; exact h4, h5⟩
    · rw [same v e] at hv
      rcases h.att v z hv with a | ⟨i, q', x', h1, h2, h3, h4, h5⟩
      · exact .inl a
      · exact .inr ⟨i, q', x', by omega, h2, h3, by rw [same _ (by omega)]; exact h4, h5⟩
/-- heights are one -/
theorem isH_uniq {ps qs : List Int} {f g : List Int} (hl : qs.length = ps.length) (ok : okTo ps qs ps.length) (hf : IsH ps qs 0 f) (hg : IsH ps qs 0 g) : f = g := by
  have key : ∀ k v, ps.length + 1 - v = k → f[v]? = g[v]? := by
    intro k
    induction k using Nat.strongRecOn with
    | _ k ih =>
      intro v hv
      rcases Nat.lt_or_ge v (ps.length + 1) with hlt | hge
      · obtain ⟨y, hy⟩ : ∃ y, f[v]? = some y := ⟨_, List.getElem?_eq_getElem (by rw [hf.len]; exact hlt)⟩
        obtain ⟨z, hz⟩ : ∃ z, g[v]? = some z := ⟨_, List.getElem?_eq_getElem (by rw [hg.len]; exact hlt)⟩
        have one : ∀ {f g : List Int} {y z : Int}, IsH ps qs 0 f → IsH ps qs 0 g → (∀ u, v < u → f[u]? = g[u]?) → f[v]? = some y → g[v]? = some z → y ≤ z := by
          intro f g y z hf hg hs hy hz
          rcases hf.att v y hy with a | ⟨i, q, x, _, h2, h3, h4, h5⟩
          · have := (hg.pos v z hz).1
            omega
          · have hi : i < ps.length := (List.getElem?_eq_some_iff.mp h2).1
            have hvi : v < i + 1 := by
              have := (ok i _ q hi h2 h3).2.1
              omega
            rw [hs _ hvi] at h4
            have := hg.up i _ q x z (Nat.zero_le _) h2 h3 h4 (by rw [Int.toNat_natCast]; exact hz)
            omega
        have hs : ∀ u, v < u → f[u]? = g[u]? := fun u hu => by
          rcases Nat.lt_or_ge u (ps.length + 1) with a | a
          · exact ih (ps.length + 1 - u) (by omega) u rfl
          · rw [List.getElem?_eq_none (by rw [hf.len]; exact a), List.getElem?_eq_none (by rw [hg.len]; exact a)]
        have a := one hf hg hs hy hz
        have b := one hg hf (fun u hu => (hs u hu).symm) hz hy
        rw [hy, hz, show y = z by omega]
      · rw [List.getElem?_eq_none (by rw [hf.len]; exact hge), List.getElem?_eq_none (by rw [hg.len]; exact hge)]
  exact List.ext_getElem? fun v => key _ v rfl
def spHeights (K : PySem.W.Frag) (C : Addr) : Sp := fun vs H Q _ => ∃ (t : Addr) (ps qs : List Int), vs = [.ref t] ∧ TreeAt C H t ps qs ∧ okT ps qs ∧ ∀ q H' f, Same H H' → IsH ps qs 0 f → H' q = some (.tup (List.map V.int f)) → Q (.ref q) H'
section
variable {P : Program} {w : World} {K : PySem.W.Frag} {mg : Str → Option Value} {base : Heap} {Ad1 Ad2 Ad4 Ad6 Ad9 Ad10 Ad11 : Addr}
theorem rep_one {n : Nat} {v : V} : (List.replicate n [v]).flatten = List.replicate n v := by
  induction n with
  | zero => rfl
  | succ k ih => rw [List.replicate_succ, List.flatten_cons, ih]; rfl
theorem scHeights : FnScope ["tree", "found", "node", "parent"] ["tree"] (defScope sHeights) := ⟨rfl, rfl, rfl, by decide +kernel, rfl, by decide +kernel, by decide +kernel⟩
theorem ok_Heights (T : Txt P w K mg base Ad1 Ad2 Ad4 Ad6 Ad9 Ad10 Ad11) : Cd P w K mg base 1 "heights" sHeights ["tree"] (spHeights K Ad11) := by
  refine cd_of T.d_heights scHeights (fun vs H Q E h => ?_) fun f cdv A outer s H vs Q E hr h => ?_
  · obtain ⟨t, ps, qs, rfl, _⟩ := h
    rfl
  · obtain ⟨t, ps, qs, rfl, ht, ⟨hl, hlq, hok⟩, k⟩ := h
    refine ⟨_, (pss_cons (ps_set (i := 1) scHeights.nd rfl (by first | exact Or.inl rfl | exact Or.inr rfl) (pe_op op_rep (pe_lst (pa_cons pe_int pa_nil)) (pe_fld (pv 0) rfl)))
  (pss_cons (ps_for (passes_of rfl) rfl (pi_range3 (by rfl) T.b_range (pa_cons (pe_op op_sub (pe_fld (pv 0) rfl) pe_int) (pa_cons pe_int (pa_cons (pe_un un_neg pe_int) pa_nil)))) (pg_name (i := 2) scHeights.nd rfl (by first | exact Or.inl rfl | exact Or.inr rfl))
    (pss_cons (ps_set (i := 3) scHeights.nd rfl (by first | exact Or.inl rfl | exact Or.inr rfl) (pe_ix ix_tup (pe_fld (pv 0) rfl) (pe_op op_sub (pv 2) pe_int) (fun _ _ => rfl)))
    (pss_one (ps_asg (pe_callB (call_max2 rfl) (by rfl) T.b_max (by decide +kernel) (pa_cons (pe_ix ix_list (pv 1) (pv 3) (fun _ _ => rfl)) (pa_cons (pe_op op_mulW (pe_ix ix_tup (pe_fld (pv 0) rfl) (pe_op op_sub (pv 2) pe_int) (fun _ _ => rfl)) (pe_ix ix_list (pv 1) (pv 2) (fun _ _ => rfl))) pa_nil))) (pg_sub (pv 1) (pv 3) set_list)))))
  (pss_one (ps_ret (pe_callTy call_tupR (by rfl) T.b_tuple (by decide +kernel) (pa_cons (pv 1) pa_nil)))))), ?_⟩
    obtain ⟨dx, a, b, ht, ha, hb⟩ := ht
    have l1 : (treeF (ps.length + 1) a b).lookup ("nodes" : Str) = some (V.int (ps.length + 1)) := by walk_at "lk"
    have l2 : (treeF (ps.length + 1) a b).lookup ("parents" : Str) = some (V.ref a) := by walk_at "lk"
    have l3 : (treeF (ps.length + 1) a b).lookup ("prices" : Str) = some (V.ref b) := by walk_at "lk"
    have en : ((ps.length : Int) + 1).toNat = ps.length + 1 := by omega
    refine ⟨by show 1 ≤ sizeLine; decide, fun z1 h1 => ?_⟩
    have s1 : Same H (upd H z1 (.lst [.int 1])) := sm0 h1
    refine ⟨_, rfl, t, Ad11, dx, _, _, rfl, s1 _ _ ht, T.lTree, T.nTree_nodes, l1, z1, (ps.length : Int) + 1, _, rfl, rfl, upd_same, by omega, by omega, sz_small (by simp; omega), fun F hF => ?_⟩
    rw [en, rep_one]
    have s2 : Same H (upd (upd H z1 (.lst [.int 1])) F (.lst (List.replicate (ps.length + 1) (.int 1)))) := smN s1 hF
    have e0 : List.replicate (ps.length + 1) (V.int 1) = (List.replicate (ps.length + 1) (1 : Int)).map V.int := by rw [List.map_replicate]
    refine ⟨_, rfl, t, Ad11, dx, _, _, rfl, s2 _ _ ht, T.lTree, T.nTree_nodes, l1, _, _, rfl, rfl, _, rfl, (ps.length : Int) + 1 - 1, 0, -1, ((ps.length : Int) + 1 - 1 - 0).toNat, rfl, RgC.neg (by omega) (by omega) (by decide) (by decide), ?_⟩
    rw [show ((ps.length : Int) + 1 - 1 - 0).toNat = ps.length by omega]
    refine for_rangeC (lo := (ps.length : Int) + 1 - 1) (c := -1) (n := ps.length) (fun i σ H' => i ≤ ps.length ∧ ∃ (v2 v3 : Option V) (f : List Int), σ = [some (.ref t), some (.ref F), v2, v3] ∧ Same H H' ∧ H' F = some (.lst (f.map V.int)) ∧ IsH ps qs (ps.length - i) f)
      ⟨Nat.zero_le _, none, none, _, rfl, s2, by rw [upd_same, e0], isH_ones ps qs⟩ (fun i σ H' hi h => ?_) fun σ H' h => ?_
    · obtain ⟨_, v2, v3, f, rfl, sh, hf, hI⟩ := h
      obtain ⟨m, hm⟩ : ∃ m, m + 1 = ps.length - i := ⟨ps.length - i - 1, by omega⟩
      have hml : m < ps.length := by omega
      rw [← hm] at hI
      have ev : (ps.length : Int) + 1 - 1 + (i : Nat) * (-1) = ((m + 1 : Nat) : Int) := by omega
      rw [ev]
      obtain ⟨p, hp⟩ : ∃ p, ps[m]? = some p := ⟨_, List.getElem?_eq_getElem hml⟩
      obtain ⟨q, hq⟩ : ∃ q, qs[m]? = some q := ⟨_, List.getElem?_eq_getElem (by omega)⟩
      have ok := hok m p q hml hp hq
      obtain ⟨pn, rfl⟩ : ∃ pn : Nat, p = (pn : Int) := ⟨p.toNat, by have := ok.1; omega⟩
      have hpm : pn ≤ m := by have := ok.2.1; omega
      obtain ⟨x, hx⟩ : ∃ x, f[m + 1]? = some x := ⟨_, List.getElem?_eq_getElem (by rw [hI.len]; omega)⟩
      obtain ⟨y, hy⟩ : ∃ y, f[pn]? = some y := ⟨_, List.getElem?_eq_getElem (by rw [hI.len]; omega)⟩
      have px := hI.pos _ _ hx
      have hbig : x ≤ 10 ^ 200 := by
        have e1 : (31 : Int) ^ (ps.length + 1 - (m + 1)) ≤ 31 ^ 60 := pow31_le (by omega)
        have e2 : (31 : Int) ^ 60 ≤ 10 ^ 200 := by decide +kernel
        omega
      have htt := sh _ _ ht
      have haa := sh _ _ ha
      have hbb := sh _ _ hb
      refine ⟨_, rfl, t, Ad11, dx, _, _, rfl, htt, T.lTree, T.nTree_parents, l2, _, rfl, _, _, rfl, rfl, a, _, _, _, rfl, rfl, SqT.of haa, at_of (j := m) (by omega) (at_ints hp), ?_⟩
      refine ⟨_, rfl, _, rfl, F, _, _, _, rfl, rfl, SqL.of hf, atI_nat (at_ints hy), _, rfl, t, Ad11, dx, _, _, rfl, htt, T.lTree, T.nTree_prices, l3, _, rfl, _, _, rfl, rfl, b, _, _, _, rfl, rfl, SqT.of hbb, at_of (j := m) (by omega) (at_ints hq), _, rfl, _, rfl, F, _, _, _, rfl, rfl, SqL.of hf, atI_nat (at_ints hx), _, _, rfl, rfl, cmul_small (abs_small (by have := ok.2.2.1; omega) (by have := ok.2.2.2; omega)) (abs_small (by omega) hbig), _, _, rfl, ?_⟩
      refine ⟨_, rfl, _, rfl, F, _, _, pn, rfl, rfl, hf, ixN_of rfl (by rw [List.length_map, hI.len]; omega), ?_⟩
      refine ⟨hi, _, _, f.set pn (if q * x > y then q * x else y), rfl, smM sh (s1.free hF), by rw [upd_same, List.map_set], ?_⟩
      rw [show ps.length - (i + 1) = m by omega]
      exact isH_step hI hp hpm hq ok.2.2.1 ok.2.2.2 hx hy fun i p hp => by
        obtain ⟨q, hq⟩ : ∃ q, qs[i]? = some q := ⟨_, List.getElem?_eq_getElem (by have := (List.getElem?_eq_some_iff.mp hp).1; omega)⟩
        have := hok i p q (List.getElem?_eq_some_iff.mp hp).1 hp hq
        exact ⟨this.1, this.2.1⟩
    · obtain ⟨_, v2, v3, f, rfl, sh, hf, hI⟩ := h
      rw [Nat.sub_self] at hI
      refine ⟨_, rfl, tup_of (.inl (SqL.of hf)) fun q H2 s2 hq => ?_⟩
      exact k q H2 f (sh.trans s2) hI hq
end
end K13
set_option maxRecDepth 100000
set_option maxHeartbeats 4000000
namespace K13
open PySem L2 SI
local macro_rules | `(tactic| walk_at "lk") => `(tactic| first | exact lk_hit | exact lk_nil | (refine lk_next (by decide +kernel) ?_; walk_at "lk"))
/-- the first child of v (among the first m edges) on which the height rests, else none -/
def rests (qs f : List Int) (v m : Nat) : Bool := match qs[m]?, f[m + 1]?, f[v]? with
  | some q, some x, some y => decide (q * x = y)
  | _, _, _ => false
def hit (ps qs f : List Int) (v m : Nat) : Bool := decide (ps[m]? = some (v : Int)) && rests qs f v m
def mainOf (ps qs f : List Int) (v : Nat) : Nat → Option Nat
  | 0 => none
  | m + 1 => match mainOf ps qs f v m with
    | some c => some c
    | none => if hit ps qs f v m = true then some (m + 1) else none
def nV : Option Nat → V
  | none => .non
  | some c => .int (c : Nat)
def mainRow (ps qs f : List Int) (m : Nat) : List V := (List.range (ps.length + 1)).map fun v => nV (mainOf ps qs f v m)
theorem mainRow_at {ps qs f : List Int} {m v : Nat} (h : v < ps.length + 1) : (mainRow ps qs f m)[v]? = some (nV (mainOf ps qs f v m)) := by
  unfold mainRow
  rw [List.getElem?_map, List.getElem?_range h]
  rfl
def spMain (K : PySem.W.Frag) (C : Addr) : Sp := fun vs H Q _ => ∃ (t : Addr) (ps qs : List Int), vs = [.ref t] ∧ TreeAt C H t ps qs ∧ okT ps qs ∧ ∀ q H' f, Same H H' → IsH ps qs 0 f → H' q = some (.tup (mainRow ps qs f ps.length)) → Q (.ref q) H'
theorem main_next {ps qs f : List Int} {m p : Nat} {q x y : Int} (hp : ps[m]? = some (p : Int)) (hq : qs[m]? = some q) (hx : f[m + 1]? = some x) (hy : f[p]? = some y) (hpl : p < ps.length + 1) :
    mainRow ps qs f (m + 1) = if mainOf ps qs f p m = none ∧ q * x = y then (mainRow ps qs f m).set p (.int ((m + 1 : Nat) : Int)) else mainRow ps qs f m := by
  have other : ∀ v, v ≠ p → mainOf ps qs f v (m + 1) = mainOf ps qs f v m := fun v hv => by
    show (match mainOf ps qs f v m with | some c => some c | none => _) = _
    cases e : mainOf ps qs f v m with
    | some c => rfl
    | none =>
      show (if hit ps qs f v m = true then _ else _) = _
      rw [if_neg]
      intro h
      unfold hit at h
      rw [Bool.and_eq_true, decide_eq_true_eq, hp] at h
      have := Option.some.inj h.1
      omega
  have own : mainOf ps qs f p (m + 1) = if mainOf ps qs f p m = none ∧ q * x = y then some (m + 1) else mainOf ps qs f p m := by
    show (match mainOf ps qs f p m with | some c => some c | none => _) = _
    cases e : mainOf ps qs f p m with
    | some c =>
      show some c = _
      exact (if_neg (fun z : some c = none ∧ q * x = y => by cases z.1)).symm
    | none =>
      show (if hit ps qs f p m = true then _ else _) = _
      have eh : hit ps qs f p m = decide (q * x = y) := by
        unfold hit rests
        rw [hq, hx, hy, decide_eq_true hp]
        rfl
      rw [eh]
      by_cases c : q * x = y
      · rw [if_pos (decide_eq_true c), if_pos ⟨rfl, c⟩]
      · rw [if_neg (by simp [c]), if_neg (fun z => c z.2)]
  apply List.ext_getElem?
  intro v
  rcases Nat.lt_or_ge v (ps.length + 1) with h | h
  · rw [mainRow_at h]
    by_cases e : v = p
    · subst e
      rw [own]
      split
      · rw [List.getElem?_set_self (by unfold mainRow; simp; omega)]; rfl
      · rw [mainRow_at h]
    · rw [other v e]
      split
      · rw [List.getElem?_set_ne (Ne.symm e), mainRow_at h]
      · rw [mainRow_at h]
  · have l1 : ∀ m, (mainRow ps qs f m).length = ps.length + 1 := fun m => by unfold mainRow; simp
    rw [List.getElem?_eq_none (by rw [l1]; exact h)]
    split
    · rw [List.getElem?_eq_none (by rw [List.length_set, l1]; exact h)]
    · rw [List.getElem?_eq_none (by rw [l1]; exact h)]
section
variable {P : Program} {w : World} {K : PySem.W.Frag} {mg : Str → Option Value} {base : Heap} {Ad1 Ad2 Ad4 Ad6 Ad9 Ad10 Ad11 : Addr}
theorem scMainChildren : FnScope ["tree", "tops", "main", "node", "parent"] ["tree"] (defScope sMainChildren) := ⟨rfl, rfl, rfl, by decide +kernel, rfl, by decide +kernel, by decide +kernel⟩
theorem ok_MainChildren (T : Txt P w K mg base Ad1 Ad2 Ad4 Ad6 Ad9 Ad10 Ad11) : Cl P w K mg base 2 "main_children" (spMain K Ad11) [] := by
  have c_Heights := (ok_Heights T).cl
  refine cl_of T.d_main_children scMainChildren (fun vs H Q E h => ?_) fun f cdv A outer s H vs Q E hr h => ?_
  · obtain ⟨t, ps, qs, rfl, _⟩ := h
    rfl
  · obtain ⟨t, ps, qs, rfl, ht, ⟨hl, hlq, hok⟩, k⟩ := h
    refine ⟨_, (pss_cons (ps_set (i := 1) scMainChildren.nd rfl (by first | exact Or.inl rfl | exact Or.inr rfl) (pe_c c_Heights hr (by decide) rfl (pa_cons (pv 0) pa_nil)))
  (pss_cons (ps_set (i := 2) scMainChildren.nd rfl (by first | exact Or.inl rfl | exact Or.inr rfl) (pe_op op_rep (pe_lst (pa_cons pe_non pa_nil)) (pe_fld (pv 0) rfl)))
  (pss_cons (ps_for (passes_of rfl) rfl (pi_range2 (by rfl) T.b_range (pa_cons pe_int (pa_cons (pe_fld (pv 0) rfl) pa_nil))) (pg_name (i := 3) scMainChildren.nd rfl (by first | exact Or.inl rfl | exact Or.inr rfl))
    (pss_cons (ps_set (i := 4) scMainChildren.nd rfl (by first | exact Or.inl rfl | exact Or.inr rfl) (pe_ix ix_tup (pe_fld (pv 0) rfl) (pe_op op_sub (pv 3) pe_int) (fun _ _ => rfl)))
    (pss_one (ps_if (PW.pt (pw_and (pt_cmpR op_isN (pe_ix ix_list (pv 2) (pv 4) (fun _ _ => rfl)) pe_non (nomark _)) (pw_and1 (pt_cmpR op_eq (pe_op op_mulW (pe_ix ix_tup (pe_fld (pv 0) rfl) (pe_op op_sub (pv 3) pe_int) (fun _ _ => rfl)) (pe_ix ix_tup (pv 1) (pv 3) (fun _ _ => rfl))) (pe_ix ix_tup (pv 1) (pv 4) (fun _ _ => rfl)) (nomark _)))))
      (pss_one (ps_asg (pv 3) (pg_sub (pv 2) (pv 4) set_list)))
      pss_nil))))
  (pss_one (ps_ret (pe_callTy call_tupR (by rfl) T.b_tuple (by decide +kernel) (pa_cons (pv 2) pa_nil))))))), ?_⟩
    refine ⟨_, rfl, t, ps, qs, rfl, ht, ⟨hl, hlq, hok⟩, fun hq H1 f s1 hI hh => ?_⟩
    obtain ⟨dx, a, b, ht, ha, hb⟩ := ht
    have l1 : (treeF (ps.length + 1) a b).lookup ("nodes" : Str) = some (V.int (ps.length + 1)) := by walk_at "lk"
    have l2 : (treeF (ps.length + 1) a b).lookup ("parents" : Str) = some (V.ref a) := by walk_at "lk"
    have l3 : (treeF (ps.length + 1) a b).lookup ("prices" : Str) = some (V.ref b) := by walk_at "lk"
    have en : ((ps.length : Int) + 1).toNat = ps.length + 1 := by omega
    refine ⟨by show 1 ≤ sizeLine; decide, fun z1 h1 => ?_⟩
    have s2 : Same H (upd H1 z1 (.lst [.non])) := smN s1 h1
    refine ⟨_, rfl, t, Ad11, dx, _, _, rfl, s2 _ _ ht, T.lTree, T.nTree_nodes, l1, z1, (ps.length : Int) + 1, _, rfl, rfl, upd_same, by omega, by omega, sz_small (by simp; omega), fun M hM => ?_⟩
    rw [en, rep_one]
    have s3 : Same H1 (upd (upd H1 z1 (.lst [.non])) M (.lst (List.replicate (ps.length + 1) .non))) := smN (sm0 h1) hM
    have e0 : List.replicate (ps.length + 1) V.non = mainRow ps qs f 0 := by
      unfold mainRow
      rw [show (fun v => nV (mainOf ps qs f v 0)) = fun _ => V.non from rfl, List.map_const', List.length_range]
    refine ⟨_, rfl, t, Ad11, dx, _, _, rfl, (s1.trans s3) _ _ ht, T.lTree, T.nTree_nodes, l1, 1, (ps.length : Int) + 1, rfl, ⟨by decide, by decide, by omega, by omega⟩, ?_⟩
    rw [show ((ps.length : Int) + 1 - 1).toNat = ps.length by omega]
    refine for_range (lo := 1) (n := ps.length) (fun m σ H' => ∃ v3 v4 : Option V, σ = [some (.ref t), some (.ref hq), some (.ref M), v3, v4] ∧ Same H1 H' ∧ H' M = some (.lst (mainRow ps qs f m)))
      ⟨none, none, rfl, s3, by rw [upd_same, e0]⟩ (fun m σ H' hml h => ?_) fun σ H' h => ?_
    · obtain ⟨v3, v4, rfl, sh, hMm⟩ := h
      have ev : (1 : Int) + (m : Nat) = ((m + 1 : Nat) : Int) := by omega
      rw [ev]
      obtain ⟨p, hp⟩ : ∃ p, ps[m]? = some p := ⟨_, List.getElem?_eq_getElem hml⟩
      obtain ⟨q, hqq⟩ : ∃ q, qs[m]? = some q := ⟨_, List.getElem?_eq_getElem (by omega)⟩
      have ok := hok m p q hml hp hqq
      obtain ⟨pn, rfl⟩ : ∃ pn : Nat, p = (pn : Int) := ⟨p.toNat, by have := ok.1; omega⟩
      have hpm : pn ≤ m := by have := ok.2.1; omega
      obtain ⟨x, hx⟩ : ∃ x, f[m + 1]? = some x := ⟨_, List.getElem?_eq_getElem (by rw [hI.len]; omega)⟩
      obtain ⟨y, hy⟩ : ∃ y, f[pn]? = some y := ⟨_, List.getElem?_eq_getElem (by rw [hI.len]; omega)⟩
      have px := hI.pos _ _ hx
      have hbig : x ≤ 10 ^ 200 := by
        have e1 : (31 : Int) ^ (ps.length + 1 - (m + 1)) ≤ 31 ^ 60 := pow31_le (by omega)
        have e2 : (31 : Int) ^ 60 ≤ 10 ^ 200 := by decide +kernel
        omega
      have sH := s1.trans sh
      have htt := sH _ _ ht
      have haa := sH _ _ ha
      have hbb := sH _ _ hb
      have hhh := sh _ _ hh
      have hpl : pn < ps.length + 1 := by omega
      have nxt := main_next (f := f) hp hqq hx hy hpl
      refine ⟨_, rfl, t, Ad11, dx, _, _, rfl, htt, T.lTree, T.nTree_parents, l2, _, rfl, _, _, rfl, rfl, a, _, _, _, rfl, rfl, SqT.of haa, at_of (j := m) (by omega) (at_ints hp), ?_⟩
      refine ⟨_, rfl, _, rfl, M, _, _, _, rfl, rfl, SqL.of hMm, atI_nat (mainRow_at hpl), rfl, _, rfl, ?_⟩
      cases e : mainOf ps qs f pn m with
      | some c =>
        refine ifD (fun z => by cases z) fun _ => ?_
        refine ⟨_, _, rfl, sh, ?_⟩
        rw [nxt, e, if_neg (fun z => by cases z.1)]
        exact hMm
      | none =>
        refine ifD (fun _ => ?_) fun z => absurd rfl z
        refine ⟨_, rfl, t, Ad11, dx, _, _, rfl, htt, T.lTree, T.nTree_prices, l3, _, rfl, _, _, rfl, rfl, b, _, _, _, rfl, rfl, SqT.of hbb, at_of (j := m) (by omega) (at_ints hqq), _, rfl, _, rfl, hq, _, _, _, rfl, rfl, SqT.of hhh, atI_nat (at_ints hx), _, _, rfl, rfl, cmul_small (abs_small (by have := ok.2.2.1; omega) (by have := ok.2.2.2; omega)) (abs_small (by omega) hbig), _, rfl, _, rfl, hq, _, _, _, rfl, rfl, SqT.of hhh, atI_nat (at_ints hy), rfl, _, rfl, ifI (fun c => ?_) fun c => ?_⟩
        · refine ⟨_, rfl, _, rfl, _, rfl, M, _, _, pn, rfl, rfl, hMm, ixN_of rfl (by unfold mainRow; simp; omega), ?_⟩
          refine ⟨_, _, rfl, smM sh ((sm0 h1).free hM), ?_⟩
          rw [upd_same, nxt, e, if_pos ⟨rfl, c⟩]
        · refine ⟨_, _, rfl, sh, ?_⟩
          rw [nxt, e, if_neg (fun z => c z.2)]
          exact hMm
    · obtain ⟨v3, v4, rfl, sh, hMm⟩ := h
      refine ⟨_, rfl, ?_⟩
      unfold rTupR
      refine ⟨M, _, rfl, .inl ⟨SqL.of hMm, fun l hl => ?_⟩⟩
      exact k l _ f (smN (s1.trans sh) hl) hI upd_same
end
end K13
set_option maxRecDepth 100000
set_option maxHeartbeats 4000000
namespace K13
open PySem L2 SI
/-- the way down from v by the row -/
def down (row : List (Option Nat)) : Nat → Nat → List Nat
  | 0, _ => []
  | k + 1, v => v :: (match row[v]? with | some (some c) => down row k c | _ => [])
def downO (row : List (Option Nat)) (k : Nat) : Option Nat → List Nat
  | none => []
  | some v => down row k v
theorem down_len (row : List (Option Nat)) : ∀ k v, (down row k v).length ≤ k
  | 0, _ => Nat.le_refl _
  | k + 1, v => by
    show (v :: _).length ≤ k + 1
    rw [List.length_cons]
    split
    · have := down_len row k ‹Nat›; omega
    · simp
def spPath (K : PySem.W.Frag) : Sp := fun vs H Q _ => ∃ (m : Addr) (top second : Nat) (row : List (Option Nat)), vs = [.ref m, .int (top : Nat), .int (second : Nat)] ∧ H m = some (.tup (row.map nV)) ∧ row.length ≤ 1000 ∧ second < row.length ∧ (∀ (v c : Nat), row[v]? = some (some c) → v < c ∧ c < row.length) ∧
  ∀ q H', Same H H' → H' q = some (.tup ((top :: down row (row.length - second) second).map fun i => V.int (i : Nat))) → Q (.ref q) H'
section
variable {P : Program} {w : World} {K : PySem.W.Frag} {mg : Str → Option Value} {base : Heap} {Ad1 Ad2 Ad4 Ad6 Ad9 Ad10 Ad11 : Addr}
theorem scPathDown : FnScope ["main", "top", "second", "nodes", "node"] ["main", "top", "second"] (defScope sPathDown) := ⟨rfl, rfl, rfl, by decide +kernel, rfl, by decide +kernel, by decide +kernel⟩
theorem ok_PathDown (T : Txt P w K mg base Ad1 Ad2 Ad4 Ad6 Ad9 Ad10 Ad11) : Cl P w K mg base 1 "path_down" (spPath K) [] := by
  refine cl_of T.d_path_down scPathDown (fun vs H Q E h => ?_) fun f cdv A outer s H vs Q E hr h => ?_
  · obtain ⟨m, top, second, row, rfl, _⟩ := h
    rfl
  · obtain ⟨m, top, second, row, rfl, hm, hl, hs, hrow, k⟩ := h
    refine ⟨_, (pss_cons (ps_set (i := 3) scPathDown.nd rfl (by first | exact Or.inl rfl | exact Or.inr rfl) (pe_lst (pa_cons (pv 1) pa_nil)))
  (pss_cons (ps_set (i := 4) scPathDown.nd rfl (by first | exact Or.inl rfl | exact Or.inr rfl) (pv 2))
  (pss_cons (ps_while (passes_of rfl) (pt_cmpR op_notN (pv 4) pe_non (nomark _))
    (pss_cons (ps_expr (pe_bm PySem.F.plainAttrs_list PySem.F.slot_list_append PySem.F.type_list_append mt_append (pv 3) (pa_cons (pv 4) pa_nil)))
    (pss_one (ps_set (i := 4) scPathDown.nd rfl (by first | exact Or.inl rfl | exact Or.inr rfl) (pe_ix ix_tup (pv 0) (pv 4) (fun _ _ => rfl))))))
  (pss_one (ps_ret (pe_callTy call_tupR (by rfl) T.b_tuple (by decide +kernel) (pa_cons (pv 3) pa_nil))))))), ?_⟩
    refine ⟨_, rfl, by show 1 ≤ sizeLine; decide, fun L hL => ?_⟩
    let μ : Option Nat → Nat := fun o => match o with | none => 0 | some v => row.length - v + 1
    refine ⟨_, rfl, fun n σ H' => ∃ (o : Option Nat) (acc : List Nat) (j : Nat), n = μ o ∧ σ = [some (.ref m), some (.int (top : Nat)), some (.int (second : Nat)), some (.ref L), some (nV o)] ∧ Same H H' ∧ H' L = some (.lst ((top :: acc).map fun i => V.int (i : Nat))) ∧ acc ++ downO row j o = down row (row.length - second) second ∧ ∀ v, o = some v → v < row.length ∧ row.length - v ≤ j, 
      ⟨_, some second, [], row.length - second, rfl, rfl, sm0 hL, by rw [upd_same] <;> rfl, rfl, fun v e => by cases e; exact ⟨hs, Nat.le_refl _⟩⟩, fun n σ H' h => ?_⟩
    obtain ⟨o, acc, j, rfl, rfl, sh, hacc, heq, ho⟩ := h
    have hlen : acc.length ≤ 1000 := by
      have h1 := congrArg List.length heq
      rw [List.length_append] at h1
      have h2 := down_len row (row.length - second) second
      omega
    cases o with
    | none =>
      refine ⟨_, rfl, rfl, _, rfl, ifN (fun z => absurd rfl z) fun _ => ?_⟩
      refine ⟨_, rfl, ?_⟩
      unfold rTupR
      refine ⟨L, _, rfl, .inl ⟨SqL.of hacc, fun q hq => ?_⟩⟩
      have e2 : acc = down row (row.length - second) second := by rw [← heq]; exact (List.append_nil _).symm
      refine k q _ (smN sh hq) ?_
      rw [upd_same, e2]
    | some v =>
      obtain ⟨hv, hj⟩ := ho v rfl
      obtain ⟨j', rfl⟩ : ∃ j', j = j' + 1 := ⟨j - 1, by omega⟩
      obtain ⟨o2, ho2⟩ : ∃ o2, row[v]? = some o2 := ⟨_, List.getElem?_eq_getElem hv⟩
      refine ⟨_, rfl, rfl, _, rfl, ifN (fun _ => ?_) fun z => by cases z⟩
      refine ⟨fun σ' H2 => ∃ m', m' < μ (some v) ∧ ∃ (o : Option Nat) (acc : List Nat) (j : Nat), m' = μ o ∧ σ' = [some (.ref m), some (.int (top : Nat)), some (.int (second : Nat)), some (.ref L), some (nV o)] ∧ Same H H2 ∧ H2 L = some (.lst ((top :: acc).map fun i => V.int (i : Nat))) ∧ acc ++ downO row j o = down row (row.length - second) second ∧ ∀ v, o = some v → v < row.length ∧ row.length - v ≤ j, fun _ _ h => h, ?_⟩
      refine ⟨_, rfl, .inl ⟨rfl, _, SqL.of hacc⟩, _, rfl, L, _, _, rfl, rfl, hacc, by simp only [List.length_map, List.length_cons]; exact sz_lt (by omega), ?_⟩
      have sh2 : Same H (upd H' L (.lst ((top :: acc).map (fun i => V.int (i : Nat)) ++ [V.int (v : Nat)]))) := smM sh hL
      refine ⟨_, rfl, _, rfl, m, _, _, _, rfl, rfl, SqT.of (sh2 _ _ hm), atI_nat (v := nV o2) (by rw [List.getElem?_map, ho2]; rfl), ?_⟩
      have hd : downO row (j' + 1) (some v) = v :: downO row j' o2 := by
        show v :: (match row[v]? with | some (some c) => down row j' c | _ => []) = _
        rw [ho2]
        cases o2 <;> rfl
      refine ⟨μ o2, ?_, o2, acc ++ [v], j', rfl, rfl, sh2, by rw [upd_same, ← List.cons_append, List.map_append] <;> rfl, by rw [List.append_assoc, ← heq, hd]; rfl, fun c e => ?_⟩
      · cases o2 with
        | none => show 0 < row.length - v + 1; omega
        | some c =>
          have := hrow v c ho2
          show row.length - c + 1 < row.length - v + 1
          omega
      · subst e
        have := hrow v c ho2
        exact ⟨this.2, by omega⟩
end
end K13
set_option maxRecDepth 100000
set_option maxHeartbeats 4000000
namespace K13
open PySem L2 SI
local macro_rules | `(tactic| walk_at "lk") => `(tactic| first | exact lk_hit | exact lk_nil | (refine lk_next (by decide +kernel) ?_; walk_at "lk"))
def mainL (ps qs f : List Int) : List (Option Nat) := (List.range (ps.length + 1)).map fun v => mainOf ps qs f v ps.length
theorem mainL_row (ps qs f : List Int) : mainRow ps qs f ps.length = (mainL ps qs f).map nV := by
  unfold mainRow mainL
  rw [List.map_map]
  rfl
theorem mainL_len (ps qs f : List Int) : (mainL ps qs f).length = ps.length + 1 := by unfold mainL; simp
theorem mainL_at {ps qs f : List Int} {v : Nat} (h : v < ps.length + 1) : (mainL ps qs f)[v]? = some (mainOf ps qs f v ps.length) := by
  unfold mainL
  rw [List.getElem?_map, List.getElem?_range h]
  rfl
theorem mainOf_up {ps qs f : List Int} (ok : ∀ (i : Nat) (p : Int), ps[i]? = some p → 0 ≤ p ∧ p ≤ i) (v : Nat) : ∀ m c, mainOf ps qs f v m = some c → v < c ∧ c ≤ m
  | 0, c, h => by cases h
  | m + 1, c, h => by
    have h' : (match mainOf ps qs f v m with | some c => some c | none => if hit ps qs f v m = true then some (m + 1) else none) = some c := h
    cases e : mainOf ps qs f v m with
    | some c' =>
      rw [e] at h'
      cases h'
      have := mainOf_up ok v m c e
      omega
    | none =>
      rw [e] at h'
      by_cases hh : hit ps qs f v m = true
      · have h2 : (if hit ps qs f v m = true then some (m + 1) else none) = some c := h'
        rw [if_pos hh] at h2
        cases h2
        unfold hit at hh
        rw [Bool.and_eq_true, decide_eq_true_eq] at hh
        have := (ok m _ hh.1).2
        omega
      · have h2 : (if hit ps qs f v m = true then some (m + 1) else none) = some c := h'
        rw [if_neg hh] at h2
        cases h2
/-- the paths that begin at the first m edges -/
def pathsTo (ps : List Int) (row : List (Option Nat)) : Nat → List (List Nat)
  | 0 => []
  | m + 1 => pathsTo ps row m ++ (match ps[m]? with
    | some p => if p = 0 ∨ row[p.toNat]? ≠ some (some (m + 1)) then [p.toNat :: down row (row.length - (m + 1)) (m + 1)] else []
    | none => [])
theorem paths_len (ps : List Int) (row : List (Option Nat)) : ∀ m, (pathsTo ps row m).length ≤ m
  | 0 => Nat.le_refl _
  | m + 1 => by
    have := paths_len ps row m
    show (pathsTo ps row m ++ _).length ≤ _
    rw [List.length_append]
    split
    · split <;> simp <;> omega
    · simp; omega
def TupsV (H : Hp) (xs : List V) (ls : List (List Nat)) : Prop := xs.length = ls.length ∧ ∀ (i : Nat) v l, xs[i]? = some v → ls[i]? = some l → ∃ r, v = .ref r ∧ H r = some (.tup (l.map fun i => V.int (i : Nat)))
theorem TupsV.same {H H' : Hp} {xs : List V} {ls : List (List Nat)} (s : Same H H') (h : TupsV H xs ls) : TupsV H' xs ls := ⟨h.1, fun i v l a b => by obtain ⟨r, h1, h2⟩ := h.2 i v l a b; exact ⟨r, h1, s _ _ h2⟩⟩
theorem tups_snoc {H : Hp} {xs : List V} {ls : List (List Nat)} {r : Addr} {l : List Nat} (h : TupsV H xs ls) (hr : H r = some (.tup (l.map fun i => V.int (i : Nat)))) : TupsV H (xs ++ [.ref r]) (ls ++ [l]) := by
  refine ⟨by simp [h.1], fun i v l' a b => ?_⟩
  rcases Nat.lt_or_ge i xs.length with c | c
  · rw [List.getElem?_append_left c] at a
    rw [List.getElem?_append_left (by rw [← h.1]; exact c)] at b
    exact h.2 i v l' a b
  · rw [List.getElem?_append_right c] at a
    rw [List.getElem?_append_right (by rw [← h.1]; exact c), ← h.1] at b
    cases e : i - xs.length with
    | zero =>
      rw [e] at a b
      cases a
      cases b
      exact ⟨r, rfl, hr⟩
    | succ j => rw [e] at a; simp at a
def spPaths (K : PySem.W.Frag) (C : Addr) : Sp := fun vs H Q _ => ∃ (t : Addr) (ps qs : List Int), vs = [.ref t] ∧ TreeAt C H t ps qs ∧ okT ps qs ∧ ∀ q H' f xs, Same H H' → IsH ps qs 0 f → H' q = some (.tup xs) → TupsV H' xs (pathsTo ps (mainL ps qs f) ps.length) → Q (.ref q) H'
section
variable {P : Program} {w : World} {K : PySem.W.Frag} {mg : Str → Option Value} {base : Heap} {Ad1 Ad2 Ad4 Ad6 Ad9 Ad10 Ad11 : Addr}
theorem scPaths : FnScope ["tree", "main", "found", "node", "top"] ["tree"] (defScope sPaths) := ⟨rfl, rfl, rfl, by decide +kernel, rfl, by decide +kernel, by decide +kernel⟩
theorem ok_Paths (T : Txt P w K mg base Ad1 Ad2 Ad4 Ad6 Ad9 Ad10 Ad11) : Cd P w K mg base 3 "paths" sPaths ["tree"] (spPaths K Ad11) := by
  have c_MainChildren := ok_MainChildren T
  have c_PathDown := ok_PathDown T
  refine cd_of T.d_paths scPaths (fun vs H Q E h => ?_) fun f cdv A outer s H vs Q E hr h => ?_
  · obtain ⟨t, ps, qs, rfl, _⟩ := h
    rfl
  · obtain ⟨t, ps, qs, rfl, ht, ⟨hl, hlq, hok⟩, k⟩ := h
    refine ⟨_, (pss_cons (ps_set (i := 1) scPaths.nd rfl (by first | exact Or.inl rfl | exact Or.inr rfl) (pe_c c_MainChildren hr (by decide) rfl (pa_cons (pv 0) pa_nil)))
  (pss_cons (ps_set (i := 2) scPaths.nd rfl (by first | exact Or.inl rfl | exact Or.inr rfl) (pe_lst pa_nil))
  (pss_cons (ps_for (passes_of rfl) rfl (pi_range2 (by rfl) T.b_range (pa_cons pe_int (pa_cons (pe_fld (pv 0) rfl) pa_nil))) (pg_name (i := 3) scPaths.nd rfl (by first | exact Or.inl rfl | exact Or.inr rfl))
    (pss_cons (ps_set (i := 4) scPaths.nd rfl (by first | exact Or.inl rfl | exact Or.inr rfl) (pe_ix ix_tup (pe_fld (pv 0) rfl) (pe_op op_sub (pv 3) pe_int) (fun _ _ => rfl)))
    (pss_one (ps_if (PW.pt (pw_or (pt_cmpR op_eq (pv 4) pe_int (nomark _)) (pw_or1 (pt_cmpR op_ne (pe_ix ix_tup (pv 1) (pv 4) (fun _ _ => rfl)) (pv 3) (nomark _)))))
      (pss_one (ps_expr (pe_bm PySem.F.plainAttrs_list PySem.F.slot_list_append PySem.F.type_list_append mt_append (pv 2) (pa_cons (pe_c c_PathDown hr (by decide) rfl (pa_cons (pv 1) (pa_cons (pv 4) (pa_cons (pv 3) pa_nil)))) pa_nil))))
      pss_nil))))
  (pss_one (ps_ret (pe_callTy call_tupR (by rfl) T.b_tuple (by decide +kernel) (pa_cons (pv 2) pa_nil))))))), ?_⟩
    refine ⟨_, rfl, t, ps, qs, rfl, ht, ⟨hl, hlq, hok⟩, fun hm H1 f s1 hI hmm => ?_⟩
    rw [mainL_row] at hmm
    obtain ⟨dx, a, b, ht, ha, hb⟩ := ht
    have l1 : (treeF (ps.length + 1) a b).lookup ("nodes" : Str) = some (V.int (ps.length + 1)) := by walk_at "lk"
    have l2 : (treeF (ps.length + 1) a b).lookup ("parents" : Str) = some (V.ref a) := by walk_at "lk"
    have okp : ∀ (i : Nat) (p : Int), ps[i]? = some p → 0 ≤ p ∧ p ≤ i := fun i p hp => by
      obtain ⟨q, hq⟩ : ∃ q, qs[i]? = some q := ⟨_, List.getElem?_eq_getElem (by have := (List.getElem?_eq_some_iff.mp hp).1; omega)⟩
      have := hok i p q (List.getElem?_eq_some_iff.mp hp).1 hp hq
      exact ⟨this.1, this.2.1⟩
    have hrow : ∀ (v c : Nat), (mainL ps qs f)[v]? = some (some c) → v < c ∧ c < (mainL ps qs f).length := fun v c h => by
      have hv : v < ps.length + 1 := by rw [← mainL_len ps qs f]; exact (List.getElem?_eq_some_iff.mp h).1
      rw [mainL_at hv] at h
      have := mainOf_up okp v _ c (Option.some.inj h)
      rw [mainL_len]
      omega
    have hrl := mainL_len ps qs f
    have hrat : ∀ v, v < ps.length + 1 → ∃ o, (mainL ps qs f)[v]? = some o := fun v hv => ⟨_, mainL_at hv⟩
    generalize hR : mainL ps qs f = row at hmm hrow hrl hrat
    refine ⟨by show 0 ≤ sizeLine; decide, fun F hF => ?_⟩
    have s2 : Same H1 (upd H1 F (.lst [])) := sm0 hF
    refine ⟨_, rfl, t, Ad11, dx, _, _, rfl, (s1.trans s2) _ _ ht, T.lTree, T.nTree_nodes, l1, 1, (ps.length : Int) + 1, rfl, ⟨by decide, by decide, by omega, by omega⟩, ?_⟩
    rw [show ((ps.length : Int) + 1 - 1).toNat = ps.length by omega]
    refine for_range (lo := 1) (n := ps.length) (fun m σ H' => ∃ (v3 v4 : Option V) (xs : List V), σ = [some (.ref t), some (.ref hm), some (.ref F), v3, v4] ∧ Same H1 H' ∧ H' F = some (.lst xs) ∧ TupsV H' xs (pathsTo ps row m))
      ⟨none, none, [], rfl, s2, upd_same, rfl, fun i v l h => by simp at h⟩ (fun m σ H' hml h => ?_) fun σ H' h => ?_
    · obtain ⟨v3, v4, xs, rfl, sh, hFm, hT⟩ := h
      have ev : (1 : Int) + (m : Nat) = ((m + 1 : Nat) : Int) := by omega
      rw [ev]
      obtain ⟨p, hp⟩ : ∃ p, ps[m]? = some p := ⟨_, List.getElem?_eq_getElem hml⟩
      have ok := okp m p hp
      obtain ⟨pn, rfl⟩ : ∃ pn : Nat, p = (pn : Int) := ⟨p.toNat, by have := ok.1; omega⟩
      have hpm : pn ≤ m := by have := ok.2; omega
      have sH := s1.trans sh
      have htt := sH _ _ ht
      have haa := sH _ _ ha
      have hmm' := sh _ _ hmm
      obtain ⟨o, ho⟩ := hrat pn (by omega)
      have ex : pathsTo ps row (m + 1) = pathsTo ps row m ++ (if (pn : Int) = 0 ∨ row[pn]? ≠ some (some (m + 1)) then [pn :: down row (row.length - (m + 1)) (m + 1)] else []) := by
        show pathsTo ps row m ++ (match ps[m]? with | some p => _ | none => _) = _
        rw [hp]
        show _ ++ (if (pn : Int) = 0 ∨ row[(pn : Int).toNat]? ≠ _ then [(pn : Int).toNat :: _] else _) = _
        rw [Int.toNat_natCast]
      have add : ((pn : Int) = 0 ∨ row[pn]? ≠ some (some (m + 1))) → ∀ q H2, Same H' H2 → H2 q = some (.tup ((pn :: down row (row.length - (m + 1)) (m + 1)).map fun i => V.int (i : Nat))) → Same H1 (upd H2 F (.lst (xs ++ [.ref q]))) ∧ TupsV (upd H2 F (.lst (xs ++ [.ref q]))) (xs ++ [.ref q]) (pathsTo ps row (m + 1)) := fun hc q H2 s3 hq => by
        have hF2 := s3 _ _ hFm
        refine ⟨smM (sh.trans s3) hF, ?_⟩
        rw [ex, if_pos hc]
        have t1 := tups_snoc (hT.same s3) hq
        refine ⟨t1.1, fun i v l a b => ?_⟩
        obtain ⟨r, h1, h2⟩ := t1.2 i v l a b
        exact ⟨r, h1, by rw [upd_ne (ne_of h2 hF2 (by intro z; cases z))]; exact h2⟩
      have lenx : xs.length < sizeLine := sz_lt (by have := hT.1; have := paths_len ps row m; omega)
      refine ⟨_, rfl, t, Ad11, dx, _, _, rfl, htt, T.lTree, T.nTree_parents, l2, _, rfl, _, _, rfl, rfl, a, _, _, _, rfl, rfl, SqT.of haa, at_of (j := m) (by omega) (at_ints hp), ?_⟩
      refine ⟨_, rfl, rfl, _, rfl, ifI (fun c => ?_) fun c => ?_⟩
      · refine ⟨_, rfl, .inl ⟨rfl, _, SqL.of hFm⟩, _, rfl, _, rfl, _, rfl, hm, pn, m + 1, row, rfl, hmm', by omega, by omega, hrow, fun q H2 s3 hq => ?_⟩
        obtain ⟨a1, a2⟩ := add (.inl c) q H2 s3 hq
        exact ⟨F, _, _, rfl, rfl, s3 _ _ hFm, lenx, _, _, _, rfl, a1, upd_same, a2⟩
      · have hat : (row.map nV)[pn]? = some (nV o) := by rw [List.getElem?_map, ho]; rfl
        cases o with
        | none =>
          refine ⟨_, rfl, _, rfl, hm, _, _, _, rfl, rfl, SqT.of hmm', atI_nat hat, _, rfl, rfl, _, rfl, ifN (fun _ => ?_) fun z => by cases z⟩
          refine ⟨_, rfl, .inl ⟨rfl, _, SqL.of hFm⟩, _, rfl, _, rfl, _, rfl, hm, pn, m + 1, row, rfl, hmm', by omega, by omega, hrow, fun q H2 s3 hq => ?_⟩
          obtain ⟨a1, a2⟩ := add (.inr (by rw [ho]; intro z; cases z)) q H2 s3 hq
          exact ⟨F, _, _, rfl, rfl, s3 _ _ hFm, lenx, _, _, _, rfl, a1, upd_same, a2⟩
        | some c0 =>
          refine ⟨_, rfl, _, rfl, hm, _, _, _, rfl, rfl, SqT.of hmm', atI_nat hat, _, rfl, rfl, _, rfl, ifIN (fun c2 => ?_) fun c2 => ?_⟩
          · refine ⟨_, rfl, .inl ⟨rfl, _, SqL.of hFm⟩, _, rfl, _, rfl, _, rfl, hm, pn, m + 1, row, rfl, hmm', by omega, by omega, hrow, fun q H2 s3 hq => ?_⟩
            obtain ⟨a1, a2⟩ := add (.inr (by rw [ho]; intro z; cases z; exact c2 rfl)) q H2 s3 hq
            exact ⟨F, _, _, rfl, rfl, s3 _ _ hFm, lenx, _, _, _, rfl, a1, upd_same, a2⟩
          · have ec : c0 = m + 1 := by omega
            refine ⟨_, _, xs, rfl, sh, hFm, ?_⟩
            rw [ex, if_neg, List.append_nil]
            · exact hT
            · rintro (z | z)
              · exact c z
              · exact z (by rw [ho, ec])
    · obtain ⟨v3, v4, xs, rfl, sh, hFm, hT⟩ := h
      refine ⟨_, rfl, ?_⟩
      unfold rTupR
      refine ⟨F, _, rfl, .inl ⟨SqL.of hFm, fun l hl => ?_⟩⟩
      exact k l _ f xs (smN (s1.trans sh) hl) hI upd_same (by rw [hR]; exact hT.same (sm0 hl))
end
end K13
set_option maxRecDepth 100000
set_option maxHeartbeats 4000000
namespace K13
open PySem PySem.Spec PyProof.Rows L2 SI
theorem PoolB.up {H : Hp} {p : Addr} {b c : Nat} (h : PoolB H p b) (hc : b ≤ c) : PoolB H p c := by
  obtain ⟨z, ns, h1, h2, h3, h4⟩ := h
  exact ⟨z, ns, h1, h2, by omega, h4⟩
theorem PoolB.ne {H : Hp} {p l : Addr} {b : Nat} (h : PoolB H p b) (hl : H l = none) : l ≠ p := by
  obtain ⟨z, ns, h1, _⟩ := h
  exact (ne_of_none h1 hl).symm
theorem PoolB.new {H : Hp} {p l : Addr} {b : Nat} {o : HO} (h : PoolB H p b) (hl : H l = none) : PoolB (upd H l o) p b := by
  have n := h.ne hl
  obtain ⟨z, ns, h1, h2⟩ := h
  exact ⟨z, ns, by rw [upd_ne n.symm]; exact h1, h2⟩
theorem PoolB.same {H H' : Hp} {p : Addr} {b : Nat} (h : PoolB H p b) (s : Same H H') : PoolB H' p b := by
  obtain ⟨z, ns, h1, h2⟩ := h
  exact ⟨z, ns, s _ _ h1, h2⟩
theorem PoolB.put {H : Hp} {p a : Addr} {b : Nat} {o : HO} (h : PoolB H p b) (n : a ≠ p) : PoolB (upd H a o) p b := by
  obtain ⟨z, ns, h1, h2⟩ := h
  exact ⟨z, ns, by rw [upd_ne n.symm]; exact h1, h2⟩
theorem But.free {p a : Addr} {H H' : Hp} (s : But p H H') (n : a ≠ p) (h : H' a = none) : H a = none := by
  cases e : H a with
  | none => rfl
  | some o => rw [s a o n e] at h; cases h
theorem pick {L : List Int} {d : Int} (h0 : 0 ≤ d) (h1 : d < L.length) : ∃ z, z ∈ L ∧ atI (L.map V.int) d = some (.int z) := by
  have h : d.toNat < L.length := by omega
  exact ⟨L[d.toNat], List.getElem_mem h, at_of (j := d.toNat) (by omega) (at_ints (List.getElem?_eq_getElem h))⟩
theorem okTo_snoc {ps qs : List Int} {i : Nat} {d r : Int} (h1 : ps.length = i) (h2 : qs.length = i) (h : okTo ps qs i) (e : okE i d r) : okTo (ps ++ [d]) (qs ++ [r]) (i + 1) := by
  intro j p q hj hp hq
  by_cases c : j < i
  · rw [List.getElem?_append_left (by omega)] at hp hq
    exact h j p q c hp hq
  · obtain rfl : j = i := by omega
    rw [List.getElem?_append_right (by omega), h1, Nat.sub_self] at hp
    rw [List.getElem?_append_right (by omega), h2, Nat.sub_self] at hq
    cases hp
    cases hq
    exact e
theorem big6 {b : Nat} (h : b ≤ 10 ^ 7) : b ≤ 10 ^ 100 := Nat.le_trans h (Nat.pow_le_pow_right (by decide) (by decide))
/-- what is due of Tree(parents, prices): nothing, or the error as a row -/
inductive DueIs (ps qs : List Int) : Option (List V) → Prop where
  | good (h : okT ps qs) : DueIs ps qs none
  | many (h : 59 < ps.length) : DueIs ps qs (some [.str "BadCount", .str "nodes", .int (ps.length + 1)])
  | width (h : ps.length ≤ 59) (h2 : qs.length ≠ ps.length) : DueIs ps qs (some [.str "WrongWidth", .int (qs.length : Nat), .int (ps.length : Nat)])
  | par (h : ps.length ≤ 59) (h2 : qs.length = ps.length) (i : Nat) (h3 : badPar ps qs i) : DueIs ps qs (some [.str "BadParent", .int (i : Nat)])
  | pri (h : ps.length ≤ 59) (h2 : qs.length = ps.length) (i : Nat) (h3 : badPri ps qs i) : DueIs ps qs (some [.str "BadPrice", .int (i : Nat)])
def dueV (H : Hp) (q : Addr) : Option (List V) → Prop
  | none => H q = some (.tup [])
  | some xs => ∃ r, H q = some (.tup [.ref r]) ∧ H r = some (.tup xs)
/-! equal data -/
section
variable {H : Hp} {a b : Addr} {d : Nat}
theorem da_map {α : Type} {F : α → V} {xs : List α} (ha : H a = some (.tup (xs.map F))) (hb : H b = some (.tup (xs.map F))) (hz : xs.length ≤ 100000) (h : ∀ x ∈ xs, Da H d (F x) (F x)) : Da H (d + 1) (.ref a) (.ref b) :=
  .tup d a b _ _ ha hb rfl (by rw [List.length_map]; exact hz) fun i x y h1 h2 => by
    rw [h1] at h2
    cases h2
    rw [List.getElem?_map] at h1
    cases e : xs[i]? with
    | none => rw [e] at h1; cases h1
    | some z => rw [e] at h1; cases h1; exact h z (List.mem_of_getElem? e)
theorem da_ints {ns : List Int} (ha : H a = some (.tup (ns.map V.int))) (hb : H b = some (.tup (ns.map V.int))) (hz : ns.length ≤ 100000) : Da H (d + 1) (.ref a) (.ref b) := da_map ha hb hz fun x _ => .int d x
theorem da_one {x y : V} (ha : H a = some (.tup [x])) (hb : H b = some (.tup [y])) (h : Da H d x y) : Da H (d + 1) (.ref a) (.ref b) := .tup d a b _ _ ha hb rfl (by show 1 ≤ 100000; decide) fun i u v h1 h2 => by
  cases i with
  | zero => cases h1; cases h2; exact h
  | succ i => simp at h1
theorem da_two {x y x' y' : V} (ha : H a = some (.tup [x, x'])) (hb : H b = some (.tup [y, y'])) (h : Da H d x y) (h' : Da H d x' y') : Da H (d + 1) (.ref a) (.ref b) := .tup d a b _ _ ha hb rfl (by show 2 ≤ 100000; decide) fun i u v h1 h2 => by
  cases i with
  | zero => cases h1; cases h2; exact h
  | succ i => cases i with
    | zero => cases h1; cases h2; exact h'
    | succ i => simp at h1
theorem da_tups {xs ys : List V} {ls : List (List Nat)} (ha : H a = some (.tup xs)) (hb : H b = some (.tup ys)) (h1 : TupsV H xs ls) (h2 : TupsV H ys ls) (hz : ls.length ≤ 100000) (hl : ∀ l ∈ ls, l.length ≤ 100000) : Da H (d + 2) (.ref a) (.ref b) :=
  .tup (d + 1) a b _ _ ha hb (by rw [h1.1, h2.1]) (by rw [h2.1]; exact hz) fun i x y e1 e2 => by
    obtain ⟨l, hli⟩ : ∃ l, ls[i]? = some l := ⟨_, List.getElem?_eq_getElem (by rw [← h1.1]; exact (List.getElem?_eq_some_iff.mp e1).1)⟩
    obtain ⟨r, rfl, hr⟩ := h1.2 i x l e1 hli
    obtain ⟨t, rfl, ht⟩ := h2.2 i y l e2 hli
    exact da_map hr ht (hl l (List.mem_of_getElem? hli)) fun x _ => .int d _
theorem da_str {s t : Str} {n m : V} (hs : s = t) (hsh : SeqAt.shaped (.str t) = true) (h : Da H d n m) (ha : H a = some (.tup [.str s, n])) (hb : H b = some (.tup [.str t, m])) : Da H (d + 1) (.ref a) (.ref b) := by
  subst hs
  exact da_two ha hb (.str d _ hsh) h
end
theorem TreeAt.but {C p t : Addr} {H H' : Hp} {ps qs : List Int} {b : Nat} (h : TreeAt C H t ps qs) (hp : PoolB H p b) (s : But p H H') : TreeAt C H' t ps qs := by
  obtain ⟨z, ns, hp, _⟩ := hp
  obtain ⟨dx, a, b, h1, h2, h3⟩ := h
  exact ⟨dx, a, b, s _ _ (ne_of h1 hp (by intro z; cases z)) h1, s _ _ (ne_of h2 hp (by intro z; cases z)) h2, s _ _ (ne_of h3 hp (by intro z; cases z)) h3⟩
theorem no_bad {ps qs : List Int} (ok : okT ps qs) {Ad2 Ad6 Ad9 Ad10 x : Addr} {fs : List (Str × V)} (h : BadT Ad2 Ad6 Ad9 Ad10 ps qs x fs) : False := by
  cases h with
  | many h => have := ok.1; omega
  | width h h2 => exact h2 ok.2.1
  | par h h2 i h3 =>
    obtain ⟨_, p, hp, c⟩ := h3
    have hi := (List.getElem?_eq_some_iff.mp hp).1
    obtain ⟨q, hq⟩ : ∃ q, qs[i]? = some q := ⟨_, List.getElem?_eq_getElem (by omega)⟩
    have := ok.2.2 i p q hi hp hq
    have := this.1
    have := (ok.2.2 i p q hi hp hq).2.1
    omega
  | pri h h2 i h3 =>
    obtain ⟨_, ⟨p, hp, _⟩, q, hq, c⟩ := h3
    have hi := (List.getElem?_eq_some_iff.mp hp).1
    have := (ok.2.2 i p q hi hp hq).2.2
    have h1 := this.1
    have h2 := this.2
    omega
/-- Tree(a, b) of good rows -/
theorem mk_ok {K : PySem.W.Frag} {Ad2 Ad6 Ad9 Ad10 C : Addr} {H1 : Hp} {a b x dx : Addr} {ps qs : List Int} {Q : VK} {E : XK} (hx : H1 x = none) (hdx : H1 dx = none) (ok : okT ps qs) (ha : RowR K H1 a ps) (hb : RowR K H1 b qs)
    (k : ∀ H', Same H1 H' → TreeAt C H' x ps qs → Q .non H') : spTree K Ad2 Ad6 Ad9 Ad10 C (.ref x :: ([.ref a, .ref b] ++ [])) (upd (upd H1 dx (.own x)) x (.ins C dx [])) Q E := by
  have s0 : Same H1 (upd (upd H1 dx (.own x)) x (.ins C dx [])) := smM (sm0 hdx) hx
  exact ⟨x, dx, a, b, ps, qs, rfl, upd_same, ha.same s0, hb.same s0, fun _ H' hb' ht => k H' (fun c o e => hb' c o (ne_of_none e hx) (s0 _ _ e)) ht, fun y fs hbad => (no_bad ok hbad).elim⟩
section
variable {ps qs : List Int}
theorem par_not {i : Nat} (h : badPar ps qs i) (hl : qs.length = ps.length) {n : Nat} (ok : okTo ps qs n) : n ≤ i := by
  rcases Nat.lt_or_ge i n with c | c
  · obtain ⟨_, p, hp, hb⟩ := h
    have hi := (List.getElem?_eq_some_iff.mp hp).1
    obtain ⟨q, hq⟩ : ∃ q, qs[i]? = some q := ⟨_, List.getElem?_eq_getElem (by omega)⟩
    have := ok i p q c hp hq
    have h1 := this.1
    have h2 := this.2.1
    omega
  · exact c
theorem pri_not {i : Nat} (h : badPri ps qs i) {n : Nat} (ok : okTo ps qs n) : n ≤ i := by
  rcases Nat.lt_or_ge i n with c | c
  · obtain ⟨_, ⟨p, hp, _⟩, q, hq, hb⟩ := h
    have := (ok i p q c hp hq).2.2
    have h1 := this.1
    have h2 := this.2
    omega
  · exact c
theorem due_uniq {o o' : Option (List V)} (h : DueIs ps qs o) (h' : DueIs ps qs o') : o = o' := by
  cases h with
  | good ok => cases h' with
    | good => rfl
    | many h => have := ok.1; omega
    | width h h2 => exact absurd ok.2.1 h2
    | par h h2 i h3 => exact (no_bad ok (BadT.par (Ad2 := 0) (Ad6 := 0) (Ad9 := 0) (Ad10 := 0) h h2 i h3)).elim
    | pri h h2 i h3 => exact (no_bad ok (BadT.pri (Ad2 := 0) (Ad6 := 0) (Ad9 := 0) (Ad10 := 0) h h2 i h3)).elim
  | many g => cases h' with
    | good ok => have := ok.1; omega
    | many h => rfl
    | width h h2 => omega
    | par h h2 i h3 => omega
    | pri h h2 i h3 => omega
  | width g g2 => cases h' with
    | good ok => exact absurd ok.2.1 g2
    | many h => omega
    | width h h2 => rfl
    | par h h2 i h3 => exact absurd h2 g2
    | pri h h2 i h3 => exact absurd h2 g2
  | par g g2 j g3 => cases h' with
    | good ok => exact (no_bad ok (BadT.par (Ad2 := 0) (Ad6 := 0) (Ad9 := 0) (Ad10 := 0) g g2 j g3)).elim
    | many h => omega
    | width h h2 => exact absurd g2 h2
    | par h h2 i h3 =>
      have a1 := par_not g3 g2 h3.1
      have a2 := par_not h3 g2 g3.1
      obtain rfl : i = j := by omega
      rfl
    | pri h h2 i h3 =>
      have a1 := par_not g3 g2 h3.1
      have a2 := pri_not h3 g3.1
      obtain rfl : i = j := by omega
      obtain ⟨_, p, hp, hb⟩ := g3
      obtain ⟨_, ⟨p', hp', c1, c2⟩, _⟩ := h3
      rw [hp] at hp'
      cases hp'
      omega
  | pri g g2 j g3 => cases h' with
    | good ok => exact (no_bad ok (BadT.pri (Ad2 := 0) (Ad6 := 0) (Ad9 := 0) (Ad10 := 0) g g2 j g3)).elim
    | many h => omega
    | width h h2 => exact absurd g2 h2
    | par h h2 i h3 =>
      have a1 := par_not h3 g2 g3.1
      have a2 := pri_not g3 h3.1
      obtain rfl : i = j := by omega
      obtain ⟨_, p, hp, hb⟩ := h3
      obtain ⟨_, ⟨p', hp', c1, c2⟩, _⟩ := g3
      rw [hp] at hp'
      cases hp'
      omega
    | pri h h2 i h3 =>
      have a1 := pri_not g3 h3.1
      have a2 := pri_not h3 g3.1
      obtain rfl : i = j := by omega
      rfl
theorem due_row {H : Hp} {xs : List V} (h : DueIs ps qs (some xs)) : xs.length ≤ 3 ∧ ∀ x ∈ xs, Da H 0 x x := by
  have st : ∀ {s : Str}, SeqAt.shaped (.str s) = true → Da H 0 (.str s) (.str s) := fun h => .str 0 _ h
  cases h with
  | many => exact ⟨by simp, fun x hx => by
      rcases List.mem_cons.mp hx with rfl | hx
      · exact st (by decide +kernel)
      rcases List.mem_cons.mp hx with rfl | hx
      · exact st (by decide +kernel)
      rcases List.mem_cons.mp hx with rfl | hx
      · exact .int 0 _
      cases hx⟩
  | width => exact ⟨by simp, fun x hx => by
      rcases List.mem_cons.mp hx with rfl | hx
      · exact st (by decide +kernel)
      rcases List.mem_cons.mp hx with rfl | hx
      · exact .int 0 _
      rcases List.mem_cons.mp hx with rfl | hx
      · exact .int 0 _
      cases hx⟩
  | par => exact ⟨by simp, fun x hx => by
      rcases List.mem_cons.mp hx with rfl | hx
      · exact st (by decide +kernel)
      rcases List.mem_cons.mp hx with rfl | hx
      · exact .int 0 _
      cases hx⟩
  | pri => exact ⟨by simp, fun x hx => by
      rcases List.mem_cons.mp hx with rfl | hx
      · exact st (by decide +kernel)
      rcases List.mem_cons.mp hx with rfl | hx
      · exact .int 0 _
      cases hx⟩
theorem dueV.same {H H' : Hp} {q : Addr} (s : Same H H') : ∀ {o : Option (List V)}, dueV H q o → dueV H' q o
  | none, h => s _ _ h
  | some xs, ⟨r, h1, h2⟩ => ⟨r, s _ _ h1, s _ _ h2⟩
theorem due_da {H : Hp} {q q' : Addr} : ∀ {o : Option (List V)}, DueIs ps qs o → dueV H q o → dueV H q' o → Da H 2 (.ref q) (.ref q')
  | none, _, h1, h2 => da_map (F := fun x : V => x) (xs := []) h1 h2 (by decide) fun x hx => by cases hx
  | some xs, h, ⟨r, h1, h2⟩, ⟨r', h3, h4⟩ => da_one h1 h3 (da_map (F := fun x : V => x) (xs := xs) (by rw [List.map_id']; exact h2) (by rw [List.map_id']; exact h4) (by have := (due_row (H := H) h).1; omega) (due_row h).2)
end
/-! each node but the root is in one path, behind its top -/
def tails (ls : List (List Nat)) : List Nat := (ls.map List.tail).flatten
theorem tails_app (l k : List (List Nat)) : tails (l ++ k) = tails l ++ tails k := by unfold tails; rw [List.map_append, List.flatten_append]
section
variable {ps : List Int} {row : List (Option Nat)}
def nx (row : List (Option Nat)) (v u : Nat) : Bool := decide (row[u]? = some (some v))
theorem down_count (hrow : ∀ (v c : Nat), row[v]? = some (some c) → v < c ∧ c < row.length) (v : Nat) : ∀ (k s : Nat), s < row.length → row.length - s ≤ k →
    (down row k s).count v = (if s = v then 1 else 0) + (down row k s).countP (nx row v)
  | 0, s, h1, h2 => by omega
  | k + 1, s, h1, h2 => by
    cases e : row[s]? with
    | none => rw [List.getElem?_eq_none_iff] at e; omega
    | some o =>
      cases o with
      | none =>
        have ed : down row (k + 1) s = [s] := by
          show s :: (match row[s]? with | some (some c) => down row k c | _ => []) = _
          rw [e]
        have en : nx row v s = false := by unfold nx; rw [e]; simp
        rw [ed, List.count_cons, List.countP_cons, en]
        simp
      | some c =>
        have ed : down row (k + 1) s = s :: down row k c := by
          show s :: (match row[s]? with | some (some c) => down row k c | _ => []) = _
          rw [e]
        have hc := hrow s c e
        have ih := down_count hrow v k c hc.2 (by omega)
        have en : nx row v s = decide (c = v) := by unfold nx; rw [e]; simp
        rw [ed, List.count_cons, List.countP_cons, en, ih]
        by_cases c1 : c = v <;> by_cases c2 : s = v <;> simp [c1, c2] <;> omega
theorem down_mem (hrow : ∀ (v c : Nat), row[v]? = some (some c) → v < c ∧ c < row.length) {u : Nat} : ∀ (k s : Nat), s < row.length → u ∈ down row k s → s ≤ u ∧ u < row.length
  | 0, s, h1, h2 => by cases h2
  | k + 1, s, h1, h2 => by
    have h3 : u ∈ s :: (match row[s]? with | some (some c) => down row k c | _ => []) := h2
    rcases List.mem_cons.mp h3 with rfl | h3
    · exact ⟨Nat.le_refl _, h1⟩
    · cases e : row[s]? with
      | none => rw [e] at h3; cases h3
      | some o =>
        rw [e] at h3
        cases o with
        | none => cases h3
        | some c =>
          have hc := hrow s c e
          have := down_mem hrow k c hc.2 h3
          exact ⟨by omega, this.2⟩
def stt (ps : List Int) (row : List (Option Nat)) (m : Nat) : Bool := match ps[m]? with
  | some p => decide (p = 0 ∨ row[p.toNat]? ≠ some (some (m + 1)))
  | none => false
theorem tails_next (m : Nat) : tails (pathsTo ps row (m + 1)) = tails (pathsTo ps row m) ++ (if stt ps row m = true then down row (row.length - (m + 1)) (m + 1) else []) := by
  show tails (pathsTo ps row m ++ _) = _
  rw [tails_app]
  congr 1
  unfold stt
  cases e : ps[m]? with
  | none => rfl
  | some p =>
    show tails (if p = 0 ∨ row[p.toNat]? ≠ some (some (m + 1)) then _ else _) = if decide (p = 0 ∨ row[p.toNat]? ≠ some (some (m + 1))) = true then _ else _
    by_cases c : p = 0 ∨ row[p.toNat]? ≠ some (some (m + 1))
    · rw [if_pos c, if_pos (decide_eq_true c)]
      unfold tails
      simp
    · rw [if_neg c, if_neg (by simpa using c)]
      rfl
theorem tails_mem (hrow : ∀ (v c : Nat), row[v]? = some (some c) → v < c ∧ c < row.length) {u : Nat} : ∀ m, m < row.length → u ∈ tails (pathsTo ps row m) → 1 ≤ u ∧ u < row.length
  | 0, _, h => by cases h
  | m + 1, hm, h => by
    rw [tails_next, List.mem_append] at h
    rcases h with h | h
    · exact tails_mem hrow m (by omega) h
    · split at h
      · have := down_mem hrow _ _ hm h
        exact ⟨by omega, this.2⟩
      · cases h
theorem tails_count (hrow : ∀ (v c : Nat), row[v]? = some (some c) → v < c ∧ c < row.length) (v : Nat) (hv : 1 ≤ v) : ∀ m, m < row.length →
    (tails (pathsTo ps row m)).count v = (if v ≤ m ∧ stt ps row (v - 1) = true then 1 else 0) + (tails (pathsTo ps row m)).countP (nx row v)
  | 0, _ => by
    rw [if_neg (by omega)]
    rfl
  | m + 1, hm => by
    rw [tails_next, List.count_append, List.countP_append, tails_count hrow v hv m (by omega)]
    by_cases c : stt ps row m = true
    · rw [if_pos c, down_count hrow v _ (m + 1) hm (Nat.le_refl _)]
      by_cases e : m + 1 = v
      · subst e
        rw [if_neg (fun z : m + 1 ≤ m ∧ stt ps row (m + 1 - 1) = true => by omega), if_pos rfl, if_pos ⟨Nat.le_refl _, by rw [Nat.add_sub_cancel]; exact c⟩]
        omega
      · rw [if_neg e]
        by_cases c2 : v ≤ m ∧ stt ps row (v - 1) = true
        · rw [if_pos c2, if_pos ⟨by omega, c2.2⟩]; omega
        · rw [if_neg c2, if_neg (fun z => c2 ⟨by omega, z.2⟩)]; omega
    · rw [if_neg c]
      have : (v ≤ m + 1 ∧ stt ps row (v - 1) = true) ↔ (v ≤ m ∧ stt ps row (v - 1) = true) := by
        refine ⟨fun z => ⟨?_, z.2⟩, fun z => ⟨by omega, z.2⟩⟩
        by_cases e : v = m + 1
        · subst e; rw [Nat.add_sub_cancel] at z; exact absurd z.2 c
        · omega
      simp only [this, List.count_nil, List.countP_nil, Nat.add_zero]
theorem tails_once (hrow : ∀ (v c : Nat), row[v]? = some (some c) → v < c ∧ c < row.length) (hpar : ∀ (v c : Nat), row[v]? = some (some c) → ps[c - 1]? = some (v : Int)) (hl : row.length = ps.length + 1)
    (okp : ∀ (i : Nat) (p : Int), ps[i]? = some p → 0 ≤ p ∧ p ≤ i) (v : Nat) (h1 : 1 ≤ v) (h2 : v ≤ ps.length) : (tails (pathsTo ps row ps.length)).count v = 1 := by
  induction v using Nat.strongRecOn with
  | ind v ih =>
    rw [tails_count hrow v h1 ps.length (by omega)]
    obtain ⟨p, hp⟩ : ∃ p, ps[v - 1]? = some p := ⟨_, List.getElem?_eq_getElem (by omega)⟩
    have ok := okp _ _ hp
    obtain ⟨pn, rfl⟩ : ∃ pn : Nat, p = (pn : Int) := ⟨p.toNat, by omega⟩
    have es : stt ps row (v - 1) = decide ((pn : Int) = 0 ∨ row[pn]? ≠ some (some v)) := by
      unfold stt
      rw [hp, show v - 1 + 1 = v by omega]
      rfl
    have par : ∀ u, nx row v u = true → u = pn := fun u hu => by
      unfold nx at hu
      rw [decide_eq_true_eq] at hu
      have := hpar u v hu
      rw [hp] at this
      have := Option.some.inj this
      omega
    by_cases c : (pn : Int) = 0 ∨ row[pn]? ≠ some (some v)
    · rw [if_pos ⟨h2, by rw [es]; exact decide_eq_true c⟩]
      have z : (tails (pathsTo ps row ps.length)).countP (nx row v) = 0 := by
        rw [List.countP_eq_zero]
        intro u hu hx
        have e := par u hx
        have hm := tails_mem hrow _ (by omega) hu
        subst e
        rcases c with c | c
        · omega
        · unfold nx at hx
          rw [decide_eq_true_eq] at hx
          exact c hx
      rw [z]
    · rw [if_neg (fun z => by rw [es, decide_eq_true_eq] at z; exact c z.2)]
      have c1 : (pn : Int) ≠ 0 := fun z => c (.inl z)
      have c2 : row[pn]? = some (some v) := Classical.byContradiction fun z => c (.inr z)
      have e : (tails (pathsTo ps row ps.length)).countP (nx row v) = (tails (pathsTo ps row ps.length)).count pn := by
        unfold List.count
        apply List.countP_congr
        intro u _
        rw [beq_iff_eq]
        refine ⟨par u, fun z => ?_⟩
        subst z
        unfold nx
        exact decide_eq_true c2
      rw [e, ih pn (by omega) (by omega) (by omega)]
theorem tails_perm (hrow : ∀ (v c : Nat), row[v]? = some (some c) → v < c ∧ c < row.length) (hpar : ∀ (v c : Nat), row[v]? = some (some c) → ps[c - 1]? = some (v : Int)) (hl : row.length = ps.length + 1)
    (okp : ∀ (i : Nat) (p : Int), ps[i]? = some p → 0 ≤ p ∧ p ≤ i) : (tails (pathsTo ps row ps.length)).Perm (List.range' 1 ps.length) := by
  rw [List.perm_iff_count]
  intro v
  rw [List.count_range_1']
  split
  · exact tails_once hrow hpar hl okp v (by omega) (by omega)
  · rename_i h
    rw [List.count_eq_zero]
    intro hm
    have := tails_mem hrow _ (by omega) hm
    omega
end
theorem mainOf_par {ps qs f : List Int} (v : Nat) : ∀ m c, mainOf ps qs f v m = some c → ps[c - 1]? = some (v : Int)
  | 0, c, h => by cases h
  | m + 1, c, h => by
    have h' : (match mainOf ps qs f v m with | some c => some c | none => if hit ps qs f v m = true then some (m + 1) else none) = some c := h
    cases e : mainOf ps qs f v m with
    | some c' =>
      rw [e] at h'
      cases h'
      exact mainOf_par v m c e
    | none =>
      rw [e] at h'
      by_cases hh : hit ps qs f v m = true
      · have h2 : (if hit ps qs f v m = true then some (m + 1) else none) = some c := h'
        rw [if_pos hh] at h2
        cases h2
        unfold hit at hh
        rw [Bool.and_eq_true, decide_eq_true_eq] at hh
        exact hh.1
      · have h2 : (if hit ps qs f v m = true then some (m + 1) else none) = some c := h'
        rw [if_neg hh] at h2
        cases h2
theorem paths_perm {ps qs f : List Int} (ok : okT ps qs) : (tails (pathsTo ps (mainL ps qs f) ps.length)).Perm (List.range' 1 ps.length) := by
  have okp : ∀ (i : Nat) (p : Int), ps[i]? = some p → 0 ≤ p ∧ p ≤ i := fun i p hp => by
    obtain ⟨q, hq⟩ : ∃ q, qs[i]? = some q := ⟨_, List.getElem?_eq_getElem (by have := (List.getElem?_eq_some_iff.mp hp).1; have := ok.2.1; omega)⟩
    have := ok.2.2 i p q (List.getElem?_eq_some_iff.mp hp).1 hp hq
    exact ⟨this.1, this.2.1⟩
  have at_ : ∀ (v c : Nat), (mainL ps qs f)[v]? = some (some c) → mainOf ps qs f v ps.length = some c := fun v c h => by
    have hv : v < ps.length + 1 := by rw [← mainL_len ps qs f]; exact (List.getElem?_eq_some_iff.mp h).1
    rw [mainL_at hv] at h
    exact Option.some.inj h
  refine tails_perm (fun v c h => ?_) (fun v c h => mainOf_par v _ c (at_ v c h)) (mainL_len ps qs f) okp
  have := mainOf_up okp v _ c (at_ v c h)
  rw [mainL_len]
  omega
theorem paths_ne {ps : List Int} {row : List (Option Nat)} : ∀ m, ∀ l ∈ pathsTo ps row m, 0 < l.length ∧ l.length ≤ row.length + 1
  | 0, l, h => by cases h
  | m + 1, l, h => by
    have h' : l ∈ pathsTo ps row m ++ (match ps[m]? with
      | some p => if p = 0 ∨ row[p.toNat]? ≠ some (some (m + 1)) then [p.toNat :: down row (row.length - (m + 1)) (m + 1)] else []
      | none => []) := h
    rcases List.mem_append.mp h' with h2 | h2
    · exact paths_ne m l h2
    · split at h2
      · split at h2
        · rw [List.mem_singleton] at h2
          subst h2
          have := down_len row (row.length - (m + 1)) (m + 1)
          simp
          omega
        · cases h2
      · cases h2
end K13
set_option maxRecDepth 100000
set_option maxHeartbeats 4000000
namespace K13
open PySem PySem.Spec PyProof.Rows L2 SI
local macro_rules | `(tactic| walk_at "lk") => `(tactic| first | exact lk_hit | exact lk_nil | (refine lk_next (by decide +kernel) ?_; walk_at "lk"))
theorem ip_mulW {X : Cx} : PIp X .Mult (rI CMulW fun i j => .int (i * j)) := opI fun _ _ _ _ _ _ _ hc q => imul_int q hc.ok
/-! the two numbers of a tree's line -/
def pw (qs : List Int) (v : Nat) : Int := qs.getD (v - 1) 1
def ht (f : List Int) (v : Nat) : Int := f.getD v 1
def gn (qs f : List Int) (u : Nat) : Int := (pw qs u - 1) * ht f u
def rst (qs f : List Int) : Nat → Int
  | 0 => 0
  | i + 1 => rst qs f i + gn qs f (i + 1)
def LineIs (ps qs : List Int) (a b : Int) : Prop := ∃ f, IsH ps qs 0 f ∧ a = ht f 0 ∧ b = 1 - a + rst qs f ps.length
theorem line_uniq {ps qs : List Int} {a b a' b' : Int} (ok : okT ps qs) (h : LineIs ps qs a b) (h' : LineIs ps qs a' b') : a = a' ∧ b = b' := by
  obtain ⟨f, h1, h2, h3⟩ := h
  obtain ⟨g, h4, h5, h6⟩ := h'
  obtain rfl := isH_uniq ok.2.1 ok.2.2 h1 h4
  subst h2 h5
  exact ⟨rfl, by rw [h3, h6]⟩
theorem ht_of {f : List Int} {v : Nat} {x : Int} (h : f[v]? = some x) : ht f v = x := by unfold ht; rw [List.getD_eq_getElem?_getD, h]; rfl
theorem pw_of {qs : List Int} {v : Nat} {x : Int} (h : qs[v]? = some x) : pw qs (v + 1) = x := by unfold pw; rw [Nat.add_sub_cancel, List.getD_eq_getElem?_getD, h]; rfl
theorem IsH.bnd {ps qs f : List Int} (h : IsH ps qs 0 f) (v : Nat) : 1 ≤ ht f v ∧ ht f v ≤ 31 ^ (ps.length + 1) := by
  cases e : f[v]? with
  | some x =>
    rw [ht_of e]
    have := h.pos v x e
    exact ⟨this.1, Int.le_trans this.2 (pow31_le (by omega))⟩
  | none =>
    have : ht f v = 1 := by unfold ht; rw [List.getD_eq_getElem?_getD, e]; rfl
    rw [this]
    exact ⟨by decide, pow31 _⟩
theorem line_bnd {ps qs : List Int} {a b : Int} (ok : okT ps qs) (h : LineIs ps qs a b) : 1 ≤ a ∧ a ≤ 10 ^ 150 := by
  obtain ⟨f, h1, h2, h3⟩ := h
  have := h1.bnd 0
  rw [h2]
  have hl := ok.1
  have e1 : (31 : Int) ^ (ps.length + 1) ≤ 31 ^ 60 := pow31_le (by omega)
  have e2 : (31 : Int) ^ 60 ≤ 10 ^ 150 := by decide +kernel
  exact ⟨this.1, by omega⟩
def prodL (qs : List Int) : List Nat → Int
  | [] => 1
  | v :: r => pw qs v * prodL qs r
theorem prodL_snoc (qs : List Int) (v : Nat) : ∀ l, prodL qs (l ++ [v]) = prodL qs l * pw qs v
  | [] => by show pw qs v * 1 = 1 * pw qs v; omega
  | x :: l => by show pw qs x * prodL qs (l ++ [v]) = pw qs x * prodL qs l * pw qs v; rw [prodL_snoc qs v l, Int.mul_assoc]
theorem prodL_bnd {qs : List Int} : ∀ l : List Nat, (∀ u ∈ l, 1 ≤ pw qs u ∧ pw qs u ≤ 31) → 1 ≤ prodL qs l ∧ prodL qs l ≤ 31 ^ l.length
  | [], _ => ⟨Int.le_refl _, Int.le_refl _⟩
  | v :: l, h => by
    have ih := prodL_bnd l fun u hu => h u (List.mem_cons_of_mem _ hu)
    have hv := h v List.mem_cons_self
    show 1 ≤ pw qs v * prodL qs l ∧ pw qs v * prodL qs l ≤ 31 ^ (l.length + 1)
    have m1 : (1 : Int) * 1 ≤ pw qs v * prodL qs l := Int.mul_le_mul hv.1 ih.1 (by decide) (by omega)
    have m2 : pw qs v * prodL qs l ≤ 31 * 31 ^ l.length := Int.mul_le_mul hv.2 ih.2 (by omega) (by decide)
    rw [Int.pow_succ, Int.mul_comm (31 ^ l.length)]
    exact ⟨by omega, m2⟩
theorem pw_ok {ps qs : List Int} (ok : okT ps qs) {u : Nat} (h1 : 1 ≤ u) (h2 : u ≤ ps.length) : 2 ≤ pw qs u ∧ pw qs u ≤ 31 := by
  obtain ⟨p, hp⟩ : ∃ p, ps[u - 1]? = some p := ⟨_, List.getElem?_eq_getElem (by omega)⟩
  obtain ⟨q, hq⟩ : ∃ q, qs[u - 1]? = some q := ⟨_, List.getElem?_eq_getElem (by have := ok.2.1; omega)⟩
  have := (ok.2.2 (u - 1) p q (by omega) hp hq).2.2
  have e := pw_of hq
  rw [show u - 1 + 1 = u by omega] at e
  rw [e]
  exact this
section
variable {ps qs f : List Int}
theorem main_rest {v : Nat} : ∀ m c, mainOf ps qs f v m = some c → v < f.length → c ≤ qs.length → c < f.length → pw qs c * ht f c = ht f v
  | 0, c, h, _, _, _ => by cases h
  | m + 1, c, h, hv, hq, hc => by
    have h' : (match mainOf ps qs f v m with | some c => some c | none => if hit ps qs f v m = true then some (m + 1) else none) = some c := h
    cases e : mainOf ps qs f v m with
    | some c' =>
      rw [e] at h'
      cases h'
      exact main_rest m c e hv hq hc
    | none =>
      rw [e] at h'
      by_cases hh : hit ps qs f v m = true
      · have h2 : (if hit ps qs f v m = true then some (m + 1) else none) = some c := h'
        rw [if_pos hh] at h2
        cases h2
        unfold hit rests at hh
        rw [Bool.and_eq_true] at hh
        obtain ⟨q, hq'⟩ : ∃ q, qs[m]? = some q := ⟨_, List.getElem?_eq_getElem (by omega)⟩
        obtain ⟨x, hx⟩ : ∃ x, f[m + 1]? = some x := ⟨_, List.getElem?_eq_getElem hc⟩
        obtain ⟨y, hy⟩ : ∃ y, f[v]? = some y := ⟨_, List.getElem?_eq_getElem hv⟩
        have h3 := hh.2
        rw [hq', hx, hy] at h3
        rw [pw_of hq', ht_of hx, ht_of hy]
        exact of_decide_eq_true h3
      · have h2 : (if hit ps qs f v m = true then some (m + 1) else none) = some c := h'
        rw [if_neg hh] at h2
        cases h2
theorem main_none {v i : Nat} (hh : hit ps qs f v i = true) : ∀ m, i < m → mainOf ps qs f v m ≠ none
  | 0, h => by omega
  | m + 1, h => by
    show (match mainOf ps qs f v m with | some c => some c | none => if hit ps qs f v m = true then some (m + 1) else none) ≠ none
    by_cases c : i = m
    · subst c
      cases e : mainOf ps qs f v i with
      | some c => intro z; cases z
      | none => intro z; have z' : (if hit ps qs f v i = true then some (i + 1) else none) = none := z; rw [if_pos hh] at z'; cases z'
    · have := main_none hh m (by omega)
      cases e : mainOf ps qs f v m with
      | some c => intro z; cases z
      | none => exact absurd e this
theorem leaf_one (ok : okT ps qs) (hI : IsH ps qs 0 f) {v : Nat} (hv : v < ps.length + 1) (h : mainOf ps qs f v ps.length = none) : ht f v = 1 := by
  obtain ⟨y, hy⟩ : ∃ y, f[v]? = some y := ⟨_, List.getElem?_eq_getElem (by rw [hI.len]; exact hv)⟩
  rw [ht_of hy]
  rcases hI.att v y hy with h1 | ⟨i, q, x, _, hp, hq, hx, e⟩
  · exact h1
  · have hh : hit ps qs f v i = true := by
      unfold hit rests
      rw [hq, hx, hy, Bool.and_eq_true]
      exact ⟨decide_eq_true hp, decide_eq_true e.symm⟩
    exact absurd h (main_none hh _ (List.getElem?_eq_some_iff.mp hp).1)
theorem down_sum (ok : okT ps qs) (hI : IsH ps qs 0 f) : ∀ (k v : Nat), v < ps.length + 1 → ps.length + 1 - v ≤ k →
    prodL qs (down (mainL ps qs f) k v) = pw qs v * ht f v ∧ ((down (mainL ps qs f) k v).map (gn qs f)).sum = pw qs v * ht f v - 1
  | 0, v, h1, h2 => by omega
  | k + 1, v, h1, h2 => by
    have okp : ∀ (i : Nat) (p : Int), ps[i]? = some p → 0 ≤ p ∧ p ≤ i := fun i p hp => by
      obtain ⟨q, hq⟩ : ∃ q, qs[i]? = some q := ⟨_, List.getElem?_eq_getElem (by have := (List.getElem?_eq_some_iff.mp hp).1; have := ok.2.1; omega)⟩
      have := ok.2.2 i p q (List.getElem?_eq_some_iff.mp hp).1 hp hq
      exact ⟨this.1, this.2.1⟩
    have ed : down (mainL ps qs f) (k + 1) v = v :: (match (mainL ps qs f)[v]? with | some (some c) => down (mainL ps qs f) k c | _ => []) := rfl
    rw [mainL_at h1] at ed
    cases e : mainOf ps qs f v ps.length with
    | none =>
      rw [e] at ed
      have ed' : down (mainL ps qs f) (k + 1) v = [v] := ed
      rw [ed', leaf_one ok hI h1 e]
      refine ⟨rfl, ?_⟩
      show (pw qs v - 1) * ht f v + 0 = _
      rw [leaf_one ok hI h1 e]
      omega
    | some c =>
      rw [e] at ed
      have ed' : down (mainL ps qs f) (k + 1) v = v :: down (mainL ps qs f) k c := ed
      have hc := mainOf_up okp v _ c e
      obtain ⟨i1, i2⟩ := down_sum ok hI k c (by omega) (by omega)
      have er := main_rest _ c e (by rw [hI.len]; exact h1) (by have := ok.2.1; omega) (by rw [hI.len]; omega)
      rw [er] at i1 i2
      rw [ed']
      refine ⟨by show pw qs v * prodL qs _ = _; rw [i1], ?_⟩
      show (pw qs v - 1) * ht f v + ((down (mainL ps qs f) k c).map (gn qs f)).sum = _
      rw [i2, Int.sub_mul]
      omega
theorem sum_perm {l k : List Int} (h : l.Perm k) : l.sum = k.sum := by
  induction h with
  | nil => rfl
  | cons x _ ih => rw [List.sum_cons, List.sum_cons, ih]
  | swap x y l => rw [List.sum_cons, List.sum_cons, List.sum_cons, List.sum_cons]; omega
  | trans _ _ i j => exact i.trans j
/-- the sum over the paths -/
def pSum (qs : List Int) (ls : List (List Nat)) : Int := (ls.map fun l => prodL qs l.tail - 1).sum
theorem paths_is {row : List (Option Nat)} : ∀ m, ∀ l ∈ pathsTo ps row m, ∃ p s, l = p :: down row (row.length - s) s ∧ 1 ≤ s ∧ s ≤ m
  | 0, l, h => by cases h
  | m + 1, l, h => by
    have h' : l ∈ pathsTo ps row m ++ (match ps[m]? with
      | some p => if p = 0 ∨ row[p.toNat]? ≠ some (some (m + 1)) then [p.toNat :: down row (row.length - (m + 1)) (m + 1)] else []
      | none => []) := h
    rcases List.mem_append.mp h' with h2 | h2
    · obtain ⟨p, s, e, h3, h4⟩ := paths_is m l h2
      exact ⟨p, s, e, h3, by omega⟩
    · split at h2
      · split at h2
        · rw [List.mem_singleton] at h2
          exact ⟨_, m + 1, h2, by omega, by omega⟩
        · cases h2
      · cases h2
theorem pSum_tails {ls : List (List Nat)} (h : ∀ l ∈ ls, prodL qs l.tail - 1 = (l.tail.map (gn qs f)).sum) : pSum qs ls = ((tails ls).map (gn qs f)).sum := by
  induction ls with
  | nil => rfl
  | cons l ls ih =>
    have e : tails (l :: ls) = l.tail ++ tails ls := rfl
    rw [e, List.map_append, List.sum_append, ← ih fun l hl => h l (List.mem_cons_of_mem _ hl), ← h l List.mem_cons_self]
    rfl
theorem rst_range : ∀ n, ((List.range' 1 n).map (gn qs f)).sum = rst qs f n
  | 0 => rfl
  | n + 1 => by
    rw [List.range'_1_concat, List.map_append, List.sum_append, rst_range n, Nat.add_comm 1 n]
    show _ + (gn qs f (n + 1) + 0) = _
    rw [Int.add_zero]
    rfl
theorem pSum_is (ok : okT ps qs) (hI : IsH ps qs 0 f) : pSum qs (pathsTo ps (mainL ps qs f) ps.length) = rst qs f ps.length := by
  rw [← rst_range, ← sum_perm ((paths_perm ok).map (gn qs f))]
  refine pSum_tails fun l hl => ?_
  obtain ⟨p, s, rfl, h1, h2⟩ := paths_is _ l hl
  obtain ⟨i1, i2⟩ := down_sum ok hI (ps.length + 1 - s) s (by omega) (Nat.le_refl _)
  rw [mainL_len]
  show prodL qs (down (mainL ps qs f) (ps.length + 1 - s) s) - 1 = ((down (mainL ps qs f) (ps.length + 1 - s) s).map (gn qs f)).sum
  rw [i1, i2]
theorem paths_in (ok : okT ps qs) : ∀ l ∈ pathsTo ps (mainL ps qs f) ps.length, 0 < l.length ∧ l.length ≤ 100 ∧ ∀ u ∈ l.tail, 1 ≤ u ∧ u ≤ ps.length := by
  intro l hl
  have hn := paths_ne (ps := ps) (row := mainL ps qs f) ps.length l hl
  have hlen := mainL_len ps qs f
  refine ⟨hn.1, by have := ok.1; omega, fun u hu => ?_⟩
  have hm : u ∈ tails (pathsTo ps (mainL ps qs f) ps.length) := by
    unfold tails
    exact List.mem_flatten.mpr ⟨l.tail, List.mem_map.mpr ⟨l, hl, rfl⟩, hu⟩
  have := ((paths_perm (f := f) ok).mem_iff).mp hm
  rw [List.mem_range'_1] at this
  omega
end
theorem cut_tail {l : List Nat} (h : 0 < l.length) : cutV (l.map fun i => V.int (i : Nat)) (some 1) none = l.tail.map fun i => V.int (i : Nat) := by
  unfold cutV
  have e : HT.sIx (l.map fun i => V.int (i : Nat)).length 0 (some 1) = 1 := (HT.sIx_nat _ 0 1).trans (by rw [List.length_map]; omega)
  rw [e, HT.sIx_none, List.take_of_length_le (by rw [List.length_drop]; omega), ← List.map_drop, List.drop_one]
def spPProd (C : Addr) : Sp := fun vs H Q _ => ∃ (t r : Addr) (ps qs : List Int) (l : List Nat), vs = [.ref t, .ref r] ∧ TreeAt C H t ps qs ∧ okT ps qs ∧ H r = some (.tup (l.map fun i => V.int (i : Nat))) ∧ 0 < l.length ∧ l.length ≤ 100 ∧ (∀ u ∈ l.tail, 1 ≤ u ∧ u ≤ ps.length) ∧
  ∀ H', Same H H' → Q (.int (prodL qs l.tail)) H'
def spLine (C : Addr) : Sp := fun vs H Q _ => ∃ (t : Addr) (ps qs : List Int), vs = [.ref t] ∧ TreeAt C H t ps qs ∧ okT ps qs ∧ ∀ a b q H', Same H H' → LineIs ps qs a b → H' q = some (.tup [.int a, .int b]) → Q (.ref q) H'
def spWanted (C2 : Addr) : Sp := fun vs H Q E => ∃ n : Int, vs = [.int n] ∧ (1 ≤ n → n ≤ 1000000 → Q .non H) ∧ ((n < 1 ∨ 1000000 < n) → ∀ d, H d = none → E (.ref C2) (some d) (upd H d (.xd [("many", .int n), ("what", .str "many")])))
def spEnough (C2 C : Addr) : Sp := fun vs H Q E => ∃ (t : Addr) (n : Int) (ps qs : List Int), vs = [.ref t, .int n] ∧ TreeAt C H t ps qs ∧ okT ps qs ∧ (1 ≤ n → n ≤ 1000000 → ∀ a b H', Same H H' → LineIs ps qs a b → Q (.int (a * n + b)) H') ∧
  ((n < 1 ∨ 1000000 < n) → ∀ d, H d = none → E (.ref C2) (some d) (upd H d (.xd [("many", .int n), ("what", .str "many")])))
section
variable {P : Program} {w : World} {K : PySem.W.Frag} {mg : Str → Option Value} {base : Heap} {Ad1 Ad2 Ad4 Ad6 Ad9 Ad10 Ad11 : Addr}
theorem scPathProduct : FnScope ["tree", "path", "product", "node"] ["tree", "path"] (defScope sPathProduct) := ⟨rfl, rfl, rfl, by decide +kernel, rfl, by decide +kernel, by decide +kernel⟩
theorem ok_PathProduct (T : Txt P w K mg base Ad1 Ad2 Ad4 Ad6 Ad9 Ad10 Ad11) : Cl P w K mg base 1 "path_product" (spPProd Ad11) [] := by
  refine cl_of T.d_path_product scPathProduct (fun vs H Q E h => ?_) fun f cdv A outer s H vs Q E hr h => ?_
  · obtain ⟨t, r, ps, qs, l, rfl, _⟩ := h
    rfl
  · obtain ⟨t, r, ps, qs, l, rfl, hT, ok, hr1, hl1, hl2, hin, k⟩ := h
    refine ⟨_, (pss_cons (ps_set (i := 2) scPathProduct.nd rfl (by first | exact Or.inl rfl | exact Or.inr rfl) pe_int)
  (pss_cons (ps_for (passes_of rfl) rfl (pi_tup (pe_slice sl_tupA (pv 1) (po_some pe_int) po_none)) (pg_name (i := 3) scPathProduct.nd rfl (by first | exact Or.inl rfl | exact Or.inr rfl))
    (pss_one (ps_aug (i := 2) scPathProduct.nd rfl (by first | exact Or.inl rfl | exact Or.inr rfl) (pe_ix ix_tup (pe_fld (pv 0) rfl) (pe_op op_sub (pv 3) pe_int) (fun _ _ => rfl)) ip_mulW)))
  (pss_one (ps_ret (pv 2))))), ?_⟩
    have hpw : ∀ u ∈ l.tail, 1 ≤ pw qs u ∧ pw qs u ≤ 31 := fun u hu => by have := pw_ok ok (hin u hu).1 (hin u hu).2; omega
    refine ⟨_, rfl, _, rfl, r, _, rfl, SqT.of hr1, (fun z => absurd z.1 ?_), fun _ p hp1 => ?_⟩
    · rw [show HT.sIx (l.map fun i => V.int (i : Nat)).length 0 (some 1) = 1 from (HT.sIx_nat _ 0 1).trans (by rw [List.length_map]; omega)]
      decide
    rw [cut_tail hl1]
    have s1 := sm0 (o := .tup (l.tail.map fun i => V.int (i : Nat))) hp1
    refine ⟨p, rfl, ⟨_, SqT.of upd_same⟩, for_tup (K := K) (a := p) (xs := l.tail.map fun i => V.int (i : Nat)) (fun i σ H' => ∃ v3 : Option V, σ = [some (.ref t), some (.ref r), some (.int (prodL qs (l.tail.take i))), v3] ∧ H' = upd H p (.tup (l.tail.map fun i => V.int (i : Nat))))
      ⟨none, rfl, rfl⟩ (fun i σ H' _ h => by obtain ⟨_, _, rfl⟩ := h; exact SqT.of upd_same) (fun i x σ H' hx h => ?_) fun σ H' h => ?_⟩
    · obtain ⟨v3, rfl, rfl⟩ := h
      rw [List.getElem?_map] at hx
      obtain ⟨u, hu⟩ : ∃ u, l.tail[i]? = some u := by cases e : l.tail[i]? with | none => rw [e] at hx; cases hx | some u => exact ⟨u, rfl⟩
      rw [hu] at hx
      cases hx
      have hum := List.mem_of_getElem? hu
      have hu1 := hin u hum
      obtain ⟨dx, t1, t2, ht, h1, h2⟩ := hT.same s1
      have l3 : (treeF (ps.length + 1) t1 t2).lookup ("prices" : Str) = some (V.ref t2) := by walk_at "lk"
      obtain ⟨q, hq⟩ : ∃ q, qs[u - 1]? = some q := ⟨_, List.getElem?_eq_getElem (by have := ok.2.1; omega)⟩
      have eq := pw_of hq
      rw [show u - 1 + 1 = u by omega] at eq
      have hb := prodL_bnd (qs := qs) (l.tail.take i) fun v hv => hpw v (List.mem_of_mem_take hv)
      have hb2 : prodL qs (l.tail.take i) ≤ 10 ^ 200 := by
        have e1 : (31 : Int) ^ (l.tail.take i).length ≤ 31 ^ 100 := pow31_le (by rw [List.length_take, List.length_tail]; omega)
        have e2 : (31 : Int) ^ 100 ≤ 10 ^ 200 := by decide +kernel
        omega
      have hqb := hpw u hum
      rw [eq] at hqb
      refine ⟨_, rfl, _, rfl, t, Ad11, dx, _, _, rfl, ht, T.lTree, T.nTree_prices, l3, _, rfl, _, _, rfl, rfl, t2, _, _, _, rfl, rfl, SqT.of h2, at_of (j := u - 1) (by omega) (at_ints hq), ?_⟩
      refine ⟨_, _, rfl, rfl, cmul_small (abs_small (by omega) hb2) (abs_small (by omega) (by omega)), ?_⟩
      refine ⟨some (.int (u : Nat)), ?_, rfl⟩
      rw [List.take_succ, hu, Option.toList_some, prodL_snoc, eq]
      rfl
    · obtain ⟨v3, rfl, rfl⟩ := h
      rw [List.length_map, List.take_length]
      exact ⟨_, rfl, k _ s1⟩
theorem scLine : FnScope ["tree", "slope", "start", "path"] ["tree"] (defScope sLine) := ⟨rfl, rfl, rfl, by decide +kernel, rfl, by decide +kernel, by decide +kernel⟩
theorem ok_Line (T : Txt P w K mg base Ad1 Ad2 Ad4 Ad6 Ad9 Ad10 Ad11) : Cl P w K mg base 4 "line" (spLine Ad11) [] := by
  have c_Heights := (ok_Heights T).cl
  have c_Paths := (ok_Paths T).cl
  have c_PathProduct := ok_PathProduct T
  refine cl_of T.d_line scLine (fun vs H Q E h => ?_) fun f cdv A outer s H vs Q E hr h => ?_
  · obtain ⟨t, ps, qs, rfl, _⟩ := h
    rfl
  · obtain ⟨t, ps, qs, rfl, hT, ok, k⟩ := h
    refine ⟨_, (pss_cons (ps_set (i := 1) scLine.nd rfl (by first | exact Or.inl rfl | exact Or.inr rfl) (pe_ix ix_tup (pe_c c_Heights hr (by decide) rfl (pa_cons (pv 0) pa_nil)) pe_int (fun _ _ => rfl)))
  (pss_cons (ps_set (i := 2) scLine.nd rfl (by first | exact Or.inl rfl | exact Or.inr rfl) (pe_op op_sub pe_int (pv 1)))
  (pss_cons (ps_for (passes_of rfl) rfl (pi_tup (pe_c c_Paths hr (by decide) rfl (pa_cons (pv 0) pa_nil))) (pg_name (i := 3) scLine.nd rfl (by first | exact Or.inl rfl | exact Or.inr rfl))
    (pss_one (ps_aug (i := 2) scLine.nd rfl (by first | exact Or.inl rfl | exact Or.inr rfl) (pe_op op_sub (pe_c c_PathProduct hr (by decide) rfl (pa_cons (pv 0) (pa_cons (pv 3) pa_nil))) pe_int) ip_add)))
  (pss_one (ps_ret (pe_tup (pa_cons (pv 1) (pa_cons (pv 2) pa_nil)))))))), ?_⟩
    refine ⟨_, rfl, t, ps, qs, rfl, hT, ok, fun q H1 f s1 hI hq => ?_⟩
    obtain ⟨a, ha⟩ : ∃ a, f[0]? = some a := ⟨_, List.getElem?_eq_getElem (by rw [hI.len]; omega)⟩
    refine ⟨q, _, _, _, rfl, rfl, SqT.of hq, at_of (j := 0) rfl (at_ints ha), ?_⟩
    refine ⟨_, rfl, _, _, rfl, rfl, ?_⟩
    refine ⟨_, rfl, t, ps, qs, rfl, hT.same s1, ok, fun rq H2 f2 xs s2 hI2 hrq hTu => ?_⟩
    obtain rfl := isH_uniq ok.2.1 ok.2.2 hI hI2
    have hin := paths_in (f := f) ok
    refine ⟨rq, rfl, ⟨xs, SqT.of hrq⟩, for_tup (K := K) (a := rq) (xs := xs) (fun i σ H' => ∃ v3 : Option V, σ = [some (.ref t), some (.int a), some (.int (1 - a + pSum qs ((pathsTo ps (mainL ps qs f) ps.length).take i))), v3] ∧ Same H2 H')
      ⟨none, by show _ = [some (V.ref t), some (V.int a), some (V.int (1 - a + 0)), none]; rw [Int.add_zero]; rfl, Same.refl H2⟩ (fun i σ H' _ h => by obtain ⟨_, _, sh⟩ := h; exact SqT.of (sh _ _ hrq)) (fun i x σ H' hx h => ?_) fun σ H' h => ?_⟩
    · obtain ⟨v3, rfl, sh⟩ := h
      obtain ⟨l, hli⟩ : ∃ l, (pathsTo ps (mainL ps qs f) ps.length)[i]? = some l := ⟨_, List.getElem?_eq_getElem (by rw [← hTu.1]; exact (List.getElem?_eq_some_iff.mp hx).1)⟩
      obtain ⟨r, rfl, hr1⟩ := hTu.2 i x l hx hli
      have hl := hin l (List.mem_of_getElem? hli)
      refine ⟨_, rfl, _, rfl, _, rfl, t, r, ps, qs, l, rfl, hT.same ((s1.trans s2).trans sh), ok, sh _ _ hr1, hl.1, hl.2.1, hl.2.2, fun H3 s3 => ?_⟩
      refine ⟨_, _, rfl, rfl, _, _, rfl, rfl, ?_⟩
      refine ⟨some (.ref r), ?_, sh.trans s3⟩
      rw [List.take_succ, hli, Option.toList_some]
      have e : pSum qs (List.take i (pathsTo ps (mainL ps qs f) ps.length) ++ [l]) = pSum qs (List.take i (pathsTo ps (mainL ps qs f) ps.length)) + (prodL qs l.tail - 1) := by
        unfold pSum
        rw [List.map_append, List.sum_append]
        show _ + ((prodL qs l.tail - 1) + 0) = _
        rw [Int.add_zero]
      rw [e, ← Int.add_assoc]
      rfl
    · obtain ⟨v3, rfl, sh⟩ := h
      rw [hTu.1, List.take_length, pSum_is ok hI]
      refine ⟨_, rfl, _, rfl, by show 2 ≤ sizeLine; decide, fun z hz => ?_⟩
      exact k a _ z _ (smN ((s1.trans s2).trans sh) hz) ⟨f, hI, (ht_of ha).symm, rfl⟩ upd_same
theorem scCheckWanted : FnScope ["many"] ["many"] (defScope sCheckWanted) := ⟨rfl, rfl, rfl, by decide +kernel, rfl, by decide +kernel, by decide +kernel⟩
theorem ok_CheckWanted (T : Txt P w K mg base Ad1 Ad2 Ad4 Ad6 Ad9 Ad10 Ad11) : Cl P w K mg base 3 "check_wanted" (spWanted Ad2) [] := by
  refine cl_of T.d_check_wanted scCheckWanted (fun vs H Q E h => ?_) fun f cdv A outer s H vs Q E hr h => ?_
  · obtain ⟨n, rfl, _⟩ := h
    rfl
  · obtain ⟨n, rfl, k1, k2⟩ := h
    refine ⟨_, (pss_one (ps_if (PW.pt (pw_or (pt_cmpR op_lt (pv 0) pe_int (nomark _)) (pw_or1 (pt_cmpR op_gt (pv 0) (pe_const rfl T.c_MOST_MANY) (nomark _)))))
    (pss_one (ps_raise rfl (takes_of rfl rfl rfl rfl) (pmk_rs T.rBadCount hr (by decide) rfl (pa_cons pe_str (pa_cons (pv 0) pa_nil)))))
    pss_nil)), ?_⟩
    refine ⟨_, rfl, _, _, rfl, rfl, _, rfl, ifD (fun c => ?_) fun c => ?_⟩
    · exact ⟨_, rfl, _, ⟨_, _, rfl, ⟨_, rfl, by decide +kernel⟩, rfl⟩, fun d hd => k2 (.inl c) d hd⟩
    refine ⟨_, rfl, _, _, rfl, rfl, _, rfl, ifD (fun c2 => ?_) fun c2 => ?_⟩
    · exact ⟨_, rfl, _, ⟨_, _, rfl, ⟨_, rfl, by decide +kernel⟩, rfl⟩, fun d hd => k2 (.inr c2) d hd⟩
    · exact k1 (by omega) (by omega)
theorem scTreeEnough : FnScope ["tree", "many", "slope", "start"] ["tree", "many"] (defScope sTreeEnough) := ⟨rfl, rfl, rfl, by decide +kernel, rfl, by decide +kernel, by decide +kernel⟩
theorem ok_TreeEnough (T : Txt P w K mg base Ad1 Ad2 Ad4 Ad6 Ad9 Ad10 Ad11) : CdD P w K mg base 5 "tree_enough" sTreeEnough ["tree", "many"] (spEnough Ad2 Ad11) [.int 1] := by
  have c_CheckWanted := ok_CheckWanted T
  have c_Line := ok_Line T
  refine cdd_of T.d_tree_enough scTreeEnough (fun vs H Q E h => ?_) fun f cdv A outer s H vs Q E hr h => ?_
  · obtain ⟨t, n, ps, qs, rfl, _⟩ := h
    rfl
  · obtain ⟨t, n, ps, qs, rfl, hT, ok, k1, k2⟩ := h
    refine ⟨_, (pss_cons (ps_expr (pe_cX (takes_of rfl rfl rfl rfl) c_CheckWanted hr (by decide) rfl (pa_cons (pv 1) pa_nil)))
  (pss_cons (ps_asg (pe_c c_Line hr (by decide) rfl (pa_cons (pv 0) pa_nil)) (pg_tup rfl (pgs_cons (pg_name (i := 2) scTreeEnough.nd rfl (by first | exact Or.inl rfl | exact Or.inr rfl)) (pgs_cons (pg_name (i := 3) scTreeEnough.nd rfl (by first | exact Or.inl rfl | exact Or.inr rfl)) pgs_nil))))
  (pss_one (ps_ret (pe_op op_add (pe_op op_mulW (pv 2) (pv 1)) (pv 3)))))), ?_⟩
    refine ⟨_, rfl, n, rfl, fun c1 c2 => ?_, fun c d hd => k2 c d hd⟩
    refine ⟨_, rfl, t, ps, qs, rfl, hT, ok, fun a b q H1 s1 hL hq => ?_⟩
    have hb := line_bnd ok hL
    refine ⟨q, _, rfl, SqT.of hq, rfl, _, _, rfl, _, _, rfl, rfl, ?_⟩
    refine ⟨_, rfl, _, rfl, _, _, rfl, rfl, cmul_small (abs_small (by omega) (by omega)) (abs_small (by omega) (by omega)), _, rfl, _, _, rfl, rfl, ?_⟩
    exact k1 c1 c2 a b H1 s1 hL
end
end K13
set_option maxRecDepth 100000
set_option maxHeartbeats 4000000
namespace K13
open PySem PySem.Spec PyProof.Rows L2 SI
local macro_rules | `(tactic| walk_at "lk") => `(tactic| first | exact lk_hit | exact lk_nil | (refine lk_next (by decide +kernel) ?_; walk_at "lk"))
def tMonoE (t : TE) : TE := fun σ H Q => ∃ Q' : VK, t σ H Q' ∧ ∀ v H1, Q' v H1 → Q v H1
theorem pe_mono {X : Cx} {e : Expr} {t : TE} (h : PE X e t) : PE X e (tMonoE t) := ⟨fun pins s σ H Q I ⟨Q', q, m⟩ => thn (h.run pins s σ H Q' I q) fun u s1 ⟨v, H1, I1, r1, q1⟩ => ⟨v, H1, I1, r1, m v H1 q1⟩⟩
/-- two rows of ints, one behind the other -/
@[irreducible] def rCatR (K : PySem.W.Frag) : R2 := fun x y H Q => ∃ (a b : Addr) (xs ys : List Int), x = .ref a ∧ y = .ref b ∧ H a = some (.tup (xs.map V.int)) ∧ H b = some (.tup (ys.map V.int)) ∧ xs.length + ys.length ≤ 100000 ∧
  ∀ q H', Same H H' → H' q = some (.tup ((xs ++ ys).map V.int)) → Q (.ref q) H'
theorem op_catR {X : Cx} : OpR X (binaryOp .Add) (rCatR X.K) := by
  intro pins s σ H x y v u Q I rx ry h
  unfold rCatR at h
  obtain ⟨a, b, xs, ys, rfl, rfl, ha, hb, hz, k⟩ := h
  refine op_catA pins s σ H _ _ v u Q I rx ry ⟨a, b, _, _, rfl, rfl, SqT.of ha, SqT.of hb, sz_small (by rw [List.length_map, List.length_map]; exact hz), fun e => ?_, fun _ e => ?_, fun _ _ p hp => ?_⟩
  · obtain rfl := List.map_eq_nil_iff.mp e
    exact k b H (Same.refl H) hb
  · obtain rfl := List.map_eq_nil_iff.mp e
    rw [List.append_nil] at k
    exact k a H (Same.refl H) ha
  · exact k p _ (sm0 hp) (by rw [upd_same, List.map_append])
theorem cat_of {K : PySem.W.Frag} {H : Hp} {a b : Addr} {xs ys : List Int} {Q : VK} (ha : H a = some (.tup (xs.map V.int))) (hb : H b = some (.tup (ys.map V.int))) (hz : xs.length + ys.length ≤ 100000)
    (k : ∀ q H', Same H H' → H' q = some (.tup ((xs ++ ys).map V.int)) → Q (.ref q) H') : rCatR K (.ref a) (.ref b) H Q := by
  unfold rCatR
  exact ⟨a, b, xs, ys, rfl, rfl, ha, hb, hz, k⟩
/-! the rows of the grown trees -/
def pathP (n : Nat) : List Int := (List.range n).map fun i : Nat => (i : Int)
def starP (n : Nat) : List Int := List.replicate n 0
def stemP (ps : List Int) : List Int := 0 :: ps.map (· + 1)
def gl (n : Nat) (p : Int) : Int := if p = 0 then 0 else n + p
def glueP (ps ps' : List Int) : List Int := ps ++ ps'.map (gl ps.length)
def parOk (A : List Int) : Prop := ∀ (i : Nat) p, A[i]? = some p → 0 ≤ p ∧ p ≤ i
theorem okT.par {ps qs : List Int} (ok : okT ps qs) : parOk ps := fun i p hp => by
  obtain ⟨q, hq⟩ : ∃ q, qs[i]? = some q := ⟨_, List.getElem?_eq_getElem (by have := (List.getElem?_eq_some_iff.mp hp).1; have := ok.2.1; omega)⟩
  have := ok.2.2 i p q (List.getElem?_eq_some_iff.mp hp).1 hp hq
  exact ⟨this.1, this.2.1⟩
theorem par_path (n : Nat) : parOk (pathP n) := fun i p hp => by
  unfold pathP at hp
  rw [List.getElem?_map] at hp
  have hi : i < n := by
    rcases Nat.lt_or_ge i n with h | h
    · exact h
    · rw [List.getElem?_eq_none (by rw [List.length_range]; exact h)] at hp; cases hp
  rw [List.getElem?_range hi] at hp
  have e : ((i : Nat) : Int) = p := Option.some.inj hp
  omega
theorem par_star (n : Nat) : parOk (starP n) := fun i p hp => by
  unfold starP at hp
  rw [List.getElem?_replicate] at hp
  split at hp <;> cases hp
  omega
theorem par_stem {ps : List Int} (h : parOk ps) : parOk (stemP ps) := fun i p hp => by
  cases i with
  | zero => cases hp; omega
  | succ i =>
    have hp' : (ps.map (· + 1))[i]? = some p := hp
    rw [List.getElem?_map] at hp'
    cases e : ps[i]? with
    | none => rw [e] at hp'; cases hp'
    | some x => rw [e] at hp'; have e2 : x + 1 = p := Option.some.inj hp'; have := h i x e; omega
theorem par_hung {ps : List Int} (h : parOk ps) {v : Int} (h0 : 0 ≤ v) (h1 : v ≤ ps.length) : parOk (ps ++ [v]) := fun i p hp => by
  rcases Nat.lt_or_ge i ps.length with c | c
  · rw [List.getElem?_append_left c] at hp; exact h i p hp
  · rw [List.getElem?_append_right c] at hp
    cases e : i - ps.length with
    | zero => rw [e] at hp; cases hp; omega
    | succ j => rw [e] at hp; simp at hp
theorem par_glue {ps ps' : List Int} (h : parOk ps) (h' : parOk ps') : parOk (glueP ps ps') := fun i p hp => by
  unfold glueP at hp
  rcases Nat.lt_or_ge i ps.length with c | c
  · rw [List.getElem?_append_left c] at hp; exact h i p hp
  · rw [List.getElem?_append_right c, List.getElem?_map] at hp
    cases e : ps'[i - ps.length]? with
    | none => rw [e] at hp; cases hp
    | some x =>
      rw [e] at hp
      cases hp
      have := h' _ x e
      unfold gl
      split <;> omega
theorem len_path (n : Nat) : (pathP n).length = n := by unfold pathP; simp
theorem len_star (n : Nat) : (starP n).length = n := by unfold starP; simp
theorem len_stem (ps : List Int) : (stemP ps).length = ps.length + 1 := by unfold stemP; simp
theorem len_glue (ps ps' : List Int) : (glueP ps ps').length = ps.length + ps'.length := by unfold glueP; simp
/-- what Tree(A, B) gives -/
structure MkOut (Ad2 Ad6 Ad9 Ad10 C : Addr) (A B : List Int) (H : Hp) (Q : VK) (E : XK) : Prop where
  good : okT A B → ∀ x H', Same H H' → H x = none → TreeAt C H' x A B → Q (.ref x) H'
  bad : ∀ y fs, BadT Ad2 Ad6 Ad9 Ad10 A B y fs → ∀ d H', Same H H' → H' d = none → E (.ref y) (some d) (upd H' d (.xd fs))
theorem mk_out {K : PySem.W.Frag} {Ad2 Ad6 Ad9 Ad10 C : Addr} {H H1 : Hp} {a b x dx : Addr} {A B : List Int} {Q : VK} {E : XK} (s : Same H H1) (hx : H1 x = none) (hdx : H1 dx = none) (ha : RowR K H1 a A) (hb : RowR K H1 b B) (m : MkOut Ad2 Ad6 Ad9 Ad10 C A B H Q E) :
    spTree K Ad2 Ad6 Ad9 Ad10 C (.ref x :: ([.ref a, .ref b] ++ [])) (upd (upd H1 dx (.own x)) x (.ins C dx [])) (fun v H2 => v = .non ∧ Q (.ref x) H2) E := by
  have s0 : Same H1 (upd (upd H1 dx (.own x)) x (.ins C dx [])) := smM (sm0 hdx) hx
  exact ⟨x, dx, a, b, A, B, rfl, upd_same, ha.same s0, hb.same s0, fun ok H' hb' ht => ⟨rfl, m.good ok x H' (fun c o e => hb' c o (ne_of_none (s _ _ e) hx) (s0 _ _ (s _ _ e))) (s.free hx) ht⟩, fun y fs hbad d H' s' hd => m.bad y fs hbad d H' ((s.trans s0).trans s') hd⟩
def spPathT (K : PySem.W.Frag) (Ad2 Ad6 Ad9 Ad10 C : Addr) : Sp := fun vs H Q E => ∃ (b : Addr) (qs : List Int), vs = [.ref b] ∧ RowR K H b qs ∧ qs.length ≤ 1000 ∧ MkOut Ad2 Ad6 Ad9 Ad10 C (pathP qs.length) qs H Q E
def spStarT (K : PySem.W.Frag) (Ad2 Ad6 Ad9 Ad10 C : Addr) : Sp := fun vs H Q E => ∃ (b : Addr) (qs : List Int), vs = [.ref b] ∧ RowR K H b qs ∧ qs.length ≤ 1000 ∧ MkOut Ad2 Ad6 Ad9 Ad10 C (starP qs.length) qs H Q E
def spStem (Ad2 Ad6 Ad9 Ad10 C : Addr) : Sp := fun vs H Q E => ∃ (t : Addr) (z : Int) (ps qs : List Int), vs = [.ref t, .int z] ∧ TreeAt C H t ps qs ∧ okT ps qs ∧ MkOut Ad2 Ad6 Ad9 Ad10 C (stemP ps) (z :: qs) H Q E
def spHung (Ad2 Ad4 Ad6 Ad9 Ad10 C : Addr) : Sp := fun vs H Q E => ∃ (t : Addr) (v z : Int) (ps qs : List Int), vs = [.ref t, .int v, .int z] ∧ TreeAt C H t ps qs ∧ okT ps qs ∧ (0 ≤ v → v ≤ ps.length → MkOut Ad2 Ad6 Ad9 Ad10 C (ps ++ [v]) (qs ++ [z]) H Q E) ∧
  ((v < 0 ∨ (ps.length : Int) + 1 ≤ v) → ∀ d, H d = none → E (.ref Ad4) (some d) (upd H d (.xd [("node", .int v)])))
def spGlue (Ad2 Ad6 Ad9 Ad10 C : Addr) : Sp := fun vs H Q E => ∃ (t t' : Addr) (ps qs ps' qs' : List Int), vs = [.ref t, .ref t'] ∧ TreeAt C H t ps qs ∧ okT ps qs ∧ TreeAt C H t' ps' qs' ∧ okT ps' qs' ∧ MkOut Ad2 Ad6 Ad9 Ad10 C (glueP ps ps') (qs ++ qs') H Q E
theorem RowR.len {K : PySem.W.Frag} {H : Hp} {a : Addr} {ps : List Int} : RowR K H a ps → SqL K H a (ps.map V.int) ∨ SqT K H a (ps.map V.int)
  | .inl h => .inl h
  | .inr h => .inr (SqT.of h)
section
variable {P : Program} {w : World} {K : PySem.W.Frag} {mg : Str → Option Value} {base : Heap} {Ad1 Ad2 Ad4 Ad6 Ad9 Ad10 Ad11 : Addr}
theorem scPathTree : FnScope ["prices"] ["prices"] (defScope sPathTree) := ⟨rfl, rfl, rfl, by decide +kernel, rfl, by decide +kernel, by decide +kernel⟩
theorem ok_PathTree (T : Txt P w K mg base Ad1 Ad2 Ad4 Ad6 Ad9 Ad10 Ad11) : Cd P w K mg base 6 "path_tree" sPathTree ["prices"] (spPathT K Ad2 Ad6 Ad9 Ad10 Ad11) := by
  have k_Tree := (ok_Tree T).mkr
  refine cd_of T.d_path_tree scPathTree (fun vs H Q E h => ?_) fun f cdv A outer s H vs Q E hr h => ?_
  · obtain ⟨b, qs, rfl, _⟩ := h
    rfl
  · obtain ⟨b, qs, rfl, hb, hl, m⟩ := h
    refine ⟨_, (pss_one (ps_ret (pe_mkX (takes_of rfl rfl rfl rfl) k_Tree hr (by decide) rfl (pa_cons (pe_tupRg rfl (by rfl) T.b_tuple (prg_1 (by rfl) T.b_range (pe_callB call_len_seq (by rfl) T.b_len (by decide +kernel) (pa_cons (pv 0) pa_nil)))) (pa_cons (pv 0) pa_nil))))), ?_⟩
    refine ⟨_, rfl, b, _, rfl, hb.len, _, rfl, RgOk.of_le (by omega) (by rw [List.length_map]; omega) (by omega) (by omega), fun q hq => ?_⟩
    have er : rgV 0 (((qs.map V.int).length : Nat) : Int) = (pathP qs.length).map V.int := by
      unfold rgV pathP
      rw [List.length_map, List.map_map, show ((qs.length : Int) - 0).toNat = qs.length by omega]
      exact List.map_congr_left fun i _ => by show V.int (0 + (i : Nat)) = V.int (i : Nat); rw [Int.zero_add]
    rw [er]
    exact ⟨_, rfl, fun x dx hx hdx ne => mk_out (sm0 hq) hx hdx (.inr upd_same) (hb.same (sm0 hq)) m⟩
theorem scStarTree : FnScope ["prices"] ["prices"] (defScope sStarTree) := ⟨rfl, rfl, rfl, by decide +kernel, rfl, by decide +kernel, by decide +kernel⟩
theorem ok_StarTree (T : Txt P w K mg base Ad1 Ad2 Ad4 Ad6 Ad9 Ad10 Ad11) : Cd P w K mg base 6 "star_tree" sStarTree ["prices"] (spStarT K Ad2 Ad6 Ad9 Ad10 Ad11) := by
  have k_Tree := (ok_Tree T).mkr
  refine cd_of T.d_star_tree scStarTree (fun vs H Q E h => ?_) fun f cdv A outer s H vs Q E hr h => ?_
  · obtain ⟨b, qs, rfl, _⟩ := h
    rfl
  · obtain ⟨b, qs, rfl, hb, hl, m⟩ := h
    refine ⟨_, (pss_one (ps_ret (pe_mkX (takes_of rfl rfl rfl rfl) k_Tree hr (by decide) rfl (pa_cons (pe_op op_repS (pe_tup (pa_cons pe_int pa_nil)) (pe_callB call_len_seq (by rfl) T.b_len (by decide +kernel) (pa_cons (pv 0) pa_nil))) (pa_cons (pv 0) pa_nil))))), ?_⟩
    refine ⟨by show 1 ≤ sizeLine; decide, fun z hz => ?_⟩
    have s1 := sm0 (o := .tup [.int 0]) hz
    have e1 : upd H z (.tup [.int 0]) z = some (.tup [.int 0]) := upd_same
    generalize upd H z (.tup [.int 0]) = H1 at s1 e1 ⊢
    refine ⟨_, rfl, b, _, rfl, (hb.same s1).len, z, _, _, rfl, rfl, SqT.of e1, by simp, by omega, by rw [List.length_map]; omega, by decide, fun e => ?_, fun _ q hq => ?_⟩
    · have e' : ((qs.map V.int).length : Int) = 1 := e
      rw [List.length_map] at e'
      refine ⟨_, rfl, fun x dx hx hdx ne => mk_out s1 hx hdx (.inr ?_) (hb.same s1) m⟩
      rw [show qs.length = 1 by omega]
      exact e1
    · refine ⟨_, rfl, fun x dx hx hdx ne => mk_out (smN s1 hq) hx hdx (.inr ?_) (hb.same (smN s1 hq)) m⟩
      rw [upd_same, rep_one, List.length_map, Int.toNat_natCast]
      unfold starP
      rw [List.map_replicate]
theorem scStemmed : FnScope ["tree", "price", "parents", "parent"] ["tree", "price"] (defScope sStemmed) := ⟨rfl, rfl, rfl, by decide +kernel, rfl, by decide +kernel, by decide +kernel⟩
theorem ok_Stemmed (T : Txt P w K mg base Ad1 Ad2 Ad4 Ad6 Ad9 Ad10 Ad11) : Cl P w K mg base 6 "stemmed" (spStem Ad2 Ad6 Ad9 Ad10 Ad11) [] := by
  have k_Tree := (ok_Tree T).mkr
  refine cl_of T.d_stemmed scStemmed (fun vs H Q E h => ?_) fun f cdv A outer s H vs Q E hr h => ?_
  · obtain ⟨t, z, ps, qs, rfl, _⟩ := h
    rfl
  · obtain ⟨t, z, ps, qs, rfl, ⟨dx, t1, t2, ht, h1, h2⟩, ok, m⟩ := h
    have hl := ok.1
    have hl2 := ok.2.1
    refine ⟨_, (pss_cons (ps_set (i := 2) scStemmed.nd rfl (by first | exact Or.inl rfl | exact Or.inr rfl) (pe_lst (pa_cons pe_int pa_nil)))
  (pss_cons (ps_for (passes_of rfl) rfl (pi_tup (pe_fld (pv 0) rfl)) (pg_name (i := 3) scStemmed.nd rfl (by first | exact Or.inl rfl | exact Or.inr rfl))
    (pss_one (ps_expr (pe_bm PySem.F.plainAttrs_list PySem.F.slot_list_append PySem.F.type_list_append mt_append (pv 2) (pa_cons (pe_op op_add (pv 3) pe_int) pa_nil)))))
  (pss_one (ps_ret (pe_mkX (takes_of rfl rfl rfl rfl) k_Tree hr (by decide) rfl (pa_cons (pv 2) (pa_cons (pe_op op_catR (pe_tup (pa_cons (pv 1) pa_nil)) (pe_fld (pv 0) rfl)) pa_nil))))))), ?_⟩
    have l1 : (treeF (ps.length + 1) t1 t2).lookup ("nodes" : Str) = some (V.int (ps.length + 1)) := by walk_at "lk"
    have l2 : (treeF (ps.length + 1) t1 t2).lookup ("parents" : Str) = some (V.ref t1) := by walk_at "lk"
    have l3 : (treeF (ps.length + 1) t1 t2).lookup ("prices" : Str) = some (V.ref t2) := by walk_at "lk"
    refine ⟨by show 1 ≤ sizeLine; decide, fun L hL => ?_⟩
    have s1 := sm0 (o := .lst [.int 0]) hL
    refine ⟨_, rfl, t, Ad11, dx, _, _, rfl, s1 _ _ ht, T.lTree, T.nTree_parents, l2, t1, rfl, ⟨_, SqT.of (s1 _ _ h1)⟩, for_tup (K := K) (a := t1) (xs := ps.map V.int) (fun i σ H' => ∃ v3 : Option V, σ = [some (.ref t), some (.int z), some (.ref L), v3] ∧ Same H H' ∧ H' L = some (.lst ((0 :: (ps.take i).map (· + 1)).map V.int)))
      ⟨none, rfl, s1, upd_same⟩ (fun i σ H' _ h => by obtain ⟨_, _, sh, _⟩ := h; exact SqT.of (sh _ _ h1)) (fun i x σ H' hx h => ?_) fun σ H' h => ?_⟩
    · obtain ⟨v3, rfl, sh, hLL⟩ := h
      obtain ⟨p, hp, rfl⟩ := ints_at hx
      refine ⟨_, rfl, .inl ⟨rfl, _, SqL.of hLL⟩, _, rfl, _, _, rfl, rfl, L, _, _, rfl, rfl, hLL, by simp; exact sz_lt (by omega), ?_⟩
      refine ⟨_, rfl, smM sh hL, ?_⟩
      rw [upd_same, List.take_succ, hp]
      simp
    · obtain ⟨v3, rfl, sh, hLL⟩ := h
      rw [List.length_map, List.take_length] at hLL
      refine ⟨_, rfl, _, rfl, by show 1 ≤ sizeLine; decide, fun y hy => ?_⟩
      have s3 := smN sh (o := .tup [.int z]) hy
      have e3 := atN (o := .tup [.int z]) hLL hy
      refine ⟨_, rfl, t, Ad11, dx, _, _, rfl, s3 _ _ ht, T.lTree, T.nTree_prices, l3, cat_of (xs := [z]) (ys := qs) upd_same (s3 _ _ h2) (by simp; omega) fun q H4 s4 hq => ?_⟩
      exact fun x dx' hx hdx ne => mk_out (s3.trans s4) hx hdx (.inl (SqL.of (s4 _ _ e3))) (.inr hq) m
theorem scHung : FnScope ["tree", "node", "price"] ["tree", "node", "price"] (defScope sHung) := ⟨rfl, rfl, rfl, by decide +kernel, rfl, by decide +kernel, by decide +kernel⟩
theorem ok_Hung (T : Txt P w K mg base Ad1 Ad2 Ad4 Ad6 Ad9 Ad10 Ad11) : Cd P w K mg base 6 "hung" sHung ["tree", "node", "price"] (spHung Ad2 Ad4 Ad6 Ad9 Ad10 Ad11) := by
  have k_Tree := (ok_Tree T).mkr
  refine cd_of T.d_hung scHung (fun vs H Q E h => ?_) fun f cdv A outer s H vs Q E hr h => ?_
  · obtain ⟨t, v, z, ps, qs, rfl, _⟩ := h
    rfl
  · obtain ⟨t, v, z, ps, qs, rfl, ⟨dx, t1, t2, ht, h1, h2⟩, ok, m1, m2⟩ := h
    have hl := ok.1
    have hl2 := ok.2.1
    refine ⟨_, (pss_cons (ps_if (PW.pt (pw_or (pt_cmpR op_lt (pv 1) pe_int (nomark _)) (pw_or1 (pt_cmpR op_ge (pv 1) (pe_fld (pv 0) rfl) (nomark _)))))
    (pss_one (ps_raise rfl (takes_of rfl rfl rfl rfl) (pmk_rs T.rNoNode hr (by decide) rfl (pa_cons (pv 1) pa_nil))))
    pss_nil)
  (pss_one (ps_ret (pe_mkX (takes_of rfl rfl rfl rfl) k_Tree hr (by decide) rfl (pa_cons (pe_op op_catR (pe_fld (pv 0) rfl) (pe_tup (pa_cons (pv 1) pa_nil))) (pa_cons (pe_op op_catR (pe_fld (pv 0) rfl) (pe_tup (pa_cons (pv 2) pa_nil))) pa_nil)))))), ?_⟩
    have l1 : (treeF (ps.length + 1) t1 t2).lookup ("nodes" : Str) = some (V.int (ps.length + 1)) := by walk_at "lk"
    have l2 : (treeF (ps.length + 1) t1 t2).lookup ("parents" : Str) = some (V.ref t1) := by walk_at "lk"
    have l3 : (treeF (ps.length + 1) t1 t2).lookup ("prices" : Str) = some (V.ref t2) := by walk_at "lk"
    refine ⟨_, rfl, _, _, rfl, rfl, _, rfl, ifD (fun c => ?_) fun c => ?_⟩
    · exact ⟨_, rfl, _, ⟨_, rfl, rfl⟩, fun d hd => m2 (.inl c) d hd⟩
    refine ⟨_, rfl, _, rfl, t, Ad11, dx, _, _, rfl, ht, T.lTree, T.nTree_nodes, l1, _, _, rfl, rfl, _, rfl, ifD (fun c2 => ?_) fun c2 => ?_⟩
    · exact ⟨_, rfl, _, ⟨_, rfl, rfl⟩, fun d hd => m2 (.inr c2) d hd⟩
    have m := m1 (by omega) (by omega)
    refine ⟨_, rfl, t, Ad11, dx, _, _, rfl, ht, T.lTree, T.nTree_parents, l2, _, rfl, by show 1 ≤ sizeLine; decide, fun y hy => ?_⟩
    have s1 := sm0 (o := .tup [.int v]) hy
    refine cat_of (xs := ps) (ys := [v]) (s1 _ _ h1) upd_same (by simp; omega) fun q H4 s4 hq => ?_
    have s2 := s1.trans s4
    refine ⟨_, rfl, t, Ad11, dx, _, _, rfl, s2 _ _ ht, T.lTree, T.nTree_prices, l3, _, rfl, by show 1 ≤ sizeLine; decide, fun y2 hy2 => ?_⟩
    have s3 := smN s2 (o := .tup [.int z]) hy2
    refine cat_of (xs := qs) (ys := [z]) (s3 _ _ h2) upd_same (by simp; omega) fun q2 H5 s5 hq2 => ?_
    exact fun x dx' hx hdx ne => mk_out (s3.trans s5) hx hdx (.inr (s5 _ _ (atN hq hy2))) (.inr hq2) m
theorem scGlued : FnScope ["left", "right", "parents", "parent"] ["left", "right"] (defScope sGlued) := ⟨rfl, rfl, rfl, by decide +kernel, rfl, by decide +kernel, by decide +kernel⟩
theorem ok_Glued (T : Txt P w K mg base Ad1 Ad2 Ad4 Ad6 Ad9 Ad10 Ad11) : Cl P w K mg base 6 "glued" (spGlue Ad2 Ad6 Ad9 Ad10 Ad11) [] := by
  have k_Tree := (ok_Tree T).mkr
  refine cl_of T.d_glued scGlued (fun vs H Q E h => ?_) fun f cdv A outer s H vs Q E hr h => ?_
  · obtain ⟨t, t', ps, qs, ps', qs', rfl, _⟩ := h
    rfl
  · obtain ⟨t, t', ps, qs, ps', qs', rfl, ⟨dx, t1, t2, ht, h1, h2⟩, ok, ⟨dx', t1', t2', ht', h1', h2'⟩, ok', m⟩ := h
    have hl := ok.1
    have hl2 := ok.2.1
    have hl' := ok'.1
    have hl2' := ok'.2.1
    refine ⟨_, (pss_cons (ps_set (i := 2) scGlued.nd rfl (by first | exact Or.inl rfl | exact Or.inr rfl) (pe_callTy call_list_of (by rfl) T.b_list (by decide +kernel) (pa_cons (pe_fld (pv 0) rfl) pa_nil)))
  (pss_cons (ps_for (passes_of rfl) rfl (pi_tup (pe_fld (pv 1) rfl)) (pg_name (i := 3) scGlued.nd rfl (by first | exact Or.inl rfl | exact Or.inr rfl))
    (pss_one (ps_expr (pe_bm PySem.F.plainAttrs_list PySem.F.slot_list_append PySem.F.type_list_append mt_append (pv 2) (pa_cons (pe_mono (pe_ifExp (pt_cmpR op_eq (pv 3) pe_int (nomark _)) pe_int (pe_op op_add (pe_op op_sub (pe_fld (pv 0) rfl) pe_int) (pv 3)))) pa_nil)))))
  (pss_one (ps_ret (pe_mkX (takes_of rfl rfl rfl rfl) k_Tree hr (by decide) rfl (pa_cons (pv 2) (pa_cons (pe_op op_catR (pe_fld (pv 0) rfl) (pe_fld (pv 1) rfl)) pa_nil))))))), ?_⟩
    have l1 : (treeF (ps.length + 1) t1 t2).lookup ("nodes" : Str) = some (V.int (ps.length + 1)) := by walk_at "lk"
    have l2 : (treeF (ps.length + 1) t1 t2).lookup ("parents" : Str) = some (V.ref t1) := by walk_at "lk"
    have l3 : (treeF (ps.length + 1) t1 t2).lookup ("prices" : Str) = some (V.ref t2) := by walk_at "lk"
    have l2' : (treeF (ps'.length + 1) t1' t2').lookup ("parents" : Str) = some (V.ref t1') := by walk_at "lk"
    have l3' : (treeF (ps'.length + 1) t1' t2').lookup ("prices" : Str) = some (V.ref t2') := by walk_at "lk"
    refine ⟨_, rfl, t, Ad11, dx, _, _, rfl, ht, T.lTree, T.nTree_parents, l2, t1, _, rfl, .inr (SqT.of h1), fun L hL => ?_⟩
    have s1 := sm0 (o := .lst (ps.map V.int)) hL
    refine ⟨_, rfl, t', Ad11, dx', _, _, rfl, s1 _ _ ht', T.lTree, T.nTree_parents, l2', t1', rfl, ⟨_, SqT.of (s1 _ _ h1')⟩, for_tup (K := K) (a := t1') (xs := ps'.map V.int) (fun i σ H' => ∃ v3 : Option V, σ = [some (.ref t), some (.ref t'), some (.ref L), v3] ∧ Same H H' ∧ H' L = some (.lst ((ps ++ (ps'.take i).map (gl ps.length)).map V.int)))
      ⟨none, rfl, s1, by rw [upd_same]; simp⟩ (fun i σ H' _ h => by obtain ⟨_, _, sh, _⟩ := h; exact SqT.of (sh _ _ h1')) (fun i x σ H' hx h => ?_) fun σ H' h => ?_⟩
    · obtain ⟨v3, rfl, sh, hLL⟩ := h
      obtain ⟨p, hp, rfl⟩ := ints_at hx
      refine ⟨_, rfl, .inl ⟨rfl, _, SqL.of hLL⟩, fun v H2 => v = .int (gl ps.length p) ∧ H2 = H', ?_, ?_⟩
      · refine ⟨_, rfl, rfl, _, rfl, ifI (fun c => ?_) fun c => ?_⟩
        · exact ⟨by unfold gl; rw [if_pos c], rfl⟩
        · refine ⟨_, rfl, t, Ad11, dx, _, _, rfl, sh _ _ ht, T.lTree, T.nTree_nodes, l1, _, _, rfl, rfl, _, rfl, _, _, rfl, rfl, ?_, rfl⟩
          unfold gl
          rw [if_neg c]
          congr 1
          first | (show (ps.length : Int) + 1 - 1 + p = ps.length + p; omega) | (congr 1; show (ps.length : Int) + 1 - 1 = ps.length; omega)
      rintro _ H2 ⟨rfl, rfl⟩
      refine ⟨L, _, _, rfl, rfl, hLL, by simp; exact sz_lt (by omega), ?_⟩
      refine ⟨_, rfl, smM sh hL, ?_⟩
      rw [upd_same, List.take_succ, hp]
      simp
    · obtain ⟨v3, rfl, sh, hLL⟩ := h
      rw [List.length_map, List.take_length] at hLL
      refine ⟨_, rfl, _, rfl, t, Ad11, dx, _, _, rfl, sh _ _ ht, T.lTree, T.nTree_prices, l3, _, rfl, t', Ad11, dx', _, _, rfl, sh _ _ ht', T.lTree, T.nTree_prices, l3', cat_of (xs := qs) (ys := qs') (sh _ _ h2) (sh _ _ h2') (by omega) fun q H4 s4 hq => ?_⟩
      exact fun x dx'' hx hdx ne => mk_out (sh.trans s4) hx hdx (.inl (SqL.of (s4 _ _ hLL))) (.inr hq) m
end
end K13
set_option maxRecDepth 100000
set_option maxHeartbeats 4000000
namespace K13
open PySem PySem.Spec PyProof.Rows L2 SI
local macro_rules | `(tactic| walk_at "lk") => `(tactic| first | exact lk_hit | exact lk_nil | (refine lk_next (by decide +kernel) ?_; walk_at "lk"))
inductive FaultRow (Ad2 Ad4 Ad10 : Addr) : Addr → List (Str × V) → List V → Prop where
  | bc (x : Str) (n : Int) : FaultRow Ad2 Ad4 Ad10 Ad2 [("many", .int n), ("what", .str x)] [.str "BadCount", .str x, .int n]
  | nn (n : Int) : FaultRow Ad2 Ad4 Ad10 Ad4 [("node", .int n)] [.str "NoNode", .int n]
  | bq (n : Int) : FaultRow Ad2 Ad4 Ad10 Ad10 [("at", .int n)] [.str "BadPrice", .int n]
def spFault (Ad2 Ad4 Ad10 : Addr) (a : Addr) (cls : Value) (d : Option Addr) : Sp := fun vs H Q _ => ∃ (C dd : Addr) (fs : List (Str × V)) (row : List V), vs = [.ref a] ∧ cls = .ref C ∧ d = some dd ∧ H dd = some (.xd fs) ∧ FaultRow Ad2 Ad4 Ad10 C fs row ∧
  ∀ q r H', Same H H' → H' r = some (.tup row) → H' q = some (.tup [.ref r]) → Q (.ref q) H'
theorem paired2 {α β : Type} {R : α → β → Prop} {a b : α} {x y : β} (h1 : R a x) (h2 : R b y) : Paired R [a, b] [x, y] := .cons h1 (.cons h2 .nil)
theorem kit2 {K : PySem.W.Frag} {t a b : Value} (h1 : PySem.W.kitOne K t a = some false) (h2 : PySem.W.kitOne K t b = some false) : PySem.W.kitAny K t [a, b] = some false :=
  kitAny_cons h1 (fun _ => kitAny_cons h2 (fun _ => kitAny_nil) fun z => nomatch z) fun z => nomatch z
theorem bad_row {Ad2 Ad4 Ad6 Ad9 Ad10 : Addr} {A B : List Int} (hp : parOk A) (hl : B.length = A.length) {y : Addr} {fs : List (Str × V)} (h : BadT Ad2 Ad6 Ad9 Ad10 A B y fs) : ∃ row, FaultRow Ad2 Ad4 Ad10 y fs row ∧ DueIs A B (some row) := by
  cases h with
  | many h => exact ⟨_, .bc _ _, .many h⟩
  | width h h2 => exact absurd hl h2
  | par h h2 i h3 =>
    obtain ⟨_, p, hp', c⟩ := h3
    have := hp i p hp'
    omega
  | pri h h2 i h3 => exact ⟨_, .bq _, .pri h h2 i h3⟩
section
variable {P : Program} {w : World} {K : PySem.W.Frag} {mg : Str → Option Value} {base : Heap} {Ad1 Ad2 Ad4 Ad6 Ad9 Ad10 Ad11 : Addr}
theorem scLFaultOf : FnScope ["e", "told"] ["e"] (defScope sLFaultOf) := ⟨rfl, rfl, rfl, by decide +kernel, rfl, by decide +kernel, by decide +kernel⟩
theorem ok_LFaultW (T : Txt P w K mg base Ad1 Ad2 Ad4 Ad6 Ad9 Ad10 Ad11) : ClW P w K mg base 1 "_law_fault_of" (fun p vs H Q E => ∃ cls d, Zc cls d p.2 ∧ (∃ vs, p.2.data = .fields vs) ∧ spFault Ad2 Ad4 Ad10 p.1 cls d vs H Q E) := by
  refine clW_of T.d__law_fault_of scLFaultOf (fun p vs H Q E h => ?_) fun f cdv A outer s H vs Q E p hr h => ?_
  · obtain ⟨cls, d, _, _, C, dd, fs, row, rfl, _⟩ := h
    rfl
  · obtain ⟨a, oe⟩ := p
    obtain ⟨cls, d, hz, hf, C, dd, fs, row, rfl, rfl, rfl, hd, hrow, k⟩ := h
    refine ⟨_, (pss_cons (ps_set (i := 1) scLFaultOf.nd rfl (by first | exact Or.inl rfl | exact Or.inr rfl) (pe_lst pa_nil))
  (C8.pss_cut (ps_if (pt_val (pe_callB (call_isX (X := (L2H.cxH CX0 P w K mg base ["e", "told"] "_law_fault_of" (defScope sLFaultOf) f cdv A outer s H E (a, oe)).nox) T.ek (List.mem_cons_self) hz hf) (by rfl) T.b_isinstance (by decide +kernel) (pa_cons (pv 0) (pa_cons (pe_glob (v := .ref Ad2) rfl T.gBadCount rfl) pa_nil))))
    (pss_one (ps_expr (pe_bm PySem.F.plainAttrs_list PySem.F.slot_list_append PySem.F.type_list_append mt_append (pv 1) (pa_cons (pe_tup (pa_cons pe_str (pa_cons (pe_errF (X := (L2H.cxH CX0 P w K mg base ["e", "told"] "_law_fault_of" (defScope sLFaultOf) f cdv A outer s H E (a, oe)).nox) (List.mem_cons_self) hz hf (pv 0)) (pa_cons (pe_errF (X := (L2H.cxH CX0 P w K mg base ["e", "told"] "_law_fault_of" (defScope sLFaultOf) f cdv A outer s H E (a, oe)).nox) (List.mem_cons_self) hz hf (pv 0)) pa_nil)))) pa_nil))))
    pss_nil)
  (C8.pss_cut (ps_if (pt_val (pe_callB (call_isX (X := (L2H.cxH CX0 P w K mg base ["e", "told"] "_law_fault_of" (defScope sLFaultOf) f cdv A outer s H E (a, oe)).nox) T.ek (List.mem_cons_self) hz hf) (by rfl) T.b_isinstance (by decide +kernel) (pa_cons (pv 0) (pa_cons (pe_glob (v := .ref Ad4) rfl T.gNoNode rfl) pa_nil))))
    (pss_one (ps_expr (pe_bm PySem.F.plainAttrs_list PySem.F.slot_list_append PySem.F.type_list_append mt_append (pv 1) (pa_cons (pe_tup (pa_cons pe_str (pa_cons (pe_errF (X := (L2H.cxH CX0 P w K mg base ["e", "told"] "_law_fault_of" (defScope sLFaultOf) f cdv A outer s H E (a, oe)).nox) (List.mem_cons_self) hz hf (pv 0)) pa_nil))) pa_nil))))
    pss_nil)
  (C8.pss_cut (ps_if (pt_val (pe_callB (call_isX (X := (L2H.cxH CX0 P w K mg base ["e", "told"] "_law_fault_of" (defScope sLFaultOf) f cdv A outer s H E (a, oe)).nox) T.ek (List.mem_cons_self) hz hf) (by rfl) T.b_isinstance (by decide +kernel) (pa_cons (pv 0) (pa_cons (pe_glob (v := .ref Ad10) rfl T.gBadPrice rfl) pa_nil))))
    (pss_one (ps_expr (pe_bm PySem.F.plainAttrs_list PySem.F.slot_list_append PySem.F.type_list_append mt_append (pv 1) (pa_cons (pe_tup (pa_cons pe_str (pa_cons (pe_errF (X := (L2H.cxH CX0 P w K mg base ["e", "told"] "_law_fault_of" (defScope sLFaultOf) f cdv A outer s H E (a, oe)).nox) (List.mem_cons_self) hz hf (pv 0)) pa_nil))) pa_nil))))
    pss_nil)
  (C8.pss_cut (ps_if (PW.pt (pw_or (pt_val (pe_callB (call_isXT (X := (L2H.cxH CX0 P w K mg base ["e", "told"] "_law_fault_of" (defScope sLFaultOf) f cdv A outer s H E (a, oe)).nox) T.ek (List.mem_cons_self) hz hf) (by rfl) T.b_isinstance (by decide +kernel) (pa_cons (pv 0) (pa_cons (pe_tup (pa_cons (pe_glob (v := .ref Ad9) rfl T.gBadParent rfl) (pa_cons (pe_glob (v := .ref Ad6) rfl T.gWrongWidth rfl) pa_nil))) pa_nil)))) (pw_or1 (pt_not (pt_val (pe_callB (call_isX (X := (L2H.cxH CX0 P w K mg base ["e", "told"] "_law_fault_of" (defScope sLFaultOf) f cdv A outer s H E (a, oe)).nox) T.ek (List.mem_cons_self) hz hf) (by rfl) T.b_isinstance (by decide +kernel) (pa_cons (pv 0) (pa_cons (pe_bltn (v := .ty "ValueError") (u := .type "ValueError") (by rfl) T.b_ValueError (by decide +kernel) rfl) pa_nil))))))))
    (pss_one (ps_expr (pe_bm PySem.F.plainAttrs_list PySem.F.slot_list_append PySem.F.type_list_append mt_append (pv 1) (pa_cons (pe_tup (pa_cons pe_str (pa_cons pe_int pa_nil))) pa_nil))))
    pss_nil)
  (pss_one (ps_ret (pe_callTy call_tuple_of (by rfl) T.b_tuple (by decide +kernel) (pa_cons (pv 1) pa_nil))))))))), ?_⟩
    cases hrow with
    | bc x n =>
      refine ⟨by show 0 ≤ sizeLine; decide, fun l hl => ?_⟩
      have hd1 := atN (o := .lst []) hd hl
      have s1 : Same H (upd H l (.lst [])) := sm0 hl
      have hl1 : upd H l (.lst []) l = some (.lst []) := upd_same
      have hl0 := hl
      generalize upd H l (.lst []) = H1 at hd1 s1 hl1 ⊢
      refine ⟨fun σ' H' => ∃ (l r : Addr), σ' = [some (.ref a), some (.ref l)] ∧ Same H H' ∧ H' dd = some (.xd [("many", .int n), ("what", .str x)]) ∧ H' r = some (.tup [.str "BadCount", .str x, .int n]) ∧ H' l = some (.lst [.ref r]), ?_, ?_⟩
      · have tr : ∀ d0, some dd = some d0 → ∃ fs, H1 d0 = some (.xd fs) := fun d0 e => by cases e; exact ⟨_, hd1⟩
        refine ⟨_, rfl, Ad2, _, _, true, rfl, T.eBadCount, rfl, .own Ad2, T.tBadCount_BadCount, tr, _, rfl, iteT ?_⟩
        refine ⟨_, rfl, .inl ⟨rfl, _, SqL.of hl1⟩, Ad2, dd, rfl, T.eBadCount, T.fBadCount_what, rfl, _, rfl, rfl, _, _, hd1, (by walk_at "lk"), Ad2, dd, rfl, T.eBadCount, T.fBadCount_many, rfl, _, rfl, rfl, _, _, hd1, (by walk_at "lk"), (by show 3 ≤ sizeLine; decide), fun r hr1 => ?_⟩
        refine ⟨l, _, _, rfl, rfl, atN hl1 hr1, (by show 0 < sizeLine; decide), ?_⟩
        have s2 := smN s1 (q := r) (o := .tup [.str "BadCount", .str x, .int n]) hr1
        have g1 := atN (o := .tup [.str "BadCount", .str x, .int n]) hd1 hr1
        have g2 := atN (o := .tup [.str "BadCount", .str x, .int n]) hl1 hr1
        have g3 : upd H1 r (.tup [.str "BadCount", .str x, .int n]) r = some (.tup [.str "BadCount", .str x, .int n]) := upd_same
        exact ⟨l, r, rfl, smM s2 hl0, (upd_ne (ne_of g1 g2 (by intro z; cases z))).trans g1, (upd_ne (ne_of g3 g2 (by intro z; cases z))).trans g3, upd_same⟩
      rintro _ H1 ⟨l, r, rfl, s1, hd1, hr1, hl1⟩
      refine ⟨fun σ' H' => ∃ (l r : Addr), σ' = [some (.ref a), some (.ref l)] ∧ Same H H' ∧ H' dd = some (.xd [("many", .int n), ("what", .str x)]) ∧ H' r = some (.tup [.str "BadCount", .str x, .int n]) ∧ H' l = some (.lst [.ref r]), ?_, ?_⟩
      · have tr : ∀ d0, some dd = some d0 → ∃ fs, H1 d0 = some (.xd fs) := fun d0 e => by cases e; exact ⟨_, hd1⟩
        refine ⟨_, rfl, Ad2, _, _, false, rfl, T.eBadCount, rfl, .own Ad4, T.tBadCount_NoNode, tr, _, rfl, iteF ?_⟩
        exact ⟨l, r, rfl, s1, hd1, hr1, hl1⟩
      rintro _ H1 ⟨l, r, rfl, s1, hd1, hr1, hl1⟩
      refine ⟨fun σ' H' => ∃ (l r : Addr), σ' = [some (.ref a), some (.ref l)] ∧ Same H H' ∧ H' dd = some (.xd [("many", .int n), ("what", .str x)]) ∧ H' r = some (.tup [.str "BadCount", .str x, .int n]) ∧ H' l = some (.lst [.ref r]), ?_, ?_⟩
      · have tr : ∀ d0, some dd = some d0 → ∃ fs, H1 d0 = some (.xd fs) := fun d0 e => by cases e; exact ⟨_, hd1⟩
        refine ⟨_, rfl, Ad2, _, _, false, rfl, T.eBadCount, rfl, .own Ad10, T.tBadCount_BadPrice, tr, _, rfl, iteF ?_⟩
        exact ⟨l, r, rfl, s1, hd1, hr1, hl1⟩
      rintro _ H1 ⟨l, r, rfl, s1, hd1, hr1, hl1⟩
      refine ⟨fun σ' H' => ∃ (l r : Addr), σ' = [some (.ref a), some (.ref l)] ∧ Same H H' ∧ H' dd = some (.xd [("many", .int n), ("what", .str x)]) ∧ H' r = some (.tup [.str "BadCount", .str x, .int n]) ∧ H' l = some (.lst [.ref r]), ?_, ?_⟩
      · have tr : ∀ d0, some dd = some d0 → ∃ fs, H1 d0 = some (.xd fs) := fun d0 e => by cases e; exact ⟨_, hd1⟩
        refine ⟨_, rfl, (by show 2 ≤ sizeLine; decide), fun tp htp => ?_⟩
        have tr2 : ∀ d0, some dd = some d0 → ∃ fs, upd H1 tp (.tup [.ref Ad9, .ref Ad6]) d0 = some (.xd fs) := fun d0 e => by cases e; exact ⟨_, atN hd1 htp⟩
        refine ⟨Ad2, tp, _, _, false, rfl, T.eBadCount, rfl, upd_same, paired2 (.own Ad9) (.own Ad6), kit2 T.tBadCount_BadParent T.tBadCount_WrongWidth, tr2, _, rfl, iteF ?_⟩
        refine ⟨_, rfl, Ad2, _, _, true, rfl, T.eBadCount, rfl, .ty "ValueError", T.tBadCount_ValueError, tr2, _, rfl, iteF ?_⟩
        exact ⟨l, r, rfl, smN s1 htp, atN hd1 htp, atN hr1 htp, atN hl1 htp⟩
      rintro _ H1 ⟨l, r, rfl, s1, hd1, hr1, hl1⟩
      refine ⟨_, rfl, l, _, rfl, .inl ⟨SqL.of hl1, fun q hq => ?_⟩⟩
      exact k q r _ (smN s1 hq) (atN hr1 hq) upd_same
    | nn n =>
      refine ⟨by show 0 ≤ sizeLine; decide, fun l hl => ?_⟩
      have hd1 := atN (o := .lst []) hd hl
      have s1 : Same H (upd H l (.lst [])) := sm0 hl
      have hl1 : upd H l (.lst []) l = some (.lst []) := upd_same
      have hl0 := hl
      generalize upd H l (.lst []) = H1 at hd1 s1 hl1 ⊢
      refine ⟨fun σ' H' => ∃ (l : Addr), σ' = [some (.ref a), some (.ref l)] ∧ Same H H' ∧ H' dd = some (.xd [("node", .int n)]) ∧ H l = none ∧ H' l = some (.lst []), ?_, ?_⟩
      · have tr : ∀ d0, some dd = some d0 → ∃ fs, H1 d0 = some (.xd fs) := fun d0 e => by cases e; exact ⟨_, hd1⟩
        refine ⟨_, rfl, Ad4, _, _, false, rfl, T.eNoNode, rfl, .own Ad2, T.tNoNode_BadCount, tr, _, rfl, iteF ?_⟩
        exact ⟨l, rfl, s1, hd1, hl0, hl1⟩
      rintro _ H1 ⟨l, rfl, s1, hd1, hl0, hl1⟩
      refine ⟨fun σ' H' => ∃ (l r : Addr), σ' = [some (.ref a), some (.ref l)] ∧ Same H H' ∧ H' dd = some (.xd [("node", .int n)]) ∧ H' r = some (.tup [.str "NoNode", .int n]) ∧ H' l = some (.lst [.ref r]), ?_, ?_⟩
      · have tr : ∀ d0, some dd = some d0 → ∃ fs, H1 d0 = some (.xd fs) := fun d0 e => by cases e; exact ⟨_, hd1⟩
        refine ⟨_, rfl, Ad4, _, _, true, rfl, T.eNoNode, rfl, .own Ad4, T.tNoNode_NoNode, tr, _, rfl, iteT ?_⟩
        refine ⟨_, rfl, .inl ⟨rfl, _, SqL.of hl1⟩, Ad4, dd, rfl, T.eNoNode, T.fNoNode_node, rfl, _, rfl, rfl, _, _, hd1, (by walk_at "lk"), (by show 2 ≤ sizeLine; decide), fun r hr1 => ?_⟩
        refine ⟨l, _, _, rfl, rfl, atN hl1 hr1, (by show 0 < sizeLine; decide), ?_⟩
        have s2 := smN s1 (q := r) (o := .tup [.str "NoNode", .int n]) hr1
        have g1 := atN (o := .tup [.str "NoNode", .int n]) hd1 hr1
        have g2 := atN (o := .tup [.str "NoNode", .int n]) hl1 hr1
        have g3 : upd H1 r (.tup [.str "NoNode", .int n]) r = some (.tup [.str "NoNode", .int n]) := upd_same
        exact ⟨l, r, rfl, smM s2 hl0, (upd_ne (ne_of g1 g2 (by intro z; cases z))).trans g1, (upd_ne (ne_of g3 g2 (by intro z; cases z))).trans g3, upd_same⟩
      rintro _ H1 ⟨l, r, rfl, s1, hd1, hr1, hl1⟩
      refine ⟨fun σ' H' => ∃ (l r : Addr), σ' = [some (.ref a), some (.ref l)] ∧ Same H H' ∧ H' dd = some (.xd [("node", .int n)]) ∧ H' r = some (.tup [.str "NoNode", .int n]) ∧ H' l = some (.lst [.ref r]), ?_, ?_⟩
      · have tr : ∀ d0, some dd = some d0 → ∃ fs, H1 d0 = some (.xd fs) := fun d0 e => by cases e; exact ⟨_, hd1⟩
        refine ⟨_, rfl, Ad4, _, _, false, rfl, T.eNoNode, rfl, .own Ad10, T.tNoNode_BadPrice, tr, _, rfl, iteF ?_⟩
        exact ⟨l, r, rfl, s1, hd1, hr1, hl1⟩
      rintro _ H1 ⟨l, r, rfl, s1, hd1, hr1, hl1⟩
      refine ⟨fun σ' H' => ∃ (l r : Addr), σ' = [some (.ref a), some (.ref l)] ∧ Same H H' ∧ H' dd = some (.xd [("node", .int n)]) ∧ H' r = some (.tup [.str "NoNode", .int n]) ∧ H' l = some (.lst [.ref r]), ?_, ?_⟩
      · have tr : ∀ d0, some dd = some d0 → ∃ fs, H1 d0 = some (.xd fs) := fun d0 e => by cases e; exact ⟨_, hd1⟩
        refine ⟨_, rfl, (by show 2 ≤ sizeLine; decide), fun tp htp => ?_⟩
        have tr2 : ∀ d0, some dd = some d0 → ∃ fs, upd H1 tp (.tup [.ref Ad9, .ref Ad6]) d0 = some (.xd fs) := fun d0 e => by cases e; exact ⟨_, atN hd1 htp⟩
        refine ⟨Ad4, tp, _, _, false, rfl, T.eNoNode, rfl, upd_same, paired2 (.own Ad9) (.own Ad6), kit2 T.tNoNode_BadParent T.tNoNode_WrongWidth, tr2, _, rfl, iteF ?_⟩
        refine ⟨_, rfl, Ad4, _, _, true, rfl, T.eNoNode, rfl, .ty "ValueError", T.tNoNode_ValueError, tr2, _, rfl, iteF ?_⟩
        exact ⟨l, r, rfl, smN s1 htp, atN hd1 htp, atN hr1 htp, atN hl1 htp⟩
      rintro _ H1 ⟨l, r, rfl, s1, hd1, hr1, hl1⟩
      refine ⟨_, rfl, l, _, rfl, .inl ⟨SqL.of hl1, fun q hq => ?_⟩⟩
      exact k q r _ (smN s1 hq) (atN hr1 hq) upd_same
    | bq n =>
      refine ⟨by show 0 ≤ sizeLine; decide, fun l hl => ?_⟩
      have hd1 := atN (o := .lst []) hd hl
      have s1 : Same H (upd H l (.lst [])) := sm0 hl
      have hl1 : upd H l (.lst []) l = some (.lst []) := upd_same
      have hl0 := hl
      generalize upd H l (.lst []) = H1 at hd1 s1 hl1 ⊢
      refine ⟨fun σ' H' => ∃ (l : Addr), σ' = [some (.ref a), some (.ref l)] ∧ Same H H' ∧ H' dd = some (.xd [("at", .int n)]) ∧ H l = none ∧ H' l = some (.lst []), ?_, ?_⟩
      · have tr : ∀ d0, some dd = some d0 → ∃ fs, H1 d0 = some (.xd fs) := fun d0 e => by cases e; exact ⟨_, hd1⟩
        refine ⟨_, rfl, Ad10, _, _, false, rfl, T.eBadPrice, rfl, .own Ad2, T.tBadPrice_BadCount, tr, _, rfl, iteF ?_⟩
        exact ⟨l, rfl, s1, hd1, hl0, hl1⟩
      rintro _ H1 ⟨l, rfl, s1, hd1, hl0, hl1⟩
      refine ⟨fun σ' H' => ∃ (l : Addr), σ' = [some (.ref a), some (.ref l)] ∧ Same H H' ∧ H' dd = some (.xd [("at", .int n)]) ∧ H l = none ∧ H' l = some (.lst []), ?_, ?_⟩
      · have tr : ∀ d0, some dd = some d0 → ∃ fs, H1 d0 = some (.xd fs) := fun d0 e => by cases e; exact ⟨_, hd1⟩
        refine ⟨_, rfl, Ad10, _, _, false, rfl, T.eBadPrice, rfl, .own Ad4, T.tBadPrice_NoNode, tr, _, rfl, iteF ?_⟩
        exact ⟨l, rfl, s1, hd1, hl0, hl1⟩
      rintro _ H1 ⟨l, rfl, s1, hd1, hl0, hl1⟩
      refine ⟨fun σ' H' => ∃ (l r : Addr), σ' = [some (.ref a), some (.ref l)] ∧ Same H H' ∧ H' dd = some (.xd [("at", .int n)]) ∧ H' r = some (.tup [.str "BadPrice", .int n]) ∧ H' l = some (.lst [.ref r]), ?_, ?_⟩
      · have tr : ∀ d0, some dd = some d0 → ∃ fs, H1 d0 = some (.xd fs) := fun d0 e => by cases e; exact ⟨_, hd1⟩
        refine ⟨_, rfl, Ad10, _, _, true, rfl, T.eBadPrice, rfl, .own Ad10, T.tBadPrice_BadPrice, tr, _, rfl, iteT ?_⟩
        refine ⟨_, rfl, .inl ⟨rfl, _, SqL.of hl1⟩, Ad10, dd, rfl, T.eBadPrice, T.fBadPrice_at, rfl, _, rfl, rfl, _, _, hd1, (by walk_at "lk"), (by show 2 ≤ sizeLine; decide), fun r hr1 => ?_⟩
        refine ⟨l, _, _, rfl, rfl, atN hl1 hr1, (by show 0 < sizeLine; decide), ?_⟩
        have s2 := smN s1 (q := r) (o := .tup [.str "BadPrice", .int n]) hr1
        have g1 := atN (o := .tup [.str "BadPrice", .int n]) hd1 hr1
        have g2 := atN (o := .tup [.str "BadPrice", .int n]) hl1 hr1
        have g3 : upd H1 r (.tup [.str "BadPrice", .int n]) r = some (.tup [.str "BadPrice", .int n]) := upd_same
        exact ⟨l, r, rfl, smM s2 hl0, (upd_ne (ne_of g1 g2 (by intro z; cases z))).trans g1, (upd_ne (ne_of g3 g2 (by intro z; cases z))).trans g3, upd_same⟩
      rintro _ H1 ⟨l, r, rfl, s1, hd1, hr1, hl1⟩
      refine ⟨fun σ' H' => ∃ (l r : Addr), σ' = [some (.ref a), some (.ref l)] ∧ Same H H' ∧ H' dd = some (.xd [("at", .int n)]) ∧ H' r = some (.tup [.str "BadPrice", .int n]) ∧ H' l = some (.lst [.ref r]), ?_, ?_⟩
      · have tr : ∀ d0, some dd = some d0 → ∃ fs, H1 d0 = some (.xd fs) := fun d0 e => by cases e; exact ⟨_, hd1⟩
        refine ⟨_, rfl, (by show 2 ≤ sizeLine; decide), fun tp htp => ?_⟩
        have tr2 : ∀ d0, some dd = some d0 → ∃ fs, upd H1 tp (.tup [.ref Ad9, .ref Ad6]) d0 = some (.xd fs) := fun d0 e => by cases e; exact ⟨_, atN hd1 htp⟩
        refine ⟨Ad10, tp, _, _, false, rfl, T.eBadPrice, rfl, upd_same, paired2 (.own Ad9) (.own Ad6), kit2 T.tBadPrice_BadParent T.tBadPrice_WrongWidth, tr2, _, rfl, iteF ?_⟩
        refine ⟨_, rfl, Ad10, _, _, true, rfl, T.eBadPrice, rfl, .ty "ValueError", T.tBadPrice_ValueError, tr2, _, rfl, iteF ?_⟩
        exact ⟨l, r, rfl, smN s1 htp, atN hd1 htp, atN hr1 htp, atN hl1 htp⟩
      rintro _ H1 ⟨l, r, rfl, s1, hd1, hr1, hl1⟩
      refine ⟨_, rfl, l, _, rfl, .inl ⟨SqL.of hl1, fun q hq => ?_⟩⟩
      exact k q r _ (smN s1 hq) (atN hr1 hq) upd_same
end
def outO (A B : List Int) (H : Hp) (Q : VK) : Prop := ∀ o q H', DueIs A B o → Same H H' → dueV H' q o → Q (.ref q) H'
def outR (row : List V) (H : Hp) (Q : VK) : Prop := ∀ q r H', Same H H' → H' r = some (.tup row) → H' q = some (.tup [.ref r]) → Q (.ref q) H'
def spTry (C : Addr) : Sp := fun vs H Q _ => ∃ (t t' : Addr) (ps qs : List Int) (n z : Int), TreeAt C H t ps qs ∧ okT ps qs ∧
  ((vs = [.str "enough", .ref t, .ref t', .int n, .int z] ∧ (n < 1 ∨ 1000000 < n) ∧ outR [.str "BadCount", .str "many", .int n] H Q) ∨
   (vs = [.str "stemmed", .ref t, .ref t', .int n, .int z] ∧ outO (stemP ps) (z :: qs) H Q) ∨
   (vs = [.str "hung", .ref t, .ref t', .int n, .int z] ∧ 0 ≤ n ∧ n ≤ ps.length ∧ outO (ps ++ [n]) (qs ++ [z]) H Q) ∨
   (vs = [.str "hung", .ref t, .ref t', .int n, .int z] ∧ (n < 0 ∨ (ps.length : Int) + 1 ≤ n) ∧ outR [.str "NoNode", .int n] H Q) ∨
   (∃ ps' qs', vs = [.str "glued", .ref t, .ref t', .int n, .int z] ∧ TreeAt C H t' ps' qs' ∧ okT ps' qs' ∧ outO (glueP ps ps') (qs ++ qs') H Q))
def spTryRow (K : PySem.W.Frag) : Sp := fun vs H Q _ => ∃ (b : Addr) (star : Bool) (qs : List Int), vs = [.bl star, .ref b] ∧ RowR K H b qs ∧ qs.length ≤ 1000 ∧ outO (if star = true then starP qs.length else pathP qs.length) qs H Q
section
variable {P : Program} {w : World} {K : PySem.W.Frag} {mg : Str → Option Value} {base : Heap} {Ad1 Ad2 Ad4 Ad6 Ad9 Ad10 Ad11 : Addr}
theorem scLTry : FnScope ["deed", "tree", "other", "number", "price", "e"] ["deed", "tree", "other", "number", "price"] (defScope sLTry) := ⟨rfl, rfl, rfl, by decide +kernel, rfl, by decide +kernel, by decide +kernel⟩
theorem ok_LTry (T : Txt P w K mg base Ad1 Ad2 Ad4 Ad6 Ad9 Ad10 Ad11) : Cl P w K mg base 8 "_law_try" (spTry Ad11) [] := by
  have c_TreeEnough : Cl P w K mg base 5 "tree_enough" (spEnough Ad2 Ad11) [] := (ok_TreeEnough T).cl 2 1 (by simp) rfl fun T kV doc pm an cdv ct us its l1 l2 => match us, its, l1, l2 with | [_, _], [_], _, _ => ⟨_, rfl, rfl⟩
  have c_Stemmed := ok_Stemmed T
  have c_Hung := (ok_Hung T).cl
  have c_Glued := ok_Glued T
  have w_LFaultOf := ok_LFaultW T
  refine cl_of T.d__law_try scLTry (fun vs H Q E h => ?_) fun f cdv A outer s H vs Q E hr h => ?_
  · obtain ⟨t, t', ps, qs, n, z, _, _, h⟩ := h
    rcases h with ⟨rfl, _⟩ | ⟨rfl, _⟩ | ⟨rfl, _⟩ | ⟨rfl, _⟩ | ⟨_, _, rfl, _⟩ <;> rfl
  · refine ⟨_, (pss_cons (ps_try_as (i := 5) rfl rfl scLTry.nd rfl rfl ⟨rfl, by decide, Or.inl T.gPebbleError⟩ takes0
    (fun W pn xe tk po => (pss_one (ps_if (pt_cmpR op_eq (pv 0) pe_str (nomark _))
      (pss_one (ps_expr (pe_cX tk c_TreeEnough hr (by decide) rfl (pa_cons (pv 1) (pa_cons (pv 3) pa_nil)))))
      (pss_one (ps_if (pt_cmpR op_eq (pv 0) pe_str (nomark _))
        (pss_one (ps_expr (pe_cX tk c_Stemmed hr (by decide) rfl (pa_cons (pv 1) (pa_cons (pv 4) pa_nil)))))
        (pss_one (ps_if (pt_cmpR op_eq (pv 0) pe_str (nomark _))
          (pss_one (ps_expr (pe_cX tk c_Hung hr (by decide) rfl (pa_cons (pv 1) (pa_cons (pv 3) (pa_cons (pv 4) pa_nil))))))
          (pss_one (ps_expr (pe_cX tk c_Glued hr (by decide) rfl (pa_cons (pv 1) (pa_cons (pv 2) pa_nil))))))))))))
    (fun a oe cls d pn hz hf => (pss_one (ps_ret (pe_cWE (X := cxd P w K mg base ["deed", "tree", "other", "number", "price", "e"] "_law_try" sLTry f cdv A outer s H E) (sp' := spFault Ad2 Ad4 Ad10) hz hf w_LFaultOf hr (by decide) rfl (pa_cons (pv 5) pa_nil))))))
  (pss_one (ps_ret (pe_tup pa_nil)))), ?_⟩
    obtain ⟨t, t', ps, qs, n, z, hT, ok, h⟩ := h
    have hl := ok.1
    have hl2 := ok.2.1
    rcases h with ⟨rfl, hn, k⟩ | ⟨rfl, k⟩ | ⟨rfl, n0, n1, k⟩ | ⟨rfl, hn, k⟩ | ⟨ps', qs', rfl, hT', ok', k⟩
    · refine ⟨_, rfl, rfl, _, rfl, ifT (by decide +kernel) ?_⟩
      refine ⟨_, rfl, _, rfl, t, n, ps, qs, rfl, hT, ok, (fun c1 c2 => by omega), fun _ d hd => ?_⟩
      exact ⟨true, T.xBadCount_PebbleError, fun _ e na => ⟨_, rfl, Ad2, d, _, _, rfl, rfl, rfl, upd_same, .bc _ _, fun q r H2 s2 hr2 hq2 => k q r _ ((sm0 hd).trans s2) hr2 hq2⟩, fun z => nomatch z⟩
    · refine ⟨_, rfl, rfl, _, rfl, ifF (by decide +kernel) ?_⟩
      refine ⟨_, rfl, rfl, _, rfl, ifT (by decide +kernel) ?_⟩
      refine ⟨_, rfl, _, rfl, t, z, ps, qs, rfl, hT, ok, ?_⟩
      refine ⟨fun okAB x H' s' _ hX => ⟨by show 0 ≤ sizeLine; decide, fun q hq => k none q _ (.good okAB) (smN s' hq) upd_same⟩, fun y fs hbad d H' s' hd => ?_⟩
      obtain ⟨row, hrow, hdue⟩ := bad_row (Ad4 := Ad4) (par_stem ok.par) (by rw [len_stem, List.length_cons, hl2]) hbad
      have s1 : Same H (upd H' d (.xd fs)) := smN s' hd
      cases hrow with
      | bc x n => exact ⟨true, T.xBadCount_PebbleError, fun _ e na => ⟨_, rfl, Ad2, d, _, _, rfl, rfl, rfl, upd_same, .bc _ _, fun q r H2 s2 hr2 hq2 => k (some _) q _ hdue (s1.trans s2) ⟨r, hq2, hr2⟩⟩, fun z => nomatch z⟩
      | nn n => exact ⟨true, T.xNoNode_PebbleError, fun _ e na => ⟨_, rfl, Ad4, d, _, _, rfl, rfl, rfl, upd_same, .nn _, fun q r H2 s2 hr2 hq2 => k (some _) q _ hdue (s1.trans s2) ⟨r, hq2, hr2⟩⟩, fun z => nomatch z⟩
      | bq n => exact ⟨true, T.xBadPrice_PebbleError, fun _ e na => ⟨_, rfl, Ad10, d, _, _, rfl, rfl, rfl, upd_same, .bq _, fun q r H2 s2 hr2 hq2 => k (some _) q _ hdue (s1.trans s2) ⟨r, hq2, hr2⟩⟩, fun z => nomatch z⟩
    · refine ⟨_, rfl, rfl, _, rfl, ifF (by decide +kernel) ?_⟩
      refine ⟨_, rfl, rfl, _, rfl, ifF (by decide +kernel) ?_⟩
      refine ⟨_, rfl, rfl, _, rfl, ifT (by decide +kernel) ?_⟩
      refine ⟨_, rfl, _, rfl, _, rfl, t, n, z, ps, qs, rfl, hT, ok, fun _ _ => ?_, fun c => by omega⟩
      refine ⟨fun okAB x H' s' _ hX => ⟨by show 0 ≤ sizeLine; decide, fun q hq => k none q _ (.good okAB) (smN s' hq) upd_same⟩, fun y fs hbad d H' s' hd => ?_⟩
      obtain ⟨row, hrow, hdue⟩ := bad_row (Ad4 := Ad4) (par_hung ok.par n0 n1) (by simp [hl2]) hbad
      have s1 : Same H (upd H' d (.xd fs)) := smN s' hd
      cases hrow with
      | bc x n => exact ⟨true, T.xBadCount_PebbleError, fun _ e na => ⟨_, rfl, Ad2, d, _, _, rfl, rfl, rfl, upd_same, .bc _ _, fun q r H2 s2 hr2 hq2 => k (some _) q _ hdue (s1.trans s2) ⟨r, hq2, hr2⟩⟩, fun z => nomatch z⟩
      | nn n => exact ⟨true, T.xNoNode_PebbleError, fun _ e na => ⟨_, rfl, Ad4, d, _, _, rfl, rfl, rfl, upd_same, .nn _, fun q r H2 s2 hr2 hq2 => k (some _) q _ hdue (s1.trans s2) ⟨r, hq2, hr2⟩⟩, fun z => nomatch z⟩
      | bq n => exact ⟨true, T.xBadPrice_PebbleError, fun _ e na => ⟨_, rfl, Ad10, d, _, _, rfl, rfl, rfl, upd_same, .bq _, fun q r H2 s2 hr2 hq2 => k (some _) q _ hdue (s1.trans s2) ⟨r, hq2, hr2⟩⟩, fun z => nomatch z⟩
    · refine ⟨_, rfl, rfl, _, rfl, ifF (by decide +kernel) ?_⟩
      refine ⟨_, rfl, rfl, _, rfl, ifF (by decide +kernel) ?_⟩
      refine ⟨_, rfl, rfl, _, rfl, ifT (by decide +kernel) ?_⟩
      refine ⟨_, rfl, _, rfl, _, rfl, t, n, z, ps, qs, rfl, hT, ok, (fun c1 c2 => by omega), fun _ d hd => ?_⟩
      exact ⟨true, T.xNoNode_PebbleError, fun _ e na => ⟨_, rfl, Ad4, d, _, _, rfl, rfl, rfl, upd_same, .nn _, fun q r H2 s2 hr2 hq2 => k q r _ ((sm0 hd).trans s2) hr2 hq2⟩, fun z => nomatch z⟩
    · refine ⟨_, rfl, rfl, _, rfl, ifF (by decide +kernel) ?_⟩
      refine ⟨_, rfl, rfl, _, rfl, ifF (by decide +kernel) ?_⟩
      refine ⟨_, rfl, rfl, _, rfl, ifF (by decide +kernel) ?_⟩
      refine ⟨_, rfl, _, rfl, t, t', ps, qs, ps', qs', rfl, hT, ok, hT', ok', ?_⟩
      refine ⟨fun okAB x H' s' _ hX => ⟨by show 0 ≤ sizeLine; decide, fun q hq => k none q _ (.good okAB) (smN s' hq) upd_same⟩, fun y fs hbad d H' s' hd => ?_⟩
      obtain ⟨row, hrow, hdue⟩ := bad_row (Ad4 := Ad4) (par_glue ok.par ok'.par) (by rw [len_glue, List.length_append, hl2, ok'.2.1]) hbad
      have s1 : Same H (upd H' d (.xd fs)) := smN s' hd
      cases hrow with
      | bc x n => exact ⟨true, T.xBadCount_PebbleError, fun _ e na => ⟨_, rfl, Ad2, d, _, _, rfl, rfl, rfl, upd_same, .bc _ _, fun q r H2 s2 hr2 hq2 => k (some _) q _ hdue (s1.trans s2) ⟨r, hq2, hr2⟩⟩, fun z => nomatch z⟩
      | nn n => exact ⟨true, T.xNoNode_PebbleError, fun _ e na => ⟨_, rfl, Ad4, d, _, _, rfl, rfl, rfl, upd_same, .nn _, fun q r H2 s2 hr2 hq2 => k (some _) q _ hdue (s1.trans s2) ⟨r, hq2, hr2⟩⟩, fun z => nomatch z⟩
      | bq n => exact ⟨true, T.xBadPrice_PebbleError, fun _ e na => ⟨_, rfl, Ad10, d, _, _, rfl, rfl, rfl, upd_same, .bq _, fun q r H2 s2 hr2 hq2 => k (some _) q _ hdue (s1.trans s2) ⟨r, hq2, hr2⟩⟩, fun z => nomatch z⟩
theorem scLTryRow : FnScope ["star", "prices", "e"] ["star", "prices"] (defScope sLTryRow) := ⟨rfl, rfl, rfl, by decide +kernel, rfl, by decide +kernel, by decide +kernel⟩
theorem ok_LTryRow (T : Txt P w K mg base Ad1 Ad2 Ad4 Ad6 Ad9 Ad10 Ad11) : Cl P w K mg base 8 "_law_try_row" (spTryRow K) [] := by
  have c_StarTree := (ok_StarTree T).cl
  have c_PathTree := (ok_PathTree T).cl
  have w_LFaultOf := ok_LFaultW T
  refine cl_of T.d__law_try_row scLTryRow (fun vs H Q E h => ?_) fun f cdv A outer s H vs Q E hr h => ?_
  · obtain ⟨b, star, qs, rfl, _⟩ := h
    rfl
  · obtain ⟨b, star, qs, rfl, hb, hl, k⟩ := h
    refine ⟨_, (pss_cons (ps_try_as (i := 2) rfl rfl scLTryRow.nd rfl rfl ⟨rfl, by decide, Or.inl T.gPebbleError⟩ takes0
    (fun W pn xe tk po => (pss_one (ps_if (pt_val (pv 0))
      (pss_one (ps_expr (pe_cX tk c_StarTree hr (by decide) rfl (pa_cons (pv 1) pa_nil))))
      (pss_one (ps_expr (pe_cX tk c_PathTree hr (by decide) rfl (pa_cons (pv 1) pa_nil)))))))
    (fun a oe cls d pn hz hf => (pss_one (ps_ret (pe_cWE (X := cxd P w K mg base ["star", "prices", "e"] "_law_try_row" sLTryRow f cdv A outer s H E) (sp' := spFault Ad2 Ad4 Ad10) hz hf w_LFaultOf hr (by decide) rfl (pa_cons (pv 2) pa_nil))))))
  (pss_one (ps_ret (pe_tup pa_nil)))), ?_⟩
    cases star with
    | true =>
      refine ⟨_, rfl, _, rfl, ifT rfl ?_⟩
      refine ⟨_, rfl, b, qs, rfl, hb, hl, ?_⟩
      refine ⟨fun okAB x H' s' _ hX => ⟨by show 0 ≤ sizeLine; decide, fun q hq => k none q _ (.good okAB) (smN s' hq) upd_same⟩, fun y fs hbad d H' s' hd => ?_⟩
      obtain ⟨row, hrow, hdue⟩ := bad_row (Ad4 := Ad4) (par_star _) (by rw [len_star]) hbad
      have s1 : Same H (upd H' d (.xd fs)) := smN s' hd
      cases hrow with
      | bc x n => exact ⟨true, T.xBadCount_PebbleError, fun _ e na => ⟨_, rfl, Ad2, d, _, _, rfl, rfl, rfl, upd_same, .bc _ _, fun q r H2 s2 hr2 hq2 => k (some _) q _ hdue (s1.trans s2) ⟨r, hq2, hr2⟩⟩, fun z => nomatch z⟩
      | nn n => exact ⟨true, T.xNoNode_PebbleError, fun _ e na => ⟨_, rfl, Ad4, d, _, _, rfl, rfl, rfl, upd_same, .nn _, fun q r H2 s2 hr2 hq2 => k (some _) q _ hdue (s1.trans s2) ⟨r, hq2, hr2⟩⟩, fun z => nomatch z⟩
      | bq n => exact ⟨true, T.xBadPrice_PebbleError, fun _ e na => ⟨_, rfl, Ad10, d, _, _, rfl, rfl, rfl, upd_same, .bq _, fun q r H2 s2 hr2 hq2 => k (some _) q _ hdue (s1.trans s2) ⟨r, hq2, hr2⟩⟩, fun z => nomatch z⟩
    | false =>
      refine ⟨_, rfl, _, rfl, ifF rfl ?_⟩
      refine ⟨_, rfl, b, qs, rfl, hb, hl, ?_⟩
      refine ⟨fun okAB x H' s' _ hX => ⟨by show 0 ≤ sizeLine; decide, fun q hq => k none q _ (.good okAB) (smN s' hq) upd_same⟩, fun y fs hbad d H' s' hd => ?_⟩
      obtain ⟨row, hrow, hdue⟩ := bad_row (Ad4 := Ad4) (par_path _) (by rw [len_path]) hbad
      have s1 : Same H (upd H' d (.xd fs)) := smN s' hd
      cases hrow with
      | bc x n => exact ⟨true, T.xBadCount_PebbleError, fun _ e na => ⟨_, rfl, Ad2, d, _, _, rfl, rfl, rfl, upd_same, .bc _ _, fun q r H2 s2 hr2 hq2 => k (some _) q _ hdue (s1.trans s2) ⟨r, hq2, hr2⟩⟩, fun z => nomatch z⟩
      | nn n => exact ⟨true, T.xNoNode_PebbleError, fun _ e na => ⟨_, rfl, Ad4, d, _, _, rfl, rfl, rfl, upd_same, .nn _, fun q r H2 s2 hr2 hq2 => k (some _) q _ hdue (s1.trans s2) ⟨r, hq2, hr2⟩⟩, fun z => nomatch z⟩
      | bq n => exact ⟨true, T.xBadPrice_PebbleError, fun _ e na => ⟨_, rfl, Ad10, d, _, _, rfl, rfl, rfl, upd_same, .bq _, fun q r H2 s2 hr2 hq2 => k (some _) q _ hdue (s1.trans s2) ⟨r, hq2, hr2⟩⟩, fun z => nomatch z⟩

end
end K13
set_option maxRecDepth 100000
set_option maxHeartbeats 4000000
namespace K13
open PySem PySem.Spec PyProof.Rows L2 SI
local macro_rules | `(tactic| walk_at "lk") => `(tactic| first | exact lk_hit | exact lk_nil | (refine lk_next (by decide +kernel) ?_; walk_at "lk"))
/-! the ways up: from low, after k steps, and the product of the prices -/
def up1 (ps : List Int) (v : Nat) : Nat := if v = 0 then 0 else (ps.getD (v - 1) 0).toNat
def pr1 (qs : List Int) (v : Nat) : Int := if v = 0 then 1 else qs.getD (v - 1) 1
def anc (ps : List Int) (low : Nat) : Nat → Nat
  | 0 => low
  | k + 1 => up1 ps (anc ps low k)
def prd (ps qs : List Int) (low : Nat) : Nat → Int
  | 0 => 1
  | k + 1 => prd ps qs low k * pr1 qs (anc ps low k)
section
variable {ps qs : List Int}
theorem edge_of (ok : okT ps qs) {v : Nat} (h0 : 0 < v) (h1 : v ≤ ps.length) : ∃ (p : Nat) (q : Int), ps[v - 1]? = some (p : Int) ∧ qs[v - 1]? = some q ∧ p < v ∧ 2 ≤ q ∧ q ≤ 31 ∧ up1 ps v = p ∧ pr1 qs v = q := by
  have hv : v - 1 < ps.length := by omega
  have e1 : ps[v - 1]? = some ps[v - 1] := List.getElem?_eq_getElem hv
  have hv2 : v - 1 < qs.length := by have := ok.2.1; omega
  have e2 : qs[v - 1]? = some qs[v - 1] := List.getElem?_eq_getElem hv2
  obtain ⟨a, b, c, d⟩ := ok.2.2 (v - 1) _ _ hv e1 e2
  refine ⟨ps[v - 1].toNat, qs[v - 1], by rw [e1]; congr 1; omega, e2, by omega, c, d, ?_, ?_⟩
  · unfold up1
    rw [if_neg (by omega), List.getD_eq_getElem?_getD, e1]
    rfl
  · unfold pr1
    rw [if_neg (by omega), List.getD_eq_getElem?_getD, e2]
    rfl
theorem up1_zero : up1 ps 0 = 0 := rfl
theorem anc_le (ok : okT ps qs) {low : Nat} (hl : low ≤ ps.length) : ∀ k, anc ps low k ≤ low ∧ (anc ps low k + k ≤ low ∨ anc ps low k = 0)
  | 0 => ⟨Nat.le_refl _, .inl (Nat.le_refl _)⟩
  | k + 1 => by
    obtain ⟨h1, h2⟩ := anc_le ok hl k
    show up1 ps (anc ps low k) ≤ low ∧ (up1 ps (anc ps low k) + (k + 1) ≤ low ∨ up1 ps (anc ps low k) = 0)
    by_cases c : anc ps low k = 0
    · rw [c]
      exact ⟨Nat.zero_le _, .inr rfl⟩
    · obtain ⟨p, q, _, _, hp, _, _, e, _⟩ := edge_of ok (v := anc ps low k) (by omega) (by omega)
      rw [e]
      exact ⟨by omega, .inl (by omega)⟩
theorem prd_le (ok : okT ps qs) {low : Nat} (hl : low ≤ ps.length) : ∀ k, 1 ≤ prd ps qs low k ∧ prd ps qs low k ≤ 31 ^ (low - anc ps low k)
  | 0 => ⟨Int.le_refl _, by show (1 : Int) ≤ _; exact pow31 _⟩
  | k + 1 => by
    obtain ⟨h1, h2⟩ := prd_le ok hl k
    have ha := (anc_le ok hl k).1
    show 1 ≤ prd ps qs low k * pr1 qs (anc ps low k) ∧ prd ps qs low k * pr1 qs (anc ps low k) ≤ 31 ^ (low - up1 ps (anc ps low k))
    by_cases c : anc ps low k = 0
    · rw [c] at h2 ⊢
      have e : pr1 qs 0 = 1 := rfl
      rw [e, Int.mul_one, up1_zero]
      exact ⟨h1, h2⟩
    · obtain ⟨p, q, _, _, hp, q2, q31, e, e'⟩ := edge_of ok (v := anc ps low k) (by omega) (by omega)
      rw [e, e']
      have m1 : (1 : Int) * 1 ≤ prd ps qs low k * q := Int.mul_le_mul h1 (by omega) (by decide) (by omega)
      have m2 : prd ps qs low k * q ≤ 31 ^ (low - anc ps low k) * 31 := Int.mul_le_mul h2 q31 (by omega) (by have := pow31 (low - anc ps low k); omega)
      rw [← Int.pow_succ] at m2
      exact ⟨by omega, Int.le_trans m2 (pow31_le (by omega))⟩
/-- f holds the greatest product of what is done -/
structure Mx (ps qs : List Int) (S : Nat → Nat → Prop) (f : List Int) : Prop where
  len : f.length = ps.length + 1
  one : ∀ (v : Nat) x, f[v]? = some x → 1 ≤ x
  ge : ∀ low k x, S low k → f[anc ps low k]? = some x → prd ps qs low k ≤ x
  at_ : ∀ (v : Nat) x, f[v]? = some x → x = 1 ∨ ∃ low k, S low k ∧ anc ps low k = v ∧ prd ps qs low k = x
theorem mx_ones : Mx ps qs (fun _ _ => False) (List.replicate (ps.length + 1) 1) where
  len := by simp
  one := fun v x h => by
    rw [List.getElem?_replicate] at h
    split at h <;> cases h
    exact Int.le_refl _
  ge := fun _ _ _ h => h.elim
  at_ := fun v x h => by
    rw [List.getElem?_replicate] at h
    split at h <;> cases h
    exact .inl rfl
theorem mx_step {S S' : Nat → Nat → Prop} {f : List Int} {L t : Nat} {y : Int} (h : Mx ps qs S f) (hy : f[anc ps L t]? = some y) (hS : ∀ low k, S' low k ↔ S low k ∨ (low = L ∧ k = t)) :
    Mx ps qs S' (f.set (anc ps L t) (if prd ps qs L t > y then prd ps qs L t else y)) where
  len := by rw [List.length_set]; exact h.len
  one := fun v x hx => by
    rw [List.getElem?_set] at hx
    split at hx
    · split at hx
      · cases hx
        have := h.one _ _ hy
        split <;> omega
      · cases hx
    · exact h.one _ _ hx
  ge := fun low k x hs hx => by
    have hlt := (List.getElem?_eq_some_iff.mp hy).1
    rw [List.getElem?_set] at hx
    split at hx
    · rename_i e
      cases hx
      rcases (hS low k).mp hs with hs | ⟨rfl, rfl⟩
      · have := h.ge low k y hs (by rw [← e]; exact hy)
        split <;> omega
      · split <;> omega
    · rename_i e
      rcases (hS low k).mp hs with hs | ⟨rfl, rfl⟩
      · exact h.ge low k x hs hx
      · exact absurd rfl e
  at_ := fun v x hx => by
    have hlt := (List.getElem?_eq_some_iff.mp hy).1
    rw [List.getElem?_set] at hx
    split at hx
    · rename_i e
      cases hx
      split
      · exact .inr ⟨L, t, (hS _ _).mpr (.inr ⟨rfl, rfl⟩), e, rfl⟩
      · rcases h.at_ _ _ hy with h1 | ⟨low, k, hs, h1, h2⟩
        · exact .inl h1
        · exact .inr ⟨low, k, (hS _ _).mpr (.inl hs), by rw [h1, e], h2⟩
    · rcases h.at_ _ _ hx with h1 | ⟨low, k, hs, h1, h2⟩
      · exact .inl h1
      · exact .inr ⟨low, k, (hS _ _).mpr (.inl hs), h1, h2⟩
theorem mx_imp {S S' : Nat → Nat → Prop} {f : List Int} (h : Mx ps qs S f) (hS : ∀ low k, S' low k ↔ S low k) : Mx ps qs S' f :=
  ⟨h.len, h.one, fun low k x hs => h.ge low k x ((hS _ _).mp hs), fun v x hx => (h.at_ v x hx).elim .inl fun ⟨low, k, hs, r⟩ => .inr ⟨low, k, (hS _ _).mpr hs, r⟩⟩
theorem mx_isH (ok : okT ps qs) {f : List Int} (h : Mx ps qs (fun low k => low ≤ ps.length ∧ k ≤ ps.length) f) : IsH ps qs 0 f := by
  have up : ∀ (i : Nat) p q x y, ps[i]? = some p → qs[i]? = some q → f[i + 1]? = some x → f[p.toNat]? = some y → q * x ≤ y := by
    intro i p q x y hp hq hx hy
    have hi := (List.getElem?_eq_some_iff.mp hp).1
    obtain ⟨p', q', e1, e2, h3, h4, h5, h6, h7⟩ := edge_of ok (v := i + 1) (by omega) (by omega)
    rw [Nat.add_sub_cancel, hp] at e1
    rw [Nat.add_sub_cancel, hq] at e2
    cases e1
    cases e2
    rw [Int.toNat_natCast] at hy
    have key : ∀ low k, low ≤ ps.length → k ≤ ps.length → anc ps low k = i + 1 → prd ps qs low k = x → q * x ≤ y := by
      intro low k hl hk ha hx'
      have hk2 := (anc_le ok hl k).2
      have e : anc ps low (k + 1) = p' := by show up1 ps (anc ps low k) = p'; rw [ha]; exact h6
      have := h.ge low (k + 1) y ⟨hl, by omega⟩ (by rw [e]; exact hy)
      have e2 : prd ps qs low (k + 1) = x * q := by show prd ps qs low k * pr1 qs (anc ps low k) = _; rw [ha, h7, hx']
      rw [e2, Int.mul_comm] at this
      exact this
    rcases h.at_ _ _ hx with rfl | ⟨low, k, ⟨hl, hk⟩, ha, hx'⟩
    · exact key (i + 1) 0 (by omega) (by omega) rfl rfl
    · exact key low k hl hk ha hx'
  refine ⟨h.len, fun v x hx => ⟨h.one v x hx, ?_⟩, fun i p q x y _ => up i p q x y, fun v y hy => ?_⟩
  · rcases h.at_ _ _ hx with rfl | ⟨low, k, ⟨hl, hk⟩, ha, hx'⟩
    · exact pow31 _
    · have := (prd_le ok hl k).2
      rw [ha, hx'] at this
      exact Int.le_trans this (pow31_le (by omega))
  · rcases h.at_ _ _ hy with rfl | ⟨low, k, ⟨hl, hk⟩, ha, hx'⟩
    · exact .inl rfl
    · clear hk
      induction k with
      | zero => exact .inl hx'.symm
      | succ k ih =>
        have ha' : up1 ps (anc ps low k) = v := ha
        have hx2 : prd ps qs low k * pr1 qs (anc ps low k) = y := hx'
        by_cases c : anc ps low k = 0
        · rw [c] at ha' hx2
          rw [show pr1 qs 0 = 1 from rfl, Int.mul_one] at hx2
          exact ih (by rw [c]; exact ha') hx2
        · have hal := (anc_le ok hl k).1
          obtain ⟨p', q', e1, e2, h3, h4, h5, h6, h7⟩ := edge_of ok (v := anc ps low k) (by omega) (by omega)
          rw [h6] at ha'
          subst ha'
          rw [h7] at hx2
          obtain ⟨x, hx⟩ : ∃ x, f[anc ps low k - 1 + 1]? = some x := ⟨_, List.getElem?_eq_getElem (by rw [h.len]; omega)⟩
          have u := up _ _ _ x y e1 e2 hx (by rw [Int.toNat_natCast]; exact hy)
          rw [show anc ps low k - 1 + 1 = anc ps low k by omega] at hx
          have hk2 := (anc_le ok hl k).2
          have g := h.ge low k x ⟨hl, by omega⟩ hx
          refine .inr ⟨anc ps low k - 1, q', x, Nat.zero_le _, e1, e2, by rw [show anc ps low k - 1 + 1 = anc ps low k by omega]; exact hx, ?_⟩
          have g2 : q' * prd ps qs low k ≤ q' * x := Int.mul_le_mul_of_nonneg_left g (by omega)
          rw [Int.mul_comm] at hx2
          omega
end

theorem mx_more {ps qs : List Int} {S S' : Nat → Nat → Prop} {f : List Int} (h : Mx ps qs S f) (h1 : ∀ low k, S low k → S' low k) (h2 : ∀ low k, S' low k → S low k ∨ prd ps qs low k = 1 ∨ ∃ k', S low k' ∧ anc ps low k' = anc ps low k ∧ prd ps qs low k' = prd ps qs low k) : Mx ps qs S' f :=
  ⟨h.len, h.one, fun low k x hs hx => by
    rcases h2 low k hs with c | c | ⟨k', c, e1, e2⟩
    · exact h.ge low k x c hx
    · rw [c]; exact h.one _ _ hx
    · rw [← e2]; exact h.ge low k' x c (by rw [e1]; exact hx), fun v x hx => (h.at_ v x hx).elim .inl fun ⟨low, k, hs, r⟩ => .inr ⟨low, k, h1 _ _ hs, r⟩⟩
theorem anc_stay {ps qs : List Int} {low t : Nat} (h : anc ps low t = 0) : ∀ k, anc ps low (t + k) = 0 ∧ prd ps qs low (t + k) = prd ps qs low t
  | 0 => ⟨h, rfl⟩
  | k + 1 => by
    obtain ⟨h1, h2⟩ := anc_stay (qs := qs) h k
    refine ⟨?_, ?_⟩
    · show up1 ps (anc ps low (t + k)) = 0
      rw [h1]; rfl
    · show prd ps qs low (t + k) * pr1 qs (anc ps low (t + k)) = _
      rw [h1, h2, show pr1 qs 0 = 1 from rfl, Int.mul_one]
theorem prd0 {ps qs : List Int} (k : Nat) : prd ps qs 0 k = 1 := by
  have := anc_stay (ps := ps) (qs := qs) (low := 0) (t := 0) rfl k
  rw [Nat.zero_add] at this
  exact this.2
def spPool (K : PySem.W.Frag) : Sp := fun vs H Q _ => ∃ (a : Addr) (ns : List Int), vs = [.ref a] ∧ SqL K H a (ns.map V.int) ∧ ns.length ≤ 63 ∧ ∀ p H', Same H H' → H p = none → PoolB H' p 0 → Q (.ref p) H'
def spPRow : Sp := fun vs H Q _ => ∃ (p : Addr) (n : Int) (b : Nat), vs = [.ref p, .int n] ∧ PoolB H p b ∧ b ≤ 10 ^ 6 ∧ 0 ≤ n ∧ n ≤ 59 ∧ ∀ (q : Addr) (ps : List Int) H', But p H H' → PoolB H' p (b + 100) → H q = none → H' q = some (.lst (ps.map V.int)) → (ps.length : Int) = n → parOk ps → Q (.ref q) H'
def spQRow : Sp := fun vs H Q _ => ∃ (p : Addr) (n : Int) (b : Nat), vs = [.ref p, .int n] ∧ PoolB H p b ∧ b ≤ 10 ^ 6 ∧ 0 ≤ n ∧ n ≤ 59 ∧ ∀ (q : Addr) (qs : List Int) H', But p H H' → PoolB H' p (b + 100) → H q = none → H' q = some (.lst (qs.map V.int)) → (qs.length : Int) = n → (∀ x ∈ qs, 2 ≤ x ∧ x ≤ 31) → Q (.ref q) H'
def spHRow : Sp := fun vs H Q _ => ∃ (a b : Addr) (ps qs : List Int), vs = [.ref a, .ref b] ∧ H a = some (.lst (ps.map V.int)) ∧ H b = some (.lst (qs.map V.int)) ∧ okT ps qs ∧ ∀ q H' f, Same H H' → IsH ps qs 0 f → H' q = some (.lst (f.map V.int)) → Q (.ref q) H'
def spLineOf : Sp := fun vs H Q _ => ∃ (a b : Addr) (ps qs : List Int), vs = [.ref a, .ref b] ∧ H a = some (.lst (ps.map V.int)) ∧ H b = some (.lst (qs.map V.int)) ∧ okT ps qs ∧ ∀ x y q H', Same H H' → LineIs ps qs x y → H' q = some (.tup [.int x, .int y]) → Q (.ref q) H'
def spIsTree (C : Addr) : Sp := fun vs H Q _ => ∃ (t a b : Addr) (ps qs : List Int), vs = [.ref t, .ref a, .ref b] ∧ TreeAt C H t ps qs ∧ H a = some (.lst (ps.map V.int)) ∧ H b = some (.lst (qs.map V.int)) ∧ okT ps qs ∧ ∀ H', Same H H' → Q (.bl true) H'
def spWrong : Sp := fun vs H Q _ => ∃ (p : Addr) (b : Nat), vs = [.ref p] ∧ PoolB H p b ∧ b ≤ 10 ^ 6 ∧ ∀ z H', But p H H' → PoolB H' p (b + 3) → (z < 2 ∨ 31 < z) → Q (.int z) H'
theorem ok_rows {ps qs : List Int} (h : parOk ps) (hq : ∀ x ∈ qs, 2 ≤ x ∧ x ≤ 31) (hl : qs.length = ps.length) (h59 : ps.length ≤ 59) : okT ps qs := ⟨h59, hl, fun i p q _ hp hq' => ⟨(h i p hp).1, (h i p hp).2, hq q (List.mem_of_getElem? hq')⟩⟩
section
variable {P : Program} {w : World} {K : PySem.W.Frag} {mg : Str → Option Value} {base : Heap} {Ad1 Ad2 Ad4 Ad6 Ad9 Ad10 Ad11 : Addr}
theorem scLTakeCells : FnScope ["script", "digits", "number"] ["script"] (defScope sLTakeCells) := ⟨rfl, rfl, rfl, by decide +kernel, rfl, by decide +kernel, by decide +kernel⟩
theorem ok_LTakeCells (T : Txt P w K mg base Ad1 Ad2 Ad4 Ad6 Ad9 Ad10 Ad11) : Cl P w K mg base 1 "_law_take_cells" (spPool K) [] := by
  refine cl_of T.d__law_take_cells scLTakeCells (fun vs H Q E h => ?_) fun f cdv A outer s H vs Q E hr h => ?_
  · obtain ⟨a, ns, rfl, _⟩ := h
    rfl
  · obtain ⟨a, ns, rfl, ha, hl, k⟩ := h
    refine ⟨_, (pss_cons (ps_setLc (i := 1) (own := [(("number" : Str), 2)]) (g := gName 2) (by rfl) scLTakeCells.nd rfl rfl (sw_true rfl rfl rfl (by decide +kernel)) (pi_list (pe_slice sl_list (pv 0) po_none (po_some pe_int))) (blkOk_by (own := [(("number" : Str), 2)]) (N := ["script", "digits", "number"]) (sc := defScope sLTakeCells) (by decide +kernel)) (fun _ _ _ _ _ => (pg_name (i := 2) scLTakeCells.nd rfl (by first | exact Or.inl rfl | exact Or.inr rfl))) (fun _ _ _ _ _ => pts_nil) (fun _ _ _ _ _ => (pe_op op_mod (pe_callTy call_intI (by rfl) T.b_int (by decide +kernel) (pa_cons (pv 2) pa_nil)) (pe_op op_pow pe_int pe_int))))
  (pss_one (ps_ret (pe_op op_cat (pe_lst (pa_cons (pe_op op_mod (pe_callTy call_intI (by rfl) T.b_int (by decide +kernel) (pa_cons (pe_callB (cr_sum rfl) (by rfl) T.b_sum (by decide +kernel) (pa_cons (pv 1) pa_nil)) pa_nil)) pe_int) pa_nil)) (pe_revL (pv 1)))))), ?_⟩
    obtain ⟨ms, ecut, hms, _⟩ := cut_map V.int ns none (some 63)
    refine ⟨_, rfl, _, rfl, a, _, rfl, ha, ?_⟩
    rw [ecut]
    intro p hp
    refine ⟨p, rfl, ⟨_, SqL.of upd_same⟩, fun D hD => lc_list (K := K) (a := p) (xs := ms.map V.int)
      (fun i H' => Same (upd H p (.lst (ms.map V.int))) H' ∧ ∃ acc : List Int, H' D = some (.lst (acc.map V.int)) ∧ acc.length = i)
      ⟨sm0 hD, [], upd_same, rfl⟩ (fun i H' _ h => h.1.seq (SqL.of upd_same)) (fun i x H' hx h => ?_) fun H' h => ?_⟩
    · obtain ⟨sh, acc, hacc, hlen⟩ := h
      obtain ⟨z, hz, rfl⟩ := ints_at hx
      have hi : i < ms.length := (List.getElem?_eq_some_iff.mp hz).1
      refine ⟨rfl, ?_⟩
      refine ⟨_, rfl, _, rfl, _, _, rfl, rfl, pow10 (by decide) (by decide), _, _, rfl, rfl, (by show (0 : Int) < 10 ^ 60; decide), _, hacc, by rw [List.length_map]; exact sz_lt (by omega), smM sh hD, acc ++ [z % 10 ^ 60], ?_, by simp [hlen]⟩
      rw [upd_same, List.map_append]
      rfl
    · obtain ⟨sh, acc, hacc, hlen⟩ := h
      rw [List.length_map] at hlen
      have s1 : Same H H' := (sm0 hp).trans sh
      refine ⟨_, rfl, D, acc, rfl, SqL.of hacc, _, rfl, _, _, rfl, rfl, (by show (0 : Int) < 1000003; decide), ?_⟩
      refine ⟨by show 1 ≤ sizeLine; decide, fun l1 hl1 => ?_⟩
      refine ⟨_, rfl, D, _, rfl, SqL.of (atN hacc hl1), fun l2 hl2 => ?_⟩
      refine ⟨l1, l2, _, _, rfl, rfl, atN upd_same hl2, upd_same, (by simp; exact sz_small (by omega)), fun q hq => ?_⟩
      refine k q _ (smN (smN (smN s1 hl1) hl2) hq) ((smN (smN s1 hl1) hl2).free hq) ⟨acc.sum % 1000003, acc.reverse, ?_, Int.emod_nonneg _ (by decide), ?_, by rw [List.length_reverse]; omega⟩
      · rw [upd_same, ← List.map_reverse]
        rfl
      · have := Int.emod_lt_of_pos acc.sum (show (0 : Int) < 1000003 by decide)
        omega
theorem scLParentRow : FnScope ["pool", "edges", "shape", "parents", "at", "digit"] ["pool", "edges"] (defScope sLParentRow) := ⟨rfl, rfl, rfl, by decide +kernel, rfl, by decide +kernel, by decide +kernel⟩
theorem ok_LParentRow (T : Txt P w K mg base Ad1 Ad2 Ad4 Ad6 Ad9 Ad10 Ad11) : Cl P w K mg base 2 "_law_parent_row" spPRow [] := by
  have c_LDraw := ok_LDraw T
  refine cl_of T.d__law_parent_row scLParentRow (fun vs H Q E h => ?_) fun f cdv A outer s H vs Q E hr h => ?_
  · obtain ⟨p, n, b, rfl, _⟩ := h
    rfl
  · obtain ⟨p, n, b, rfl, hp, hb, n0, n1, k⟩ := h
    refine ⟨_, (pss_cons (ps_set (i := 2) scLParentRow.nd rfl (by first | exact Or.inl rfl | exact Or.inr rfl) (pe_c c_LDraw hr (by decide) rfl (pa_cons (pv 0) (pa_cons pe_int pa_nil))))
  (pss_cons (ps_set (i := 3) scLParentRow.nd rfl (by first | exact Or.inl rfl | exact Or.inr rfl) (pe_lst pa_nil))
  (pss_cons (ps_for (passes_of rfl) rfl (pi_range1 (by rfl) T.b_range (pa_cons (pv 1) pa_nil)) (pg_name (i := 4) scLParentRow.nd rfl (by first | exact Or.inl rfl | exact Or.inr rfl))
    (pss_cons (ps_set (i := 5) scLParentRow.nd rfl (by first | exact Or.inl rfl | exact Or.inr rfl) (pe_c c_LDraw hr (by decide) rfl (pa_cons (pv 0) (pa_cons (pe_op op_add (pv 4) pe_int) pa_nil))))
    (pss_one (ps_if (pt_cmpR op_eq (pv 2) pe_int (nomark _))
      (pss_one (ps_expr (pe_bm PySem.F.plainAttrs_list PySem.F.slot_list_append PySem.F.type_list_append mt_append (pv 3) (pa_cons (pv 5) pa_nil))))
      (pss_one (ps_if (pt_cmpR op_eq (pv 2) pe_int (nomark _))
        (pss_one (ps_expr (pe_bm PySem.F.plainAttrs_list PySem.F.slot_list_append PySem.F.type_list_append mt_append (pv 3) (pa_cons (pe_callB (call_max2 rfl) (by rfl) T.b_max (by decide +kernel) (pa_cons pe_int (pa_cons (pe_op op_sub (pv 4) (pe_op op_mod (pe_callTy call_intI (by rfl) T.b_int (by decide +kernel) (pa_cons (pv 5) pa_nil)) pe_int)) pa_nil))) pa_nil))))
        (pss_one (ps_expr (pe_bm PySem.F.plainAttrs_list PySem.F.slot_list_append PySem.F.type_list_append mt_append (pv 3) (pa_cons (pe_op op_mod (pe_callTy call_intI (by rfl) T.b_int (by decide +kernel) (pa_cons (pv 5) pa_nil)) (pe_callB (call_min2 rfl) (by rfl) T.b_min (by decide +kernel) (pa_cons pe_int (pa_cons (pe_op op_add (pv 4) pe_int) pa_nil)))) pa_nil))))))))))
  (pss_one (ps_ret (pv 3)))))), ?_⟩
    have hb6 : b ≤ 1000000 := hb
    have G : ∀ {c : Nat}, c ≤ b + 1000 → c ≤ 10 ^ 100 := fun h => big6 (by show _ ≤ 10000000; omega)
    have N : ∀ {n : Int}, n ≤ 1000 → n ≤ 10 ^ 130 := fun h => Int.le_trans h (by decide +kernel)
    refine ⟨_, rfl, draw_of hp (G (by omega)) (by decide) (N (by decide)) fun sh H1 b1 p1 s0 s1 => ?_⟩
    refine ⟨by show 0 ≤ sizeLine; decide, fun a ha => ?_⟩
    have na := p1.ne ha
    have fa := b1.free na ha
    have p2 := p1.new (o := .lst []) ha
    have bH2 : But p H (upd H1 a (.lst [])) := b1.trans (But.of (sm0 ha))
    refine ⟨_, rfl, _, rfl, by omega, by omega, ?_⟩
    refine for_range (lo := 0) (n := n.toNat) (fun i σ H' => ∃ (v4 v5 : Option V) (ps : List Int), σ = [some (.ref p), some (.int n), some (.int sh), some (.ref a), v4, v5] ∧ But p H H' ∧ PoolB H' p (b + 1 + i) ∧ H' a = some (.lst (ps.map V.int)) ∧ ps.length = i ∧ parOk ps)
      ⟨none, none, [], rfl, bH2, p2, upd_same, rfl, fun i p h => by simp at h⟩ (fun i σ H' hi h => ?_) fun σ H' h => ?_
    · obtain ⟨v4, v5, ps, rfl, bH, pH, hA, lp, hok⟩ := h
      rw [Int.zero_add]
      refine ⟨_, rfl, _, rfl, _, _, rfl, rfl, draw_of pH (G (by omega)) (by omega) (N (by omega)) fun d H3 b3 p3 d0 d1 => ?_⟩
      have hA3 := b3 a _ na hA
      have bH3 := bH.trans b3
      have fin : ∀ z : Int, 0 ≤ z → z ≤ i → ∃ (v4 v5 : Option V) (ps' : List Int), ([some (.ref p), some (.int n), some (.int sh), some (.ref a), some (.int (i : Nat)), some (.int d)] : L2.St) = [some (.ref p), some (.int n), some (.int sh), some (.ref a), v4, v5] ∧ But p H (upd H3 a (.lst (ps.map V.int ++ [.int z]))) ∧ PoolB (upd H3 a (.lst (ps.map V.int ++ [.int z]))) p (b + 1 + (i + 1)) ∧ upd H3 a (.lst (ps.map V.int ++ [.int z])) a = some (.lst (ps'.map V.int)) ∧ ps'.length = i + 1 ∧ parOk ps' := fun z z0 z1 =>
        ⟨_, _, ps ++ [z], rfl, fun x o nx e => by rw [upd_ne (ne_of_none e fa)]; exact bH3 x o nx e, (p3.put na).up (by omega), by rw [upd_same, List.map_append]; rfl, by simp [lp], par_hung hok z0 (by omega)⟩
      have hsz : (ps.map V.int).length < sizeLine := by rw [List.length_map]; exact sz_lt (by omega)
      refine ⟨_, rfl, rfl, _, rfl, ifI (fun c => ?_) fun c => ?_⟩
      · exact ⟨_, rfl, .inl ⟨rfl, _, SqL.of hA3⟩, _, rfl, a, _, _, rfl, rfl, hA3, hsz, fin d d0 (by omega)⟩
      refine ⟨_, rfl, rfl, _, rfl, ifI (fun c2 => ?_) fun c2 => ?_⟩
      · refine ⟨_, rfl, .inl ⟨rfl, _, SqL.of hA3⟩, _, rfl, _, rfl, _, rfl, _, _, rfl, rfl, (by show (0 : Int) < 3; decide), _, _, rfl, rfl, _, _, rfl, a, _, _, rfl, rfl, hA3, hsz, ?_⟩
        have h3 := Int.emod_nonneg d (show (3 : Int) ≠ 0 by decide)
        refine fin _ ?_ ?_ <;> (split <;> omega)
      · have hm : (0 : Int) < (if (i : Int) + 1 < 4 then (i : Int) + 1 else 4) := by split <;> omega
        refine ⟨_, rfl, .inl ⟨rfl, _, SqL.of hA3⟩, _, rfl, _, rfl, _, rfl, _, _, rfl, rfl, _, _, rfl, _, _, rfl, rfl, hm, a, _, _, rfl, rfl, hA3, hsz, ?_⟩
        have h3 := Int.emod_nonneg d (show (if (i : Int) + 1 < 4 then (i : Int) + 1 else 4) ≠ 0 by omega)
        have h4 := Int.emod_lt_of_pos d hm
        refine fin _ h3 ?_
        have : (if (i : Int) + 1 < 4 then (i : Int) + 1 else 4) ≤ (i : Int) + 1 := by split <;> omega
        omega
    · obtain ⟨v4, v5, ps, rfl, bH, pH, hA, lp, hok⟩ := h
      exact ⟨_, rfl, k a ps H' bH (pH.up (by omega)) fa hA (by omega) hok⟩
theorem scLPriceRow : FnScope ["pool", "edges", "wide", "at"] ["pool", "edges"] (defScope sLPriceRow) := ⟨rfl, rfl, rfl, by decide +kernel, rfl, by decide +kernel, by decide +kernel⟩
theorem ok_LPriceRow (T : Txt P w K mg base Ad1 Ad2 Ad4 Ad6 Ad9 Ad10 Ad11) : Cl P w K mg base 2 "_law_price_row" spQRow [] := by
  have c_LDraw := ok_LDraw T
  refine cl_of T.d__law_price_row scLPriceRow (fun vs H Q E h => ?_) fun f cdv A outer s H vs Q E hr h => ?_
  · obtain ⟨p, n, b, rfl, _⟩ := h
    rfl
  · obtain ⟨p, n, b, rfl, hp, hb, n0, n1, k⟩ := h
    refine ⟨_, (pss_cons (ps_set (i := 2) scLPriceRow.nd rfl (by first | exact Or.inl rfl | exact Or.inr rfl) (pe_op op_add pe_int (pe_op op_mulW pe_int (pe_c c_LDraw hr (by decide) rfl (pa_cons (pv 0) (pa_cons pe_int pa_nil))))))
  (pss_one (ps_ret (pe_lc (own := [(("at" : Str), 3)]) (g := gName 3) (by rfl) scLPriceRow.nd (pi_range1 (by rfl) T.b_range (pa_cons (pv 1) pa_nil)) (blkOk_by (own := [(("at" : Str), 3)]) (N := ["pool", "edges", "wide", "at"]) (sc := defScope sLPriceRow) (by decide +kernel)) (fun _ _ _ _ _ => (pg_name (i := 3) scLPriceRow.nd rfl (by first | exact Or.inl rfl | exact Or.inr rfl))) (fun _ _ _ _ _ => pts_nil) (fun _ _ _ _ _ => (pe_op op_add pe_int (pe_c c_LDraw hr (by decide) rfl (pa_cons (pv 0) (pa_cons (pv 2) pa_nil))))))))), ?_⟩
    have hb6 : b ≤ 1000000 := hb
    have G : ∀ {c : Nat}, c ≤ b + 1000 → c ≤ 10 ^ 100 := fun h => big6 (by show _ ≤ 10000000; omega)
    have N : ∀ {n : Int}, n ≤ 1000 → n ≤ 10 ^ 130 := fun h => Int.le_trans h (by decide +kernel)
    refine ⟨_, rfl, draw_of hp (G (by omega)) (by decide) (N (by decide)) fun sh H1 b1 p1 s0 s1 => ?_⟩
    refine ⟨_, _, rfl, rfl, cmul_small (abs_small (by decide) (by decide)) (abs_small (by omega) (by omega)), _, _, rfl, rfl, ?_⟩
    refine ⟨_, rfl, _, rfl, by omega, by omega, fun D hD => ?_⟩
    have nD := p1.ne hD
    have fD := b1.free nD hD
    refine lc_range (lo := 0) (n := n.toNat) (fun i H' => But p H H' ∧ PoolB H' p (b + 1 + i) ∧ ∃ qs : List Int, H' D = some (.lst (qs.map V.int)) ∧ qs.length = i ∧ ∀ x ∈ qs, 2 ≤ x ∧ x ≤ 31)
      ⟨b1.trans (But.of (sm0 hD)), p1.new hD, [], upd_same, rfl, fun x hx => by cases hx⟩ (fun i H' hi z => ?_) fun H' z => ?_
    · obtain ⟨bH, pH, qs, hacc, lq, hq⟩ := z
      refine ⟨rfl, ?_⟩
      refine ⟨_, rfl, _, rfl, draw_of pH (G (by omega)) (by omega) (N (by omega)) fun d H3 b3 p3 d0 d1 => ?_⟩
      have hacc3 := b3 D _ nD hacc
      refine ⟨_, _, rfl, rfl, _, hacc3, by rw [List.length_map]; exact sz_lt (by omega), fun x o nx e => by rw [upd_ne (ne_of_none e fD)]; exact (bH.trans b3) x o nx e, (p3.put nD).up (by omega), qs ++ [2 + d], by rw [upd_same, List.map_append]; rfl, by simp [lq], fun x hx => ?_⟩
      rcases List.mem_append.mp hx with hx | hx
      · exact hq x hx
      · rw [List.mem_singleton] at hx
        subst hx
        omega
    · obtain ⟨bH, pH, qs, hacc, lq, hq⟩ := z
      exact k D qs H' bH (pH.up (by omega)) fD hacc (by omega) hq
theorem scLHeightRow : FnScope ["parents", "prices", "heights_v", "start", "node", "product", "turn"] ["parents", "prices"] (defScope sLHeightRow) := ⟨rfl, rfl, rfl, by decide +kernel, rfl, by decide +kernel, by decide +kernel⟩
theorem ok_LHeightRow (T : Txt P w K mg base Ad1 Ad2 Ad4 Ad6 Ad9 Ad10 Ad11) : Cl P w K mg base 1 "_law_height_row" spHRow [] := by
  refine cl_of T.d__law_height_row scLHeightRow (fun vs H Q E h => ?_) fun f cdv A outer s H vs Q E hr h => ?_
  · obtain ⟨a, b, ps, qs, rfl, _⟩ := h
    rfl
  · obtain ⟨a, b, ps, qs, rfl, ha, hb, ok, k⟩ := h
    refine ⟨_, (pss_cons (ps_set (i := 2) scLHeightRow.nd rfl (by first | exact Or.inl rfl | exact Or.inr rfl) (pe_op op_rep (pe_lst (pa_cons pe_int pa_nil)) (pe_op op_add (pe_callB call_len_seq (by rfl) T.b_len (by decide +kernel) (pa_cons (pv 0) pa_nil)) pe_int)))
  (pss_cons (ps_for (passes_of rfl) rfl (pi_range2 (by rfl) T.b_range (pa_cons pe_int (pa_cons (pe_callB call_len_seq (by rfl) T.b_len (by decide +kernel) (pa_cons (pv 2) pa_nil)) pa_nil))) (pg_name (i := 3) scLHeightRow.nd rfl (by first | exact Or.inl rfl | exact Or.inr rfl))
    (pss_cons (ps_set (i := 4) scLHeightRow.nd rfl (by first | exact Or.inl rfl | exact Or.inr rfl) (pv 3))
    (pss_cons (ps_set (i := 5) scLHeightRow.nd rfl (by first | exact Or.inl rfl | exact Or.inr rfl) pe_int)
    (pss_one (ps_for (passes_of rfl) rfl (pi_range1 (by rfl) T.b_range (pa_cons (pe_callB call_len_seq (by rfl) T.b_len (by decide +kernel) (pa_cons (pv 0) pa_nil)) pa_nil)) (pg_name (i := 6) scLHeightRow.nd rfl (by first | exact Or.inl rfl | exact Or.inr rfl))
      (pss_cons (ps_if (pt_cmpR op_eq (pv 4) pe_int (nomark _))
        (pss_one ps_break)
        pss_nil)
      (pss_cons (ps_set (i := 5) scLHeightRow.nd rfl (by first | exact Or.inl rfl | exact Or.inr rfl) (pe_op op_mulW (pv 5) (pe_ix ix_list (pv 1) (pe_op op_sub (pv 4) pe_int) (fun _ _ => rfl))))
      (pss_cons (ps_set (i := 4) scLHeightRow.nd rfl (by first | exact Or.inl rfl | exact Or.inr rfl) (pe_ix ix_list (pv 0) (pe_op op_sub (pv 4) pe_int) (fun _ _ => rfl)))
      (pss_one (ps_asg (pe_callB (call_max2 rfl) (by rfl) T.b_max (by decide +kernel) (pa_cons (pe_ix ix_list (pv 2) (pv 4) (fun _ _ => rfl)) (pa_cons (pv 5) pa_nil))) (pg_sub (pv 2) (pv 4) set_list)))))))))))
  (pss_one (ps_ret (pv 2))))), ?_⟩
    have hl := ok.1
    have hl2 := ok.2.1
    refine ⟨by show 1 ≤ sizeLine; decide, fun z1 h1 => ?_⟩
    have s1 : Same H (upd H z1 (.lst [.int 1])) := sm0 h1
    refine ⟨_, rfl, a, _, rfl, .inl (SqL.of (s1 _ _ ha)), _, _, rfl, rfl, z1, _, _, rfl, rfl, upd_same, by simp; omega, by simp; omega, sz_small (by simp; omega), fun F hF => ?_⟩
    rw [show ((((ps.map V.int).length : Nat) : Int) + 1).toNat = ps.length + 1 by simp, rep_one]
    have s2 : Same H (upd (upd H z1 (.lst [.int 1])) F (.lst (List.replicate (ps.length + 1) (.int 1)))) := smN s1 hF
    have e0 : List.replicate (ps.length + 1) (V.int 1) = (List.replicate (ps.length + 1) (1 : Int)).map V.int := by rw [List.map_replicate]
    have hF2 : upd (upd H z1 (.lst [.int 1])) F (.lst (List.replicate (ps.length + 1) (.int 1))) F = some (.lst ((List.replicate (ps.length + 1) (1 : Int)).map V.int)) := by rw [upd_same, e0]
    have fF := s1.free hF
    generalize upd (upd H z1 (.lst [.int 1])) F (.lst (List.replicate (ps.length + 1) (.int 1))) = H2 at s2 hF2 ⊢
    have lF : ((((List.replicate (ps.length + 1) (1 : Int)).map V.int).length : Nat) : Int) = (ps.length : Int) + 1 := by simp
    refine ⟨_, rfl, F, _, rfl, .inl (SqL.of hF2), 1, _, rfl, ⟨by decide, by decide, by rw [lF]; omega, by rw [lF]; omega⟩, ?_⟩
    rw [lF, show ((ps.length : Int) + 1 - 1).toNat = ps.length by omega]
    refine for_range (lo := 1) (n := ps.length) (fun i σ H' => ∃ (v3 v4 v5 v6 : Option V) (f : List Int), σ = [some (.ref a), some (.ref b), some (.ref F), v3, v4, v5, v6] ∧ Same H H' ∧ H' F = some (.lst (f.map V.int)) ∧ Mx ps qs (fun low k => low < i + 1 ∧ k ≤ ps.length) f)
      ⟨none, none, none, none, _, rfl, s2, hF2, mx_more mx_ones (fun _ _ h => h.elim) fun low k h => .inr (.inl (by have e : low = 0 := (by omega); rw [e]; exact prd0 k))⟩ (fun i σ H' hi h => ?_) fun σ H' h => ?_
    · obtain ⟨v3, v4, v5, v6, f, rfl, sh, hf, hM⟩ := h
      rw [show (1 : Int) + (i : Nat) = ((i + 1 : Nat) : Int) by omega]
      refine ⟨_, rfl, ?_⟩
      refine ⟨_, rfl, a, _, rfl, .inl (SqL.of (sh _ _ ha)), _, rfl, by simp <;> omega, by simp <;> omega, ?_⟩
      rw [show ((((ps.map V.int).length : Nat) : Int)).toNat = ps.length by simp]
      have hil : i + 1 ≤ ps.length := hi
      refine for_range (lo := 0) (n := ps.length) (fun t σ H' => ∃ (v6 : Option V) (f : List Int), σ = [some (.ref a), some (.ref b), some (.ref F), some (.int ((i + 1 : Nat) : Int)), some (.int (anc ps (i + 1) t : Nat)), some (.int (prd ps qs (i + 1) t)), v6] ∧ Same H H' ∧ H' F = some (.lst (f.map V.int)) ∧ Mx ps qs (fun low k => (low < i + 1 ∧ k ≤ ps.length) ∨ (low = i + 1 ∧ k ≤ t)) f)
        ⟨v6, f, rfl, sh, hf, mx_more hM (fun _ _ h => .inl h) fun low k h => h.elim .inl fun h => .inr (.inl (by have e : k = 0 := (by omega); rw [e]; rfl))⟩ (fun t σ H' ht h => ?_) fun σ H' h => ?_
      · obtain ⟨v6, f, rfl, sh, hf, hM⟩ := h
        have hanc := (anc_le ok hil t).1
        refine ⟨_, rfl, rfl, _, rfl, ifI (fun c => ?_) fun c => ?_⟩
        · have c0 : anc ps (i + 1) t = 0 := by omega
          refine ⟨_, _, _, _, f, rfl, sh, hf, mx_more hM (fun low k h => by omega) fun low k h => ?_⟩
          by_cases c1 : low < i + 1
          · exact .inl (.inl ⟨c1, h.2⟩)
          · obtain rfl : low = i + 1 := by omega
            rcases Nat.lt_or_ge t k with c2 | c2
            · have := anc_stay (qs := qs) c0 (k - t)
              rw [show t + (k - t) = k by omega] at this
              exact .inr (.inr ⟨t, .inr ⟨rfl, Nat.le_refl _⟩, by rw [this.1, c0], this.2.symm⟩)
            · exact .inl (.inr ⟨rfl, c2⟩)
        · obtain ⟨p', q', e1, e2, h3, h4, h5, h6, h7⟩ := edge_of ok (v := anc ps (i + 1) t) (by omega) (by omega)
          have hpr := prd_le ok hil t
          have hpb : prd ps qs (i + 1) t ≤ 10 ^ 200 := by
            have e1 : (31 : Int) ^ (i + 1 - anc ps (i + 1) t) ≤ 31 ^ 60 := pow31_le (by omega)
            have e2 : (31 : Int) ^ 60 ≤ 10 ^ 200 := by decide +kernel
            omega
          have ea : anc ps (i + 1) (t + 1) = p' := h6
          have ep : prd ps qs (i + 1) (t + 1) = prd ps qs (i + 1) t * q' := by show prd ps qs (i + 1) t * pr1 qs (anc ps (i + 1) t) = _; rw [h7]
          obtain ⟨y, hy⟩ : ∃ y, f[p']? = some y := ⟨_, List.getElem?_eq_getElem (by rw [hM.len]; omega)⟩
          refine ⟨_, rfl, _, rfl, _, rfl, _, _, rfl, rfl, b, _, _, _, rfl, rfl, SqL.of (sh _ _ hb), at_of (j := anc ps (i + 1) t - 1) (by omega) (at_ints e2), _, _, rfl, rfl, cmul_small (abs_small (by omega) hpb) (abs_small (by omega) (by omega)), ?_⟩
          refine ⟨_, rfl, _, rfl, _, _, rfl, rfl, a, _, _, _, rfl, rfl, SqL.of (sh _ _ ha), at_of (j := anc ps (i + 1) t - 1) (by omega) (at_ints e1), ?_⟩
          refine ⟨_, rfl, _, rfl, F, _, _, _, rfl, rfl, SqL.of hf, atI_nat (at_ints hy), _, rfl, _, _, rfl, ?_⟩
          refine ⟨_, rfl, _, rfl, F, _, _, p', rfl, rfl, hf, ixN_of rfl (by rw [List.length_map, hM.len]; omega), ?_⟩
          have hM2 := mx_step (L := i + 1) (t := t + 1) (S' := fun low k => (low < i + 1 ∧ k ≤ ps.length) ∨ (low = i + 1 ∧ k ≤ t + 1)) hM (by rw [ea]; exact hy) fun low k => by omega
          rw [ea, ep] at hM2
          refine ⟨some (.int (0 + (t : Nat))), _, ?_, smM sh fF, by rw [upd_same, List.map_set], hM2⟩
          rw [ea, ep]
          rfl
      · obtain ⟨v6, f, rfl, sh, hf, hM⟩ := h
        exact ⟨_, _, _, _, f, rfl, sh, hf, mx_imp hM fun low k => by omega⟩
    · obtain ⟨v3, v4, v5, v6, f, rfl, sh, hf, hM⟩ := h
      exact ⟨_, rfl, k F H' f sh (mx_isH ok (mx_imp hM fun low k => by omega)) hf⟩
theorem scLLineOf : FnScope ["parents", "prices", "heights_v", "rest", "at"] ["parents", "prices"] (defScope sLLineOf) := ⟨rfl, rfl, rfl, by decide +kernel, rfl, by decide +kernel, by decide +kernel⟩
theorem ok_LLineOf (T : Txt P w K mg base Ad1 Ad2 Ad4 Ad6 Ad9 Ad10 Ad11) : Cl P w K mg base 2 "_law_line_of" spLineOf [] := by
  have c_LHeightRow := ok_LHeightRow T
  refine cl_of T.d__law_line_of scLLineOf (fun vs H Q E h => ?_) fun f cdv A outer s H vs Q E hr h => ?_
  · obtain ⟨a, b, ps, qs, rfl, _⟩ := h
    rfl
  · obtain ⟨a, b, ps, qs, rfl, ha, hb, ok, k⟩ := h
    refine ⟨_, (pss_cons (ps_set (i := 2) scLLineOf.nd rfl (by first | exact Or.inl rfl | exact Or.inr rfl) (pe_c c_LHeightRow hr (by decide) rfl (pa_cons (pv 0) (pa_cons (pv 1) pa_nil))))
  (pss_cons (ps_set (i := 3) scLLineOf.nd rfl (by first | exact Or.inl rfl | exact Or.inr rfl) (pe_op op_sub pe_int (pe_ix ix_list (pv 2) pe_int (fun _ _ => rfl))))
  (pss_cons (ps_for (passes_of rfl) rfl (pi_range1 (by rfl) T.b_range (pa_cons (pe_callB call_len_seq (by rfl) T.b_len (by decide +kernel) (pa_cons (pv 1) pa_nil)) pa_nil)) (pg_name (i := 4) scLLineOf.nd rfl (by first | exact Or.inl rfl | exact Or.inr rfl))
    (pss_one (ps_set (i := 3) scLLineOf.nd rfl (by first | exact Or.inl rfl | exact Or.inr rfl) (pe_op op_add (pv 3) (pe_op op_mulW (pe_op op_sub (pe_ix ix_list (pv 1) (pv 4) (fun _ _ => rfl)) pe_int) (pe_ix ix_list (pv 2) (pe_op op_add (pv 4) pe_int) (fun _ _ => rfl)))))))
  (pss_one (ps_ret (pe_tup (pa_cons (pe_ix ix_list (pv 2) pe_int (fun _ _ => rfl)) (pa_cons (pv 3) pa_nil)))))))), ?_⟩
    have hl := ok.1
    have hl2 := ok.2.1
    refine ⟨_, rfl, _, rfl, a, b, ps, qs, rfl, ha, hb, ok, fun F H1 f s1 hI hF => ?_⟩
    obtain ⟨x, hx⟩ : ∃ x, f[0]? = some x := ⟨_, List.getElem?_eq_getElem (by rw [hI.len]; omega)⟩
    refine ⟨_, rfl, F, _, _, _, rfl, rfl, SqL.of hF, at_of (j := 0) rfl (at_ints hx), _, _, rfl, rfl, ?_⟩
    refine ⟨_, rfl, b, _, rfl, .inl (SqL.of (s1 _ _ hb)), _, rfl, by simp <;> omega, by simp <;> omega, ?_⟩
    rw [show ((((qs.map V.int).length : Nat) : Int)).toNat = ps.length by simp; omega]
    refine for_range (lo := 0) (n := ps.length) (fun i σ H' => ∃ v4 : Option V, σ = [some (.ref a), some (.ref b), some (.ref F), some (.int (1 - x + rst qs f i)), v4] ∧ H' = H1)
      ⟨none, by show _ = [some (V.ref a), some (V.ref b), some (V.ref F), some (V.int (1 - x + 0)), none]; rw [Int.add_zero]; rfl, rfl⟩ (fun i σ H' hi h => ?_) fun σ H' h => ?_
    · obtain ⟨v4, rfl, rfl⟩ := h
      rw [Int.zero_add]
      obtain ⟨q, hq⟩ : ∃ q, qs[i]? = some q := ⟨_, List.getElem?_eq_getElem (by omega)⟩
      obtain ⟨y, hy⟩ : ∃ y, f[i + 1]? = some y := ⟨_, List.getElem?_eq_getElem (by rw [hI.len]; omega)⟩
      have hqb := pw_ok ok (u := i + 1) (by omega) (by omega)
      rw [pw_of hq] at hqb
      have hyb := hI.bnd (i + 1)
      rw [ht_of hy] at hyb
      have hyb2 : y ≤ 10 ^ 200 := by
        have e1 : (31 : Int) ^ (ps.length + 1) ≤ 31 ^ 60 := pow31_le (by omega)
        have e2 : (31 : Int) ^ 60 ≤ 10 ^ 200 := by decide +kernel
        omega
      refine ⟨_, rfl, _, rfl, _, rfl, b, _, _, _, rfl, rfl, SqL.of (s1 _ _ hb), atI_nat (at_ints hq), _, _, rfl, rfl, _, rfl, _, rfl, _, _, rfl, rfl, F, _, _, _, rfl, rfl, SqL.of hF, at_of (j := i + 1) (by omega) (at_ints hy), _, _, rfl, rfl, cmul_small (abs_small (by omega) (by omega)) (abs_small (by omega) hyb2), _, _, rfl, rfl, ?_⟩
      refine ⟨some (.int (i : Nat)), ?_, rfl⟩
      have e : rst qs f (i + 1) = rst qs f i + (q - 1) * y := by
        show rst qs f i + (pw qs (i + 1) - 1) * ht f (i + 1) = _
        rw [pw_of hq, ht_of hy]
      rw [e, ← Int.add_assoc]
      rfl
    · obtain ⟨v4, rfl, rfl⟩ := h
      refine ⟨_, rfl, F, _, _, _, rfl, rfl, SqL.of hF, at_of (j := 0) rfl (at_ints hx), _, rfl, by show 2 ≤ sizeLine; decide, fun z hz => ?_⟩
      exact k x _ z _ (smN s1 hz) ⟨f, hI, (ht_of hx).symm, rfl⟩ upd_same
theorem scLIsTree : FnScope ["told", "parents", "prices"] ["told", "parents", "prices"] (defScope sLIsTree) := ⟨rfl, rfl, rfl, by decide +kernel, rfl, by decide +kernel, by decide +kernel⟩
theorem ok_LIsTree (T : Txt P w K mg base Ad1 Ad2 Ad4 Ad6 Ad9 Ad10 Ad11) : Cl P w K mg base 4 "_law_is_tree" (spIsTree Ad11) [] := by
  have c_LSame := ok_LSame T 2
  refine cl_of T.d__law_is_tree scLIsTree (fun vs H Q E h => ?_) fun f cdv A outer s H vs Q E hr h => ?_
  · obtain ⟨t, a, b, ps, qs, rfl, _⟩ := h
    rfl
  · obtain ⟨t, a, b, ps, qs, rfl, ⟨dx, t1, t2, ht, h1, h2⟩, ha, hb, ok, k⟩ := h
    have hl := ok.1
    have hl2 := ok.2.1
    refine ⟨_, (pss_cons (ps_if (PW.pt (pw_or (pt_not (pt_val (pe_callB call_isi (by rfl) T.b_isinstance (by decide +kernel) (pa_cons (pv 0) (pa_cons (pe_glob (v := .ref Ad11) rfl T.gTree rfl) pa_nil))))) (pw_or1 (pt_not (pt_val (pe_c c_LSame hr (by decide) rfl (pa_cons (pe_fld (pv 0) rfl) (pa_cons (pe_op op_add (pe_callB call_len_seq (by rfl) T.b_len (by decide +kernel) (pa_cons (pv 1) pa_nil)) pe_int) pa_nil))))))))
    (pss_one (ps_ret pe_bl))
    pss_nil)
  (pss_one (ps_ret (pe_and (pe_c c_LSame hr (by decide) rfl (pa_cons (pe_fld (pv 0) rfl) (pa_cons (pe_callTy call_tuple_of (by rfl) T.b_tuple (by decide +kernel) (pa_cons (pv 1) pa_nil)) pa_nil))) (pe_one (pe_c c_LSame hr (by decide) rfl (pa_cons (pe_fld (pv 0) rfl) (pa_cons (pe_callTy call_tuple_of (by rfl) T.b_tuple (by decide +kernel) (pa_cons (pv 2) pa_nil)) pa_nil)))))))), ?_⟩
    have l1 : (treeF (ps.length + 1) t1 t2).lookup ("nodes" : Str) = some (V.int (ps.length + 1)) := by walk_at "lk"
    have l2 : (treeF (ps.length + 1) t1 t2).lookup ("parents" : Str) = some (V.ref t1) := by walk_at "lk"
    have l3 : (treeF (ps.length + 1) t1 t2).lookup ("prices" : Str) = some (V.ref t2) := by walk_at "lk"
    refine ⟨_, rfl, _, _, _, _, _, rfl, .own Ad11, .base (.ins ht T.lTree T.iTree.ca T.iTree.cn T.iTree.ct T.iTree.cm), kit_self, _, rfl, iteF ?_⟩
    refine ⟨_, rfl, t, Ad11, dx, _, _, rfl, ht, T.lTree, T.nTree_nodes, l1, _, rfl, a, _, rfl, .inl (SqL.of ha), _, _, rfl, rfl, same_of (by rw [List.length_map]; exact .int _ _) ⟨_, rfl, ifF rfl ?_⟩⟩
    refine ⟨_, rfl, t, Ad11, dx, _, _, rfl, ht, T.lTree, T.nTree_parents, l2, _, rfl, a, _, rfl, .inl ⟨SqL.of ha, fun q1 hq1 => ?_⟩⟩
    have s2 := sm0 (o := .tup (ps.map V.int)) hq1
    refine same_of (da_ints (s2 _ _ h1) upd_same (by omega)) ⟨_, rfl, iteT ?_⟩
    refine ⟨_, rfl, t, Ad11, dx, _, _, rfl, s2 _ _ ht, T.lTree, T.nTree_prices, l3, _, rfl, b, _, rfl, .inl ⟨SqL.of (s2 _ _ hb), fun q2 hq2 => ?_⟩⟩
    have s3 := smN s2 (o := .tup (qs.map V.int)) hq2
    exact same_of (da_ints (s3 _ _ h2) upd_same (by omega)) (k _ s3)
theorem scLWrongPrice : FnScope ["pool", "menu"] ["pool"] (defScope sLWrongPrice) := ⟨rfl, rfl, rfl, by decide +kernel, rfl, by decide +kernel, by decide +kernel⟩
theorem ok_LWrongPrice (T : Txt P w K mg base Ad1 Ad2 Ad4 Ad6 Ad9 Ad10 Ad11) : Cl P w K mg base 2 "_law_wrong_price" spWrong [] := by
  have c_LDraw := ok_LDraw T
  refine cl_of T.d__law_wrong_price scLWrongPrice (fun vs H Q E h => ?_) fun f cdv A outer s H vs Q E hr h => ?_
  · obtain ⟨p, b, rfl, _⟩ := h
    rfl
  · obtain ⟨p, b, rfl, hp, hb, k⟩ := h
    refine ⟨_, (pss_cons (ps_set (i := 1) scLWrongPrice.nd rfl (by first | exact Or.inl rfl | exact Or.inr rfl) (pe_lst (pa_cons pe_int (pa_cons pe_int (pa_cons pe_int (pa_cons (pe_op op_sub (pe_op op_sub pe_int pe_int) (pe_c c_LDraw hr (by decide) rfl (pa_cons (pv 0) (pa_cons pe_int pa_nil)))) (pa_cons (pe_op op_add pe_int (pe_c c_LDraw hr (by decide) rfl (pa_cons (pv 0) (pa_cons (pe_op op_pow pe_int pe_int) pa_nil)))) pa_nil)))))))
  (pss_one (ps_ret (pe_ix ix_list (pv 1) (pe_c c_LDraw hr (by decide) rfl (pa_cons (pv 0) (pa_cons pe_int pa_nil))) (fun _ _ => rfl))))), ?_⟩
    have hb6 : b ≤ 1000000 := hb
    have G : ∀ {c : Nat}, c ≤ b + 1000 → c ≤ 10 ^ 100 := fun h => big6 (by show _ ≤ 10000000; omega)
    refine ⟨_, _, rfl, rfl, _, rfl, draw_of hp (G (by omega)) (by decide) (by decide +kernel) fun d H1 b1 p1 d0 d1 => ?_⟩
    refine ⟨_, _, rfl, rfl, _, rfl, _, _, rfl, rfl, pow10 (by decide) (by decide), draw_of p1 (G (by omega)) (by decide +kernel) (by decide +kernel) fun d2 H2 b2 p2 d20 d21 => ?_⟩
    refine ⟨_, _, rfl, rfl, by show 5 ≤ sizeLine; decide, fun l hl => ?_⟩
    have nl := p2.ne hl
    refine ⟨_, rfl, _, rfl, draw_of (p2.new hl) (G (by omega)) (by decide) (by decide +kernel) fun d3 H3 b3 p3 d30 d31 => ?_⟩
    have e3 := b3 l _ nl upd_same
    obtain ⟨z, hz, hat⟩ := pick (L := [1, 32, 0, 0 - 1 - d, 33 + d2]) d30 d31
    refine ⟨l, _, _, _, rfl, rfl, SqL.of e3, hat, ?_⟩
    refine k z H3 (((b1.trans b2).trans (But.of (sm0 hl))).trans b3) p3 ?_
    simp only [List.mem_cons, List.not_mem_nil, or_false] at hz
    omega
end
end K13
set_option maxRecDepth 100000
set_option maxHeartbeats 4000000
namespace K13
open PySem PySem.Spec PyProof.Rows L2 SI
/-! lines of grown trees -/
section
variable {ps qs f : List Int}
theorem isH_stem {a z : Int} (hp : parOk ps) (h : IsH ps qs 0 f) (h0 : f[0]? = some a) (z1 : 1 ≤ z) (z31 : z ≤ 31) : IsH (stemP ps) (z :: qs) 0 (z * a :: f) where
  len := by rw [List.length_cons, h.len, len_stem]
  pos := fun v x hx => by
    rw [len_stem]
    cases v with
    | zero =>
      cases hx
      have b := h.pos 0 a h0
      have m1 : (1 : Int) * 1 ≤ z * a := Int.mul_le_mul z1 b.1 (by decide) (by omega)
      have m2 : z * a ≤ 31 * 31 ^ (ps.length + 1 - 0) := Int.mul_le_mul z31 b.2 (by omega) (by decide)
      rw [Int.mul_comm 31, ← Int.pow_succ] at m2
      exact ⟨by omega, m2⟩
    | succ v =>
      have b := h.pos v x hx
      rw [show ps.length + 1 + 1 - (v + 1) = ps.length + 1 - v by omega]
      exact b
  up := fun i p q x y _ hpi hqi hx hy => by
    cases i with
    | zero =>
      cases hpi
      cases hqi
      have hx' : f[0]? = some x := hx
      rw [h0] at hx'
      cases hx'
      have hy' : (z * a :: f)[0]? = some y := hy
      cases hy'
      exact Int.le_refl _
    | succ i =>
      have hp' : (ps.map (· + 1))[i]? = some p := hpi
      rw [List.getElem?_map] at hp'
      cases e : ps[i]? with
      | none => rw [e] at hp'; cases hp'
      | some p0 =>
        rw [e] at hp'
        have ep : p0 + 1 = p := Option.some.inj hp'
        have := hp i p0 e
        rw [show p.toNat = p0.toNat + 1 by omega] at hy
        exact h.up i p0 q x y (Nat.zero_le _) e hqi hx hy
  att := fun v y hy => by
    cases v with
    | zero =>
      cases hy
      exact .inr ⟨0, z, a, Nat.zero_le _, rfl, rfl, h0, rfl⟩
    | succ v =>
      rcases h.att v y hy with e | ⟨i, q, x, _, e1, e2, e3, e4⟩
      · exact .inl e
      · refine .inr ⟨i + 1, q, x, Nat.zero_le _, ?_, e2, e3, e4⟩
        show (ps.map (· + 1))[i]? = _
        rw [List.getElem?_map, e1]
        rfl
theorem rst_stem (z a : Int) : ∀ n, rst (z :: qs) (z * a :: f) (n + 1) = (z - 1) * ht f 0 + rst qs f n
  | 0 => by
    show 0 + (pw (z :: qs) 1 - 1) * ht (z * a :: f) 1 = (z - 1) * ht f 0 + 0
    rw [Int.zero_add, Int.add_zero]
    rfl
  | n + 1 => by
    show rst (z :: qs) (z * a :: f) (n + 1) + gn (z :: qs) (z * a :: f) (n + 1 + 1) = (z - 1) * ht f 0 + (rst qs f n + gn qs f (n + 1))
    rw [rst_stem z a n, ← Int.add_assoc]
    rfl
theorem line_stem {a b z : Int} (ok : okT ps qs) (h : LineIs ps qs a b) (z1 : 2 ≤ z) (z31 : z ≤ 31) : LineIs (stemP ps) (z :: qs) (z * a) b := by
  obtain ⟨f, h1, h2, h3⟩ := h
  obtain ⟨x, hx⟩ : ∃ x, f[0]? = some x := ⟨_, List.getElem?_eq_getElem (by rw [h1.len]; omega)⟩
  have ex := ht_of hx
  rw [ex] at h2
  subst h2
  refine ⟨z * a :: f, isH_stem ok.par h1 hx (by omega) z31, rfl, ?_⟩
  rw [len_stem, rst_stem, ex, h3, Int.sub_mul]
  omega
def mulL : List Int → Int
  | [] => 1
  | x :: r => x * mulL r
theorem mulL_snoc (v : Int) : ∀ l, mulL (l ++ [v]) = mulL l * v
  | [] => by show v * 1 = 1 * v; omega
  | x :: l => by show x * mulL (l ++ [v]) = x * mulL l * v; rw [mulL_snoc v l, Int.mul_assoc]
theorem mulL_bnd : ∀ l : List Int, (∀ x ∈ l, 2 ≤ x ∧ x ≤ 31) → 1 ≤ mulL l ∧ mulL l ≤ 31 ^ l.length
  | [], _ => ⟨Int.le_refl _, Int.le_refl _⟩
  | v :: l, h => by
    have ih := mulL_bnd l fun u hu => h u (List.mem_cons_of_mem _ hu)
    have hv := h v List.mem_cons_self
    show 1 ≤ v * mulL l ∧ v * mulL l ≤ 31 ^ (l.length + 1)
    have m1 : (1 : Int) * 1 ≤ v * mulL l := Int.mul_le_mul (by omega) ih.1 (by decide) (by omega)
    have m2 : v * mulL l ≤ 31 * 31 ^ l.length := Int.mul_le_mul hv.2 ih.2 (by omega) (by decide)
    rw [Int.pow_succ, Int.mul_comm (31 ^ l.length)]
    exact ⟨by omega, m2⟩
theorem path_succ (n : Nat) : pathP (n + 1) = stemP (pathP n) := by
  unfold pathP stemP
  rw [List.range_succ_eq_map, List.map_cons, List.map_map, List.map_map]
  congr 1
theorem ok_path {qs : List Int} (h : ∀ x ∈ qs, 2 ≤ x ∧ x ≤ 31) (hl : qs.length ≤ 59) : okT (pathP qs.length) qs := ok_rows (par_path _) h (by rw [len_path]) (by rw [len_path]; exact hl)
theorem ok_star {qs : List Int} (h : ∀ x ∈ qs, 2 ≤ x ∧ x ≤ 31) (hl : qs.length ≤ 59) : okT (starP qs.length) qs := ok_rows (par_star _) h (by rw [len_star]) (by rw [len_star]; exact hl)
theorem okT.pr {ps qs : List Int} (ok : okT ps qs) : ∀ x ∈ qs, 2 ≤ x ∧ x ≤ 31 := fun x hx => by
  obtain ⟨i, hi, e⟩ := List.mem_iff_getElem.mp hx
  have := pw_ok ok (u := i + 1) (by omega) (by have := ok.2.1; omega)
  rw [pw_of (List.getElem?_eq_getElem hi), e] at this
  exact this
theorem line_path : ∀ qs : List Int, (∀ x ∈ qs, 2 ≤ x ∧ x ≤ 31) → qs.length ≤ 59 → LineIs (pathP qs.length) qs (mulL qs) 0
  | [], _, _ => ⟨[1], isH_ones [] [], rfl, rfl⟩
  | z :: qs, h, hl => by
    have h' : ∀ x ∈ qs, 2 ≤ x ∧ x ≤ 31 := fun x hx => h x (List.mem_cons_of_mem _ hx)
    have hl' : qs.length ≤ 59 := by rw [List.length_cons] at hl; omega
    have hz := h z List.mem_cons_self
    rw [List.length_cons, path_succ]
    exact line_stem (ok_path h' hl') (line_path qs h' hl') hz.1 hz.2
theorem rst_star {m : Int} : ∀ n, n ≤ qs.length → rst qs (m :: List.replicate qs.length 1) n = (qs.take n).sum - (n : Int)
  | 0, _ => rfl
  | n + 1, h => by
    obtain ⟨q, hq⟩ : ∃ q, qs[n]? = some q := ⟨_, List.getElem?_eq_getElem (by omega)⟩
    show rst qs (m :: List.replicate qs.length 1) n + (pw qs (n + 1) - 1) * ht (m :: List.replicate qs.length 1) (n + 1) = _
    have e : ht (m :: List.replicate qs.length 1) (n + 1) = 1 := ht_of (by show (List.replicate qs.length (1 : Int))[n]? = some 1; rw [List.getElem?_replicate, if_pos (by omega)])
    rw [rst_star n (by omega), e, pw_of hq, List.take_succ, hq, Option.toList_some, List.sum_append]
    show _ = (List.take n qs).sum + (q + 0) - ((n + 1 : Nat) : Int)
    omega
theorem line_star {m : Int} (h : ∀ x ∈ qs, 2 ≤ x ∧ x ≤ 31) (hl : qs.length ≤ 59) (hm : m ∈ 1 :: qs) (hmax : ∀ y ∈ 1 :: qs, y ≤ m) : LineIs (starP qs.length) qs m (1 - m + qs.sum - qs.length) := by
  have m1 : 1 ≤ m := hmax 1 List.mem_cons_self
  have m31 : m ≤ 31 := by
    rcases List.mem_cons.mp hm with e | e
    · omega
    · exact (h m e).2
  have rep : ∀ {v : Nat} {x : Int}, (List.replicate qs.length (1 : Int))[v]? = some x → x = 1 := fun hx => by
    rw [List.getElem?_replicate] at hx
    split at hx <;> cases hx
    rfl
  refine ⟨m :: List.replicate qs.length 1, ⟨by rw [len_star]; simp, fun v x hx => ?_, fun i p q x y _ hp hq hx hy => ?_, fun v y hy => ?_⟩, rfl, ?_⟩
  · rw [len_star]
    cases v with
    | zero =>
      cases hx
      exact ⟨m1, Int.le_trans m31 (by have := pow31_le (a := 1) (b := qs.length + 1 - 0) (by omega); rw [show (31 : Int) ^ 1 = 31 by decide] at this; exact this)⟩
    | succ v =>
      rw [rep (v := v) hx]
      exact ⟨Int.le_refl _, pow31 _⟩
  · have hp0 : p = 0 := by
      unfold starP at hp
      rw [List.getElem?_replicate] at hp
      split at hp <;> cases hp
      rfl
    subst hp0
    cases hy
    rw [rep (v := i) hx, Int.mul_one]
    exact hmax q (List.mem_cons_of_mem _ (List.mem_of_getElem? hq))
  · cases v with
    | zero =>
      cases hy
      rcases List.mem_cons.mp hm with e | e
      · exact .inl e
      · obtain ⟨i, hi, e⟩ := List.mem_iff_getElem.mp e
        refine .inr ⟨i, m, 1, Nat.zero_le _, ?_, by rw [List.getElem?_eq_getElem hi, e], ?_, by omega⟩
        · unfold starP
          rw [List.getElem?_replicate, if_pos hi]
          rfl
        · show (List.replicate qs.length (1 : Int))[i]? = some 1
          rw [List.getElem?_replicate, if_pos hi]
    | succ v => exact .inl (rep (v := v) hy)
  · rw [len_star, rst_star _ (Nat.le_refl _), List.take_length]
    omega
/-- two heights under one root -/
def gF (m : Int) (f g : List Int) : List Int := m :: (f.tail ++ g.tail)
theorem gF_lo {m : Int} {g : List Int} {v : Nat} (h1 : 1 ≤ v) (h2 : v < f.length) : (gF m f g)[v]? = f[v]? := by
  obtain ⟨u, rfl⟩ : ∃ u, v = u + 1 := ⟨v - 1, by omega⟩
  show (f.tail ++ g.tail)[u]? = _
  rw [List.getElem?_append_left (by rw [List.length_tail]; omega), List.getElem?_tail]
theorem gF_hi {m : Int} {g : List Int} {u : Nat} (h1 : 1 ≤ u) (hf : 0 < f.length) : (gF m f g)[f.length - 1 + u]? = g[u]? := by
  obtain ⟨k, rfl⟩ : ∃ k, u = k + 1 := ⟨u - 1, by omega⟩
  show (f.tail ++ g.tail)[f.length - 1 + k]? = _
  rw [List.getElem?_append_right (by rw [List.length_tail]; omega), List.length_tail, List.getElem?_tail, show f.length - 1 + k - (f.length - 1) = k by omega]
theorem isH_glue {ps' qs' g : List Int} {a a' m : Int} (ok : okT ps qs) (ok' : okT ps' qs') (h : IsH ps qs 0 f) (h' : IsH ps' qs' 0 g) (h0 : f[0]? = some a) (h0' : g[0]? = some a') (hm : m = a ∨ m = a') (ma : a ≤ m) (ma' : a' ≤ m) :
    IsH (glueP ps ps') (qs ++ qs') 0 (gF m f g) := by
  have lf := h.len
  have lg := h'.len
  have lq := ok.2.1
  have hi' : ∀ {u : Nat}, 1 ≤ u → (gF m f g)[ps.length + u]? = g[u]? := fun hu => by
    have := gF_hi (m := m) (f := f) (g := g) hu (by omega)
    rw [show f.length - 1 = ps.length by omega] at this
    exact this
  have lo' : ∀ {v : Nat}, 1 ≤ v → v ≤ ps.length → (gF m f g)[v]? = f[v]? := fun h1 h2 => gF_lo h1 (by omega)
  refine ⟨?_, fun v x hx => ?_, fun i p q x y _ hpi hqi hx hy => ?_, fun v y hy => ?_⟩
  · rw [len_glue]
    unfold gF
    simp
    omega
  · rw [len_glue]
    rcases Nat.lt_or_ge 0 v with c | c
    · rcases Nat.lt_or_ge ps.length v with c2 | c2
      · obtain ⟨u, rfl⟩ : ∃ u, v = ps.length + u := ⟨v - ps.length, by omega⟩
        rw [hi' (by omega)] at hx
        have b := h'.pos u x hx
        exact ⟨b.1, Int.le_trans b.2 (pow31_le (by omega))⟩
      · rw [lo' c c2] at hx
        have b := h.pos v x hx
        exact ⟨b.1, Int.le_trans b.2 (pow31_le (by omega))⟩
    · obtain rfl : v = 0 := by omega
      cases hx
      rcases hm with rfl | rfl
      · have b := h.pos 0 _ h0
        exact ⟨b.1, Int.le_trans b.2 (pow31_le (by omega))⟩
      · have b := h'.pos 0 _ h0'
        exact ⟨b.1, Int.le_trans b.2 (pow31_le (by omega))⟩
  · unfold glueP at hpi
    rcases Nat.lt_or_ge i ps.length with c | c
    · rw [List.getElem?_append_left c] at hpi
      rw [List.getElem?_append_left (by omega)] at hqi
      rw [lo' (by omega) (by omega)] at hx
      have hp := ok.par i p hpi
      obtain ⟨y0, hy0⟩ : ∃ y0, f[p.toNat]? = some y0 := ⟨_, List.getElem?_eq_getElem (by omega)⟩
      have u := h.up i p q x y0 (Nat.zero_le _) hpi hqi hx hy0
      by_cases cp : p.toNat = 0
      · rw [cp] at hy hy0
        rw [h0] at hy0
        cases hy0
        have : (gF m f g)[0]? = some m := rfl
        rw [this] at hy
        cases hy
        omega
      · rw [lo' (by omega) (by omega), hy0] at hy
        cases hy
        exact u
    · rw [List.getElem?_append_right c, List.getElem?_map] at hpi
      rw [List.getElem?_append_right (by omega), lq] at hqi
      cases e : ps'[i - ps.length]? with
      | none => rw [e] at hpi; cases hpi
      | some p0 =>
        rw [e] at hpi
        have ep : gl ps.length p0 = p := Option.some.inj hpi
        have hp := ok'.par _ p0 e
        have hil := (List.getElem?_eq_some_iff.mp e).1
        rw [show i + 1 = ps.length + (i - ps.length + 1) by omega, hi' (by omega)] at hx
        obtain ⟨y0, hy0⟩ : ∃ y0, g[p0.toNat]? = some y0 := ⟨_, List.getElem?_eq_getElem (by omega)⟩
        have u := h'.up (i - ps.length) p0 q x y0 (Nat.zero_le _) e hqi hx hy0
        by_cases cp : p0 = 0
        · subst cp
          have e0 : p = 0 := ep.symm
          subst e0
          have hy0' : g[0]? = some y0 := hy0
          rw [h0'] at hy0'
          cases hy0'
          have : (gF m f g)[0]? = some m := rfl
          have hy' : (gF m f g)[0]? = some y := hy
          rw [this] at hy'
          cases hy'
          omega
        · unfold gl at ep
          rw [if_neg cp] at ep
          rw [show p.toNat = ps.length + p0.toNat by omega, hi' (by omega), hy0] at hy
          cases hy
          exact u
  · have lef : ∀ {v : Nat} {y : Int}, (y = 1 ∨ ∃ (i : Nat) (q x : Int), 0 ≤ i ∧ ps[i]? = some (v : Int) ∧ qs[i]? = some q ∧ f[i + 1]? = some x ∧ y = q * x) → y = 1 ∨ ∃ (i : Nat) (q x : Int), 0 ≤ i ∧ (glueP ps ps')[i]? = some (v : Int) ∧ (qs ++ qs')[i]? = some q ∧ (gF m f g)[i + 1]? = some x ∧ y = q * x := fun h => by
      rcases h with h | ⟨i, q, x, _, e1, e2, e3, e4⟩
      · exact .inl h
      · have hi := (List.getElem?_eq_some_iff.mp e1).1
        exact .inr ⟨i, q, x, Nat.zero_le _, by unfold glueP; rw [List.getElem?_append_left hi]; exact e1, by rw [List.getElem?_append_left (by omega)]; exact e2, by rw [lo' (by omega) (by omega)]; exact e3, e4⟩
    have rig : ∀ {v w : Nat} {y : Int}, gl ps.length (v : Int) = (w : Int) → (y = 1 ∨ ∃ (i : Nat) (q x : Int), 0 ≤ i ∧ ps'[i]? = some (v : Int) ∧ qs'[i]? = some q ∧ g[i + 1]? = some x ∧ y = q * x) → y = 1 ∨ ∃ (i : Nat) (q x : Int), 0 ≤ i ∧ (glueP ps ps')[i]? = some (w : Int) ∧ (qs ++ qs')[i]? = some q ∧ (gF m f g)[i + 1]? = some x ∧ y = q * x := fun hw h => by
      rcases h with h | ⟨i, q, x, _, e1, e2, e3, e4⟩
      · exact .inl h
      · refine .inr ⟨ps.length + i, q, x, Nat.zero_le _, ?_, ?_, ?_, e4⟩
        · unfold glueP
          rw [List.getElem?_append_right (by omega), List.getElem?_map, show ps.length + i - ps.length = i by omega, e1]
          show some (gl ps.length _) = _
          rw [hw]
        · rw [List.getElem?_append_right (by omega), show ps.length + i - qs.length = i by omega]
          exact e2
        · rw [Nat.add_assoc, hi' (by omega)]
          exact e3
    rcases Nat.lt_or_ge 0 v with c | c
    · rcases Nat.lt_or_ge ps.length v with c2 | c2
      · obtain ⟨u, rfl⟩ : ∃ u, v = ps.length + u := ⟨v - ps.length, by omega⟩
        rw [hi' (by omega)] at hy
        refine rig (v := u) ?_ (h'.att u y hy)
        unfold gl
        rw [if_neg (by omega)]
        omega
      · rw [lo' c c2] at hy
        exact lef (h.att v y hy)
    · obtain rfl : v = 0 := by omega
      cases hy
      rcases hm with rfl | rfl
      · exact lef (h.att 0 _ h0)
      · exact rig (v := 0) (w := 0) rfl (h'.att 0 _ h0')
theorem rst_glue_lo {qs' g : List Int} {m : Int} : ∀ n, n < f.length → n ≤ qs.length → rst (qs ++ qs') (gF m f g) n = rst qs f n
  | 0, _, _ => rfl
  | n + 1, h, h2 => by
    show rst (qs ++ qs') (gF m f g) n + gn (qs ++ qs') (gF m f g) (n + 1) = rst qs f n + gn qs f (n + 1)
    rw [rst_glue_lo n (by omega) (by omega)]
    congr 1
    unfold gn pw ht
    rw [List.getD_eq_getElem?_getD, List.getD_eq_getElem?_getD, List.getD_eq_getElem?_getD, List.getD_eq_getElem?_getD, gF_lo (by omega) h, List.getElem?_append_left (by omega)]
theorem rst_glue_hi {qs' g : List Int} {m : Int} (hf : f.length = qs.length + 1) : ∀ n, rst (qs ++ qs') (gF m f g) (qs.length + n) = rst qs f qs.length + rst qs' g n
  | 0 => by
    rw [Nat.add_zero, rst_glue_lo _ (by omega) (Nat.le_refl _)]
    show _ = _ + 0
    rw [Int.add_zero]
  | n + 1 => by
    show rst (qs ++ qs') (gF m f g) (qs.length + n) + gn (qs ++ qs') (gF m f g) (qs.length + (n + 1)) = rst qs f qs.length + (rst qs' g n + gn qs' g (n + 1))
    rw [rst_glue_hi hf n, Int.add_assoc]
    congr 2
    have := gF_hi (m := m) (f := f) (g := g) (u := n + 1) (by omega) (by omega)
    rw [show f.length - 1 = qs.length by omega] at this
    unfold gn pw ht
    rw [List.getD_eq_getElem?_getD, List.getD_eq_getElem?_getD, List.getD_eq_getElem?_getD, List.getD_eq_getElem?_getD, this, List.getElem?_append_right (by omega), show qs.length + (n + 1) - 1 - qs.length = n + 1 - 1 by omega]
theorem line_glue {ps' qs' : List Int} {a b a' b' : Int} (ok : okT ps qs) (ok' : okT ps' qs') (h : LineIs ps qs a b) (h' : LineIs ps' qs' a' b') : LineIs (glueP ps ps') (qs ++ qs') (if a' > a then a' else a) (a + b + (a' + b') - 1 - (if a' > a then a' else a)) := by
  obtain ⟨f, h1, h2, h3⟩ := h
  obtain ⟨g, h4, h5, h6⟩ := h'
  obtain ⟨x, hx⟩ : ∃ x, f[0]? = some x := ⟨_, List.getElem?_eq_getElem (by rw [h1.len]; omega)⟩
  obtain ⟨y, hy⟩ : ∃ y, g[0]? = some y := ⟨_, List.getElem?_eq_getElem (by rw [h4.len]; omega)⟩
  rw [ht_of hx] at h2
  rw [ht_of hy] at h5
  subst h2 h5
  refine ⟨gF (if a' > a then a' else a) f g, isH_glue ok ok' h1 h4 hx hy (by split <;> simp) (by split <;> omega) (by split <;> omega), rfl, ?_⟩
  rw [len_glue, show ps.length = qs.length from ok.2.1.symm, rst_glue_hi (by rw [h1.len, ok.2.1]), h3, h6, ok.2.1]
  omega
end
def spNums (C : Addr) : Sp := fun vs H Q _ => ∃ (t a b : Addr) (ps qs : List Int) (n : Int), vs = [.ref t, .ref a, .ref b, .int n] ∧ TreeAt C H t ps qs ∧ H a = some (.lst (ps.map V.int)) ∧ H b = some (.lst (qs.map V.int)) ∧ okT ps qs ∧ 1 ≤ n ∧ n ≤ 1000000 ∧ ∀ H', Same H H' → Q (.bl true) H'
section
variable {P : Program} {w : World} {K : PySem.W.Frag} {mg : Str → Option Value} {base : Heap} {Ad1 Ad2 Ad4 Ad6 Ad9 Ad10 Ad11 : Addr}
theorem scLNumbersRight : FnScope ["tree", "parents", "prices", "many", "due"] ["tree", "parents", "prices", "many"] (defScope sLNumbersRight) := ⟨rfl, rfl, rfl, by decide +kernel, rfl, by decide +kernel, by decide +kernel⟩
theorem ok_LNumbersRight (T : Txt P w K mg base Ad1 Ad2 Ad4 Ad6 Ad9 Ad10 Ad11) : Cl P w K mg base 6 "_law_numbers_right" (spNums Ad11) [] := by
  have c_LLineOf := ok_LLineOf T
  have c_LIsTree := ok_LIsTree T
  have c_LSame := ok_LSame T 2
  have c_Line := ok_Line T
  have d_TreeEnough := ok_TreeEnough T
  have c_TreeEnough : Cl P w K mg base 5 "tree_enough" (spEnough Ad2 Ad11) [] := d_TreeEnough.cl 2 1 (by simp) rfl fun T kV doc pm an cdv ct us its l1 l2 => match us, its, l1, l2 with | [_, _], [_], _, _ => ⟨_, rfl, rfl⟩
  have c_TreeEnough1 : Cl P w K mg base 5 "tree_enough" (spEnough Ad2 Ad11) [.int 1] := d_TreeEnough.cl 1 0 (by simp) rfl fun T kV doc pm an cdv ct us its l1 l2 => match us, its, l1, l2 with | [_], [_], _, _ => ⟨_, rfl, rfl⟩
  refine cl_of T.d__law_numbers_right scLNumbersRight (fun vs H Q E h => ?_) fun f cdv A outer s H vs Q E hr h => ?_
  · obtain ⟨t, a, b, ps, qs, n, rfl, _⟩ := h
    rfl
  · obtain ⟨t, a, b, ps, qs, n, rfl, hT, ha, hb, ok, n1, n2, k⟩ := h
    refine ⟨_, (pss_cons (ps_set (i := 4) scLNumbersRight.nd rfl (by first | exact Or.inl rfl | exact Or.inr rfl) (pe_c c_LLineOf hr (by decide) rfl (pa_cons (pv 1) (pa_cons (pv 2) pa_nil))))
  (pss_cons (ps_if (PW.pt (pw_or (pt_not (pt_val (pe_c c_LIsTree hr (by decide) rfl (pa_cons (pv 0) (pa_cons (pv 1) (pa_cons (pv 2) pa_nil)))))) (pw_or1 (pt_not (pt_val (pe_c c_LSame hr (by decide) rfl (pa_cons (pe_c c_Line hr (by decide) rfl (pa_cons (pv 0) pa_nil)) (pa_cons (pv 4) pa_nil))))))))
    (pss_one (ps_ret pe_bl))
    pss_nil)
  (pss_cons (ps_if (pt_not (pt_val (pe_c c_LSame hr (by decide) rfl (pa_cons (pe_c c_TreeEnough1 hr (by decide) rfl (pa_cons (pv 0) pa_nil)) (pa_cons (pe_op op_add (pe_ix ix_tup (pv 4) pe_int (fun _ _ => rfl)) (pe_ix ix_tup (pv 4) pe_int (fun _ _ => rfl))) pa_nil)))))
    (pss_one (ps_ret pe_bl))
    pss_nil)
  (pss_cons (ps_if (pt_not (pt_val (pe_c c_LSame hr (by decide) rfl (pa_cons (pe_cKD (ks := ["many", "tree"]) (g := fun _ zs => swp zs) d_TreeEnough hr (by decide) rfl (pk_cons (pv 3) (pk_cons (pv 0) pk_nil)) (by simp) (fun _ r => swp_rel r) (fun _ _ _ _ _ _ _ us its ws l0 l1 l2 => match us, its, ws, l0, l1, l2 with | [], [_], [_, _], _, _, _ => ⟨_, rfl, rfl⟩)) (pa_cons (pe_op op_add (pe_op op_mulW (pe_ix ix_tup (pv 4) pe_int (fun _ _ => rfl)) (pv 3)) (pe_ix ix_tup (pv 4) pe_int (fun _ _ => rfl))) pa_nil)))))
    (pss_one (ps_ret pe_bl))
    pss_nil)
  (pss_one (ps_ret (pe_and (pe_c c_LSame hr (by decide) rfl (pa_cons (pe_c c_TreeEnough hr (by decide) rfl (pa_cons (pv 0) (pa_cons (pe_op op_pow pe_int pe_int) pa_nil))) (pa_cons (pe_op op_add (pe_op op_mulW (pe_ix ix_tup (pv 4) pe_int (fun _ _ => rfl)) (pe_op op_pow pe_int pe_int)) (pe_ix ix_tup (pv 4) pe_int (fun _ _ => rfl))) pa_nil))) (pe_one (pe_c c_LSame hr (by decide) rfl (pa_cons (pe_c c_TreeEnough hr (by decide) rfl (pa_cons (pv 0) (pa_cons pe_int pa_nil))) (pa_cons (pe_callB (cr_sumT rfl) (by rfl) T.b_sum (by decide +kernel) (pa_cons (pv 4) pa_nil)) pa_nil))))))))))), ?_⟩
    have p6 : ((10 : Int) ^ Int.toNat 6) = 1000000 := by decide +kernel
    refine ⟨_, rfl, _, rfl, a, b, ps, qs, rfl, ha, hb, ok, fun x y q H1 s1 hL hq => ?_⟩
    have bx := line_bnd ok hL
    refine ⟨_, rfl, _, rfl, _, rfl, t, a, b, ps, qs, rfl, hT.same s1, s1 _ _ ha, s1 _ _ hb, ok, fun H2 s2 => ⟨_, rfl, ifF rfl ?_⟩⟩
    have s12 := s1.trans s2
    refine ⟨_, rfl, t, ps, qs, rfl, hT.same s12, ok, fun x2 y2 q2 H3 s3 hL2 hq2 => ?_⟩
    obtain ⟨rfl, rfl⟩ := line_uniq ok hL hL2
    have s13 := s12.trans s3
    have hq3 := s3 _ _ (s2 _ _ hq)
    refine ⟨_, rfl, same_of (da_two hq2 hq3 (.int _ _) (.int _ _)) ⟨_, rfl, ifF rfl ?_⟩⟩
    refine ⟨_, rfl, t, 1, ps, qs, rfl, hT.same s13, ok, fun _ _ x4 y4 H4 s4 hL4 => ?_, fun c => by omega⟩
    obtain ⟨rfl, rfl⟩ := line_uniq ok hL hL4
    have s14 := s13.trans s4
    have hq4 := s4 _ _ hq3
    refine ⟨_, rfl, q, _, _, _, rfl, rfl, SqT.of hq4, atI0, _, rfl, q, _, _, _, rfl, rfl, SqT.of hq4, atI1, _, _, rfl, rfl, same_of (by rw [Int.mul_one]; exact .int _ _) ⟨_, rfl, ifF rfl ?_⟩⟩
    refine ⟨_, rfl, _, rfl, rfl, t, n, ps, qs, rfl, hT.same s14, ok, fun _ _ x5 y5 H5 s5 hL5 => ?_, fun c => by omega⟩
    obtain ⟨rfl, rfl⟩ := line_uniq ok hL hL5
    have s15 := s14.trans s5
    have hq5 := s5 _ _ hq4
    refine ⟨_, rfl, q, _, _, _, rfl, rfl, SqT.of hq5, atI0, _, rfl, _, _, rfl, rfl, cmul_small (abs_small (by omega) (by omega)) (abs_small (by omega) (by omega)), _, rfl, q, _, _, _, rfl, rfl, SqT.of hq5, atI1, _, _, rfl, rfl, same_of (.int _ _) ⟨_, rfl, ifF rfl ?_⟩⟩
    refine ⟨_, rfl, _, _, rfl, rfl, pow10 (by decide) (by decide), t, _, ps, qs, rfl, hT.same s15, ok, fun _ _ x6 y6 H6 s6 hL6 => ?_, fun c => by rw [p6] at c; omega⟩
    obtain ⟨rfl, rfl⟩ := line_uniq ok hL hL6
    have s16 := s15.trans s6
    have hq6 := s6 _ _ hq5
    refine ⟨_, rfl, q, _, _, _, rfl, rfl, SqT.of hq6, atI0, _, _, rfl, rfl, pow10 (by decide) (by decide), _, _, rfl, rfl, cmul_small (abs_small (by omega) (by omega)) (abs_small (by rw [p6]; omega) (by rw [p6]; omega)), _, rfl, q, _, _, _, rfl, rfl, SqT.of hq6, atI1, _, _, rfl, rfl, same_of (.int _ _) ⟨_, rfl, iteT ?_⟩⟩
    refine ⟨_, rfl, t, 1, ps, qs, rfl, hT.same s16, ok, fun _ _ x7 y7 H7 s7 hL7 => ?_, fun c => by omega⟩
    obtain ⟨rfl, rfl⟩ := line_uniq ok hL hL7
    have hq7 := s7 _ _ hq6
    refine ⟨_, rfl, q, [x, y], rfl, SqT.of hq7, ?_⟩
    exact same_of (by rw [Int.mul_one, show ([x, y] : List Int).sum = x + y by show x + (y + 0) = x + y; omega]; exact .int _ _) (k _ (s16.trans s7))
end
end K13
set_option maxRecDepth 100000
set_option maxHeartbeats 4000000
namespace K13
open PySem PySem.Spec PyProof.Rows L2 SI
def rev3 {α : Type} : List α → List α
  | [x, y, z] => [z, y, x]
  | l => l
theorem rev3_rel {zs : List V} {ws : List Value} (r : L2.Vals zs ws) : L2.Vals (rev3 zs) (rev3 ws) := by
  cases r with
  | nil => exact .nil
  | cons a r => cases r with
    | nil => exact .cons a .nil
    | cons b r => cases r with
      | nil => exact .cons a (.cons b .nil)
      | cons c r => cases r with
        | nil => exact .cons c (.cons b (.cons a .nil))
        | cons d r => exact .cons a (.cons b (.cons c (.cons d r)))
theorem mk_good {Ad2 Ad6 Ad9 Ad10 C : Addr} {A B : List Int} {H : Hp} {Q : VK} {E : XK} (ok : okT A B) (k : ∀ x H', Same H H' → H x = none → TreeAt C H' x A B → Q (.ref x) H') : MkOut Ad2 Ad6 Ad9 Ad10 C A B H Q E := ⟨fun _ => k, fun y fs h => (no_bad ok h).elim⟩
theorem ok_stem {ps qs : List Int} (ok : okT ps qs) (h : ps.length < 59) {z : Int} (z1 : 2 ≤ z) (z2 : z ≤ 31) : okT (stemP ps) (z :: qs) := ok_rows (par_stem ok.par) (fun x hx => (List.mem_cons.mp hx).elim (fun e => by omega) (ok.pr x)) (by rw [List.length_cons, len_stem, ok.2.1]) (by rw [len_stem]; omega)
theorem ok_hung {ps qs : List Int} (ok : okT ps qs) (h : ps.length < 59) {v z : Int} (v0 : 0 ≤ v) (v1 : v ≤ ps.length) (z1 : 2 ≤ z) (z2 : z ≤ 31) : okT (ps ++ [v]) (qs ++ [z]) := ok_rows (par_hung ok.par v0 v1) (fun x hx => (List.mem_append.mp hx).elim (ok.pr x) (fun e => by rw [List.mem_singleton] at e; omega)) (by simp [ok.2.1]) (by simp; omega)
theorem due_stem {ps qs : List Int} (ok : okT ps qs) (h : ps.length < 59) {z : Int} (hz : z < 2 ∨ 31 < z) : DueIs (stemP ps) (z :: qs) (some [.str "BadPrice", .int 0]) :=
  .pri (by rw [len_stem]; omega) (by rw [List.length_cons, len_stem, ok.2.1]) 0 ⟨fun i p q hi => absurd hi (Nat.not_lt_zero _), ⟨0, rfl, by omega, by omega⟩, z, rfl, hz⟩
theorem due_hung {ps qs : List Int} (ok : okT ps qs) (h : ps.length < 59) {v z : Int} (v0 : 0 ≤ v) (v1 : v ≤ ps.length) (hz : z < 2 ∨ 31 < z) : DueIs (ps ++ [v]) (qs ++ [z]) (some [.str "BadPrice", .int (ps.length : Nat)]) :=
  .pri (by simp; omega) (by simp [ok.2.1]) ps.length ⟨fun i p q hi hp hq => by
    rw [List.getElem?_append_left hi] at hp
    rw [List.getElem?_append_left (by rw [ok.2.1]; exact hi)] at hq
    exact ok.2.2 i p q hi hp hq, ⟨v, by rw [List.getElem?_append_right (Nat.le_refl _), Nat.sub_self]; rfl, v0, v1⟩, z, by rw [List.getElem?_append_right (by rw [ok.2.1]; exact Nat.le_refl _), ok.2.1, Nat.sub_self]; rfl, hz⟩
def spGrow (C : Addr) : Sp := fun vs H Q _ => ∃ (p t a b : Addr) (ps qs : List Int) (n : Int) (c : Nat), vs = [.ref p, .ref t, .ref a, .ref b, .int n] ∧ PoolB H p c ∧ c ≤ 10 ^ 5 ∧ TreeAt C H t ps qs ∧ H a = some (.lst (ps.map V.int)) ∧ H b = some (.lst (qs.map V.int)) ∧ a ≠ p ∧ b ≠ p ∧ okT ps qs ∧ 1 ≤ n ∧ n ≤ 1000000 ∧
  ∀ H', But p H H' → PoolB H' p (c + 20) → Q (.bl true) H'
section
variable {P : Program} {w : World} {K : PySem.W.Frag} {mg : Str → Option Value} {base : Heap} {Ad1 Ad2 Ad4 Ad6 Ad9 Ad10 Ad11 : Addr}
theorem scLGrow : FnScope ["pool", "tree", "parents", "prices", "many", "price", "node", "high", "told", "parent", "wrong", "far", "cost"] ["pool", "tree", "parents", "prices", "many"] (defScope sLGrow) := ⟨rfl, rfl, rfl, by decide +kernel, rfl, by decide +kernel, by decide +kernel⟩
theorem ok_LGrow (T : Txt P w K mg base Ad1 Ad2 Ad4 Ad6 Ad9 Ad10 Ad11) : Cl P w K mg base 9 "_law_grow" (spGrow Ad11) [] := by
  have c_LDraw := ok_LDraw T
  have c_LLineOf := ok_LLineOf T
  have c_Stemmed := ok_Stemmed T
  have c_LNumbersRight := ok_LNumbersRight T
  have c_LSame := ok_LSame T 2
  have c_Line := ok_Line T
  have d_Hung := ok_Hung T
  have c_Hung := d_Hung.cl
  have c_LWrongPrice := ok_LWrongPrice T
  have c_LTry := ok_LTry T
  have c_LIsTree := ok_LIsTree T
  refine cl_of T.d__law_grow scLGrow (fun vs H Q E h => ?_) fun f cdv A outer s H vs Q E hr h => ?_
  · obtain ⟨p, t, a, b, ps, qs, n, c, rfl, _⟩ := h
    rfl
  · obtain ⟨p, t, a, b, ps, qs, n, c, rfl, hp, hc, hT, ha, hb, nap, nbp, ok, n1, n2, k⟩ := h
    refine ⟨_, (pss_cons (ps_set (i := 5) scLGrow.nd rfl (by first | exact Or.inl rfl | exact Or.inr rfl) (pe_op op_add pe_int (pe_c c_LDraw hr (by decide) rfl (pa_cons (pv 0) (pa_cons pe_int pa_nil)))))
  (pss_cons (ps_set (i := 6) scLGrow.nd rfl (by first | exact Or.inl rfl | exact Or.inr rfl) (pe_c c_LDraw hr (by decide) rfl (pa_cons (pv 0) (pa_cons (pe_op op_add (pe_callB call_len_seq (by rfl) T.b_len (by decide +kernel) (pa_cons (pv 2) pa_nil)) pe_int) pa_nil))))
  (pss_cons (ps_set (i := 7) scLGrow.nd rfl (by first | exact Or.inl rfl | exact Or.inr rfl) (pe_c c_LLineOf hr (by decide) rfl (pa_cons (pv 2) (pa_cons (pv 3) pa_nil))))
  (C8.pss_cut (ps_if (pt_cmpR op_lt (pe_callB call_len_seq (by rfl) T.b_len (by decide +kernel) (pa_cons (pv 2) pa_nil)) pe_int (nomark _))
    (pss_cons (ps_set (i := 8) scLGrow.nd rfl (by first | exact Or.inl rfl | exact Or.inr rfl) (pe_c c_Stemmed hr (by decide) rfl (pa_cons (pv 1) (pa_cons (pv 5) pa_nil))))
    (pss_cons (ps_if (pt_not (pt_val (pe_c c_LNumbersRight hr (by decide) rfl (pa_cons (pv 8) (pa_cons (pe_op op_cat (pe_lst (pa_cons pe_int pa_nil)) (pe_lc (own := [(("parent" : Str), 9)]) (g := gName 9) (by rfl) scLGrow.nd (pi_list (pv 2)) (blkOk_by (own := [(("parent" : Str), 9)]) (N := ["pool", "tree", "parents", "prices", "many", "price", "node", "high", "told", "parent", "wrong", "far", "cost"]) (sc := defScope sLGrow) (by decide +kernel)) (fun _ _ _ _ _ => (pg_name (i := 9) scLGrow.nd rfl (by first | exact Or.inl rfl | exact Or.inr rfl))) (fun _ _ _ _ _ => pts_nil) (fun _ _ _ _ _ => (pe_op op_add (pv 9) pe_int)))) (pa_cons (pe_op op_cat (pe_lst (pa_cons (pv 5) pa_nil)) (pv 3)) (pa_cons (pv 4) pa_nil)))))))
      (pss_one (ps_ret pe_bl))
      pss_nil)
    (pss_cons (ps_if (pt_not (pt_val (pe_c c_LSame hr (by decide) rfl (pa_cons (pe_c c_Line hr (by decide) rfl (pa_cons (pv 8) pa_nil)) (pa_cons (pe_tup (pa_cons (pe_op op_mulW (pv 5) (pe_ix ix_tup (pv 7) pe_int (fun _ _ => rfl))) (pa_cons (pe_ix ix_tup (pv 7) pe_int (fun _ _ => rfl)) pa_nil))) pa_nil)))))
      (pss_one (ps_ret pe_bl))
      pss_nil)
    (pss_cons (ps_if (pt_not (pt_val (pe_c c_LNumbersRight hr (by decide) rfl (pa_cons (pe_c c_Hung hr (by decide) rfl (pa_cons (pv 1) (pa_cons (pv 6) (pa_cons (pv 5) pa_nil)))) (pa_cons (pe_op op_cat (pv 2) (pe_lst (pa_cons (pv 6) pa_nil))) (pa_cons (pe_op op_cat (pv 3) (pe_lst (pa_cons (pv 5) pa_nil))) (pa_cons (pv 4) pa_nil)))))))
      (pss_one (ps_ret pe_bl))
      pss_nil)
    (pss_cons (ps_if (pt_not (pt_val (pe_c c_LNumbersRight hr (by decide) rfl (pa_cons (pe_cK0 (ks := ["price", "node", "tree"]) (g := rev3) d_Hung hr (by decide) rfl (pk_cons (pv 5) (pk_cons pe_int (pk_cons (pv 1) pk_nil))) (fun _ _ _ _ _ _ ws hl => match ws, hl with | [_, _, _], _ => rfl) rev3_rel) (pa_cons (pe_op op_cat (pv 2) (pe_lst (pa_cons pe_int pa_nil))) (pa_cons (pe_op op_cat (pv 3) (pe_lst (pa_cons (pv 5) pa_nil))) (pa_cons (pv 4) pa_nil)))))))
      (pss_one (ps_ret pe_bl))
      pss_nil)
    (pss_cons (ps_set (i := 10) scLGrow.nd rfl (by first | exact Or.inl rfl | exact Or.inr rfl) (pe_c c_LWrongPrice hr (by decide) rfl (pa_cons (pv 0) pa_nil)))
    (pss_cons (ps_if (pt_not (pt_val (pe_c c_LSame hr (by decide) rfl (pa_cons (pe_c c_LTry hr (by decide) rfl (pa_cons pe_str (pa_cons (pv 1) (pa_cons (pv 1) (pa_cons pe_int (pa_cons (pv 10) pa_nil)))))) (pa_cons (pe_tup (pa_cons (pe_tup (pa_cons pe_str (pa_cons pe_int pa_nil))) pa_nil)) pa_nil)))))
      (pss_one (ps_ret pe_bl))
      pss_nil)
    (pss_one (ps_if (pt_not (pt_val (pe_c c_LSame hr (by decide) rfl (pa_cons (pe_c c_LTry hr (by decide) rfl (pa_cons pe_str (pa_cons (pv 1) (pa_cons (pv 1) (pa_cons (pv 6) (pa_cons (pv 10) pa_nil)))))) (pa_cons (pe_tup (pa_cons (pe_tup (pa_cons pe_str (pa_cons (pe_callB call_len_seq (by rfl) T.b_len (by decide +kernel) (pa_cons (pv 3) pa_nil)) pa_nil))) pa_nil)) pa_nil)))))
      (pss_one (ps_ret pe_bl))
      pss_nil)))))))))
    pss_nil)
  (pss_cons (ps_for (passes_of rfl) rfl (pi_list (pe_lst (pa_cons (pe_op op_sub pe_int pe_int) (pa_cons (pe_op op_add (pe_callB call_len_seq (by rfl) T.b_len (by decide +kernel) (pa_cons (pv 2) pa_nil)) pe_int) (pa_cons (pe_op op_add (pe_op op_add (pe_callB call_len_seq (by rfl) T.b_len (by decide +kernel) (pa_cons (pv 2) pa_nil)) pe_int) (pe_c c_LDraw hr (by decide) rfl (pa_cons (pv 0) (pa_cons (pe_op op_pow pe_int pe_int) pa_nil)))) (pa_cons (pe_op op_sub (pe_op op_sub pe_int pe_int) (pe_c c_LDraw hr (by decide) rfl (pa_cons (pv 0) (pa_cons pe_int pa_nil)))) pa_nil)))))) (pg_name (i := 11) scLGrow.nd rfl (by first | exact Or.inl rfl | exact Or.inr rfl))
    (pss_one (ps_for (passes_of rfl) rfl (pi_list (pe_lst (pa_cons (pv 5) (pa_cons pe_int (pa_cons pe_int pa_nil))))) (pg_name (i := 12) scLGrow.nd rfl (by first | exact Or.inl rfl | exact Or.inr rfl))
      (pss_one (ps_if (pt_not (pt_val (pe_c c_LSame hr (by decide) rfl (pa_cons (pe_c c_LTry hr (by decide) rfl (pa_cons pe_str (pa_cons (pv 1) (pa_cons (pv 1) (pa_cons (pv 11) (pa_cons (pv 12) pa_nil)))))) (pa_cons (pe_tup (pa_cons (pe_tup (pa_cons pe_str (pa_cons (pv 11) pa_nil))) pa_nil)) pa_nil)))))
        (pss_one (ps_ret pe_bl))
        pss_nil)))))
  (pss_cons (ps_for (passes_of rfl) rfl (pi_list (pe_lst (pa_cons pe_int (pa_cons (pe_op op_sub (pe_op op_sub pe_int pe_int) (pe_c c_LDraw hr (by decide) rfl (pa_cons (pv 0) (pa_cons (pe_op op_pow pe_int pe_int) pa_nil)))) (pa_cons (pe_op op_add (pe_op op_pow pe_int pe_int) pe_int) (pa_cons (pe_op op_add (pe_op op_add (pe_op op_pow pe_int pe_int) pe_int) (pe_c c_LDraw hr (by decide) rfl (pa_cons (pv 0) (pa_cons (pe_op op_pow pe_int pe_int) pa_nil)))) pa_nil)))))) (pg_name (i := 11) scLGrow.nd rfl (by first | exact Or.inl rfl | exact Or.inr rfl))
    (pss_one (ps_if (pt_not (pt_val (pe_c c_LSame hr (by decide) rfl (pa_cons (pe_c c_LTry hr (by decide) rfl (pa_cons pe_str (pa_cons (pv 1) (pa_cons (pv 1) (pa_cons (pv 11) (pa_cons pe_int pa_nil)))))) (pa_cons (pe_tup (pa_cons (pe_tup (pa_cons pe_str (pa_cons pe_str (pa_cons (pv 11) pa_nil)))) pa_nil)) pa_nil)))))
      (pss_one (ps_ret pe_bl))
      pss_nil)))
  (pss_one (ps_ret (pe_c c_LIsTree hr (by decide) rfl (pa_cons (pv 1) (pa_cons (pv 2) (pa_cons (pv 3) pa_nil)))))))))))), ?_⟩
    have hl := ok.1
    have hl2 := ok.2.1
    have hc6 : c ≤ 100000 := hc
    have G : ∀ {d : Nat}, d ≤ c + 1000 → d ≤ 10 ^ 100 := fun h => big6 (by show _ ≤ 10000000; omega)
    have N : ∀ {n : Int}, n ≤ 1000 → n ≤ 10 ^ 130 := fun h => Int.le_trans h (by decide +kernel)
    have lp : (((ps.map V.int).length : Nat) : Int) = (ps.length : Int) := by rw [List.length_map]
    have lq : (((qs.map V.int).length : Nat) : Int) = (ps.length : Int) := by rw [List.length_map, hl2]
    refine ⟨_, rfl, draw_of hp (G (by omega)) (by decide) (N (by decide)) fun d H1 b1 p1 d0 d1 => ?_⟩
    refine ⟨_, _, rfl, rfl, ?_⟩
    have ha1 := b1 _ _ nap ha
    refine ⟨_, rfl, _, rfl, a, _, rfl, .inl (SqL.of ha1), _, _, rfl, rfl, draw_of p1 (G (by omega)) (by rw [lp]; omega) (N (by rw [lp]; omega)) fun v H2 b2 p2 v0 v1 => ?_⟩
    rw [lp] at v1
    have v1' : v ≤ ps.length := by omega
    have z1 : 2 ≤ 2 + d := by omega
    have z2 : 2 + d ≤ 31 := by omega
    have bH2 := b1.trans b2
    have ha2 := b2 _ _ nap ha1
    have hb2 := bH2 _ _ nbp hb
    refine ⟨_, rfl, _, rfl, a, b, ps, qs, rfl, ha2, hb2, ok, fun x y hq H3 s3 hL hhq => ?_⟩
    have bH3 := bH2.trans (But.of s3)
    have p3 := p2.same s3
    have bx := line_bnd ok hL
    refine ⟨fun σ' H' => ∃ v8 v9 v10 : Option V, σ' = [some (.ref p), some (.ref t), some (.ref a), some (.ref b), some (.int n), some (.int (2 + d)), some (.int v), some (.ref hq), v8, v9, v10, none, none] ∧ But p H H' ∧ PoolB H' p (c + 5), ?_, ?_⟩
    · have ha3 := s3 _ _ ha2
      have hb3 := s3 _ _ hb2
      have hT3 := hT.but hp bH3
      refine ⟨_, rfl, a, _, rfl, .inl (SqL.of ha3), _, _, rfl, rfl, _, rfl, ifD (fun c59 => ?_) fun _ => ⟨_, _, _, rfl, bH3, p3.up (by omega)⟩⟩
      have h59 : ps.length < 59 := by
        have c59' : ((ps.map V.int).length : Int) < 59 := c59
        rw [lp] at c59'
        omega
      have okS := ok_stem ok h59 z1 z2
      refine ⟨_, rfl, _, rfl, t, (2 + d), ps, qs, rfl, hT3, ok, mk_good okS fun X H4 s4 _ hX => ?_⟩
      have ha4 := s4 _ _ ha3
      have hb4 := s4 _ _ hb3
      have hh4 := s4 _ _ hhq
      refine ⟨_, rfl, by show 1 ≤ sizeLine; decide, fun l1 hl1 => ?_⟩
      have s5 := sm0 (o := .lst [.int 0]) hl1
      have e5 : upd H4 l1 (.lst [.int 0]) l1 = some (.lst [.int 0]) := upd_same
      generalize upd H4 l1 (.lst [.int 0]) = H5 at s5 e5 ⊢
      refine ⟨_, rfl, a, rfl, ⟨_, SqL.of (s5 _ _ ha4)⟩, fun D hD => lc_list (K := K) (a := a) (xs := ps.map V.int)
        (fun i H' => Same H5 H' ∧ H' D = some (.lst (((ps.take i).map (· + 1)).map V.int)))
        ⟨sm0 hD, upd_same⟩ (fun i H' _ h => SqL.of (h.1 _ _ (s5 _ _ ha4))) (fun i x H' hx h => ?_) fun H6 h => ?_⟩
      · obtain ⟨sh, hacc⟩ := h
        obtain ⟨q, hqi, rfl⟩ := ints_at hx
        refine ⟨rfl, ?_⟩
        refine ⟨_, rfl, _, _, rfl, rfl, _, hacc, by simp; exact sz_lt (by omega), smM sh hD, ?_⟩
        rw [upd_same, List.take_succ, hqi]
        simp
      obtain ⟨s6, hD6⟩ := h
      rw [List.length_map, List.take_length] at hD6
      have s56 := s5.trans s6
      refine ⟨l1, D, _, _, rfl, rfl, s6 _ _ e5, hD6, sz_small (by simp; omega), fun r hr1 => ?_⟩
      have s7 := smN s56 (o := .lst ([.int 0] ++ (ps.map (· + 1)).map V.int)) hr1
      have e7 : upd H6 r (.lst ([.int 0] ++ (ps.map (· + 1)).map V.int)) r = some (.lst ((stemP ps).map V.int)) := upd_same
      generalize upd H6 r (.lst ([.int 0] ++ (ps.map (· + 1)).map V.int)) = H7 at s7 e7 ⊢
      refine ⟨_, rfl, by show 1 ≤ sizeLine; decide, fun l2 hl2 => ?_⟩
      have s8 := smN s7 (o := .lst [.int (2 + d)]) hl2
      have e8 := atN (o := .lst [.int (2 + d)]) e7 hl2
      refine ⟨_, rfl, l2, b, _, _, rfl, rfl, upd_same, s8 _ _ hb4, sz_small (by simp; omega), fun r2 hr2 => ?_⟩
      have s9 := smN s8 (o := .lst ([.int (2 + d)] ++ qs.map V.int)) hr2
      have e9 := atN (o := .lst ([.int (2 + d)] ++ qs.map V.int)) e8 hr2
      refine ⟨_, rfl, X, r, r2, stemP ps, (2 + d) :: qs, n, rfl, hX.same s9, e9, upd_same, okS, n1, n2, fun H10 s10 => ⟨_, rfl, ifF rfl ?_⟩⟩
      have s410 := s9.trans s10
      refine ⟨_, rfl, X, stemP ps, (2 + d) :: qs, rfl, hX.same s410, okS, fun x2 y2 q2 H11 s11 hL2 hq2 => ?_⟩
      obtain ⟨rfl, rfl⟩ := line_uniq okS (line_stem ok hL z1 z2) hL2
      have s411 := s410.trans s11
      have hh11 := s411 _ _ hh4
      refine ⟨_, rfl, _, rfl, hq, _, _, _, rfl, rfl, SqT.of hh11, atI0, _, _, rfl, rfl, cmul_small (abs_small (by omega) (by omega)) (abs_small (by omega) (by omega)), _, rfl, hq, _, _, _, rfl, rfl, SqT.of hh11, atI1, by show 2 ≤ sizeLine; decide, fun p1' hp1' => ?_⟩
      refine same_of (da_two (atN hq2 hp1') upd_same (.int _ _) (.int _ _)) ⟨_, rfl, ifF rfl ?_⟩
      have s12 := s4.trans (smN s411 (o := .tup [.int ((2 + d) * x), .int y]) hp1')
      generalize upd H11 p1' (.tup [.int ((2 + d) * x), .int y]) = H12 at s12 ⊢
      -- hung
      have okH := ok_hung ok h59 v0 v1' z1 z2
      have hT12 := hT3.same s12
      have ha12 := s12 _ _ ha3
      have hb12 := s12 _ _ hb3
      refine ⟨_, rfl, _, rfl, _, rfl, t, v, (2 + d), ps, qs, rfl, hT12, ok, (fun _ _ => mk_good okH fun X2 H13 s13 _ hX2 => ?_), fun c => by omega⟩
      have ha13 := s13 _ _ ha12
      have hb13 := s13 _ _ hb12
      refine ⟨_, rfl, _, rfl, by show 1 ≤ sizeLine; decide, fun l3 hl3 => ?_⟩
      have s14 := sm0 (o := .lst [.int v]) hl3
      refine ⟨a, l3, _, _, rfl, rfl, s14 _ _ ha13, upd_same, sz_small (by simp; omega), fun r3 hr3 => ?_⟩
      have s15 := smN s14 (o := .lst (ps.map V.int ++ [.int v])) hr3
      have e15 : upd (upd H13 l3 (.lst [.int v])) r3 (.lst (ps.map V.int ++ [.int v])) r3 = some (.lst ((ps ++ [v]).map V.int)) := by rw [upd_same, List.map_append]; rfl
      generalize upd (upd H13 l3 (.lst [.int v])) r3 (.lst (ps.map V.int ++ [.int v])) = H15 at s15 e15 ⊢
      refine ⟨_, rfl, _, rfl, by show 1 ≤ sizeLine; decide, fun l4 hl4 => ?_⟩
      have s16 := smN s15 (o := .lst [.int (2 + d)]) hl4
      refine ⟨b, l4, _, _, rfl, rfl, s16 _ _ hb13, upd_same, sz_small (by simp; omega), fun r4 hr4 => ?_⟩
      have s17 := smN s16 (o := .lst (qs.map V.int ++ [.int (2 + d)])) hr4
      have e17 := atN (o := .lst (qs.map V.int ++ [.int (2 + d)])) (atN (o := .lst [.int (2 + d)]) e15 hl4) hr4
      refine ⟨_, rfl, X2, r3, r4, ps ++ [v], qs ++ [(2 + d)], n, rfl, hX2.same s17, e17, by rw [upd_same, List.map_append]; rfl, okH, n1, n2, fun H18 s18 => ⟨_, rfl, ifF rfl ?_⟩⟩
      have s318 := s12.trans (s13.trans (s17.trans s18))
      -- hung by keywords
      have okH0 := ok_hung ok h59 (v := 0) (by omega) (by omega) z1 z2
      have hT18 := hT3.same s318
      have ha18 := s318 _ _ ha3
      have hb18 := s318 _ _ hb3
      refine ⟨_, rfl, _, rfl, rfl, t, 0, (2 + d), ps, qs, rfl, hT18, ok, (fun _ _ => mk_good okH0 fun X3 H19 s19 _ hX3 => ?_), fun c => by omega⟩
      have ha19 := s19 _ _ ha18
      have hb19 := s19 _ _ hb18
      refine ⟨_, rfl, by show 1 ≤ sizeLine; decide, fun l5 hl5 => ?_⟩
      have s20 := sm0 (o := .lst [.int 0]) hl5
      refine ⟨a, l5, _, _, rfl, rfl, s20 _ _ ha19, upd_same, sz_small (by simp; omega), fun r5 hr5 => ?_⟩
      have s21 := smN s20 (o := .lst (ps.map V.int ++ [.int 0])) hr5
      have e21 : upd (upd H19 l5 (.lst [.int 0])) r5 (.lst (ps.map V.int ++ [.int 0])) r5 = some (.lst ((ps ++ [0]).map V.int)) := by rw [upd_same, List.map_append]; rfl
      generalize upd (upd H19 l5 (.lst [.int 0])) r5 (.lst (ps.map V.int ++ [.int 0])) = H21 at s21 e21 ⊢
      refine ⟨_, rfl, _, rfl, by show 1 ≤ sizeLine; decide, fun l6 hl6 => ?_⟩
      have s22 := smN s21 (o := .lst [.int (2 + d)]) hl6
      refine ⟨b, l6, _, _, rfl, rfl, s22 _ _ hb19, upd_same, sz_small (by simp; omega), fun r6 hr6 => ?_⟩
      have s23 := smN s22 (o := .lst (qs.map V.int ++ [.int (2 + d)])) hr6
      have e23 := atN (o := .lst (qs.map V.int ++ [.int (2 + d)])) (atN (o := .lst [.int (2 + d)]) e21 hl6) hr6
      refine ⟨_, rfl, X3, r5, r6, ps ++ [0], qs ++ [(2 + d)], n, rfl, hX3.same s23, e23, by rw [upd_same, List.map_append]; rfl, okH0, n1, n2, fun H24 s24 => ⟨_, rfl, ifF rfl ?_⟩⟩
      have s324 := s318.trans (s19.trans (s23.trans s24))
      have p24 := p3.same s324
      -- wrong prices
      refine ⟨_, rfl, p, _, rfl, p24, (by show c + 2 ≤ 1000000; omega), fun wz H25 b25 p25 hw => ?_⟩
      have bH25 := (bH3.trans (But.of s324)).trans b25
      have hT25 := hT.but hp bH25
      refine ⟨_, rfl, _, rfl, _, rfl, t, t, ps, qs, 0, wz, hT25, ok, .inr (.inl ⟨rfl, fun o q H26 hdue s26 hv => ?_⟩)⟩
      obtain rfl := due_uniq (due_stem ok h59 hw) hdue
      refine ⟨by show 2 ≤ sizeLine; decide, fun g1 hg1 => ⟨by show 1 ≤ sizeLine; decide, fun g2 hg2 => ?_⟩⟩
      have s27 := smN (sm0 (o := .tup [.str "BadPrice", .int 0]) hg1) (o := .tup [.ref g1]) hg2
      refine same_of (due_da hdue (dueV.same s27 hv) ⟨g1, upd_same, atN upd_same hg2⟩) ⟨_, rfl, ifF rfl ?_⟩
      have s2527 := s26.trans s27
      generalize upd (upd H26 g1 (.tup [.str "BadPrice", .int 0])) g2 (.tup [.ref g1]) = H27 at s2527 ⊢
      refine ⟨_, rfl, _, rfl, _, rfl, _, rfl, t, t, ps, qs, v, wz, hT25.same s2527, ok, .inr (.inr (.inl ⟨rfl, v0, v1', fun o q H28 hdue s28 hv => ?_⟩))⟩
      obtain rfl := due_uniq (due_hung ok h59 v0 v1' hw) hdue
      have s28' := s2527.trans s28
      refine ⟨_, rfl, b, _, rfl, .inl (SqL.of (s28' _ _ (bH25 _ _ nbp hb))), ?_⟩
      rw [lq]
      refine ⟨by show 2 ≤ sizeLine; decide, fun g3 hg3 => ⟨by show 1 ≤ sizeLine; decide, fun g4 hg4 => ?_⟩⟩
      have s29 := smN (sm0 (o := .tup [.str "BadPrice", .int (ps.length : Nat)]) hg3) (o := .tup [.ref g3]) hg4
      refine same_of (due_da hdue (dueV.same s29 hv) ⟨g3, upd_same, atN upd_same hg4⟩) ⟨_, rfl, ifF rfl ?_⟩
      exact ⟨_, _, _, rfl, bH25.trans (But.of (s28'.trans s29)), (p25.same (s28'.trans s29)).up (by omega)⟩
    rintro _ J0 ⟨v8, v9, v10, rfl, c0, r0⟩
    have aJ := c0 _ _ nap ha
    have p30 : (10 : Int) ^ Int.toNat 30 = 1000000000000000000000000000000 := by decide +kernel
    refine ⟨_, _, rfl, rfl, _, rfl, a, _, rfl, .inl (SqL.of aJ), _, _, rfl, rfl, _, rfl, a, _, rfl, .inl (SqL.of aJ), _, _, rfl, rfl, _, rfl, _, _, rfl, rfl, pow10 (by decide) (by decide), draw_of r0 (G (by omega)) (by rw [p30]; decide) (by rw [p30]; decide +kernel) fun e1 J1 d1' r1 e10 e11 => ?_⟩
    refine ⟨_, _, rfl, rfl, _, _, rfl, rfl, _, rfl, draw_of r1 (G (by omega)) (by decide) (N (by decide)) fun e2 J2 d2' r2 e20 e21 => ?_⟩
    refine ⟨_, _, rfl, rfl, by show 4 ≤ sizeLine; decide, fun L hL => ?_⟩
    rw [lp]
    have cJ2 := (c0.trans d1').trans d2'
    have eL : upd J2 L (.lst (([0 - 1, (ps.length : Int) + 1, (ps.length : Int) + 2 + e1, 0 - 2 - e2] : List Int).map V.int)) L = some (.lst (([0 - 1, (ps.length : Int) + 1, (ps.length : Int) + 2 + e1, 0 - 2 - e2] : List Int).map V.int)) := upd_same
    have cJ3 := cJ2.trans (But.of (sm0 (o := .lst (([0 - 1, (ps.length : Int) + 1, (ps.length : Int) + 2 + e1, 0 - 2 - e2] : List Int).map V.int)) hL))
    have rJ3 := r2.new (o := .lst (([0 - 1, (ps.length : Int) + 1, (ps.length : Int) + 2 + e1, 0 - 2 - e2] : List Int).map V.int)) hL
    have out : ∀ z ∈ ([0 - 1, (ps.length : Int) + 1, (ps.length : Int) + 2 + e1, 0 - 2 - e2] : List Int), z < 0 ∨ (ps.length : Int) + 1 ≤ z := by
      intro z hz
      simp only [List.mem_cons, List.not_mem_nil, or_false] at hz
      omega
    refine ⟨L, rfl, ⟨_, SqL.of eL⟩, for_list (K := K) (a := L) (xs := ([0 - 1, (ps.length : Int) + 1, (ps.length : Int) + 2 + e1, 0 - 2 - e2] : List Int).map V.int)
      (fun i σ J => ∃ v11 v12 : Option V, σ = [some (.ref p), some (.ref t), some (.ref a), some (.ref b), some (.int n), some (.int (2 + d)), some (.int v), some (.ref hq), v8, v9, v10, v11, v12] ∧ But p H J ∧ PoolB J p (c + 7) ∧ J L = some (.lst (([0 - 1, (ps.length : Int) + 1, (ps.length : Int) + 2 + e1, 0 - 2 - e2] : List Int).map V.int)))
      ⟨none, none, rfl, cJ3, rJ3.up (by omega), eL⟩ (fun i σ J _ h => by obtain ⟨_, _, _, _, _, e⟩ := h; exact SqL.of e) (fun i x' σ J hx h => ?_) fun σ J h => ?_⟩
    · obtain ⟨v11, v12, rfl, cJ, rJ, eJ⟩ := h
      obtain ⟨far, hfar, rfl⟩ := ints_at hx
      have hout := out far (List.mem_of_getElem? hfar)
      refine ⟨_, rfl, by show 3 ≤ sizeLine; decide, fun M hM => ?_⟩
      have eM : upd J M (.lst (([2 + d, 1, 32] : List Int).map V.int)) M = some (.lst (([2 + d, 1, 32] : List Int).map V.int)) := upd_same
      have sM := sm0 (o := .lst (([2 + d, 1, 32] : List Int).map V.int)) hM
      refine ⟨M, rfl, ⟨_, SqL.of eM⟩, for_list (K := K) (a := M) (xs := ([2 + d, 1, 32] : List Int).map V.int)
        (fun i σ J' => ∃ v12 : Option V, σ = [some (.ref p), some (.ref t), some (.ref a), some (.ref b), some (.int n), some (.int (2 + d)), some (.int v), some (.ref hq), v8, v9, v10, some (.int far), v12] ∧ Same J J' ∧ J' M = some (.lst (([2 + d, 1, 32] : List Int).map V.int)))
        ⟨v12, rfl, sM, eM⟩ (fun i σ J' _ h => by obtain ⟨_, _, _, e⟩ := h; exact SqL.of e) (fun i x' σ J' hx h => ?_) fun σ J' h => ?_⟩
      · obtain ⟨v12, rfl, sJ, eM'⟩ := h
        obtain ⟨cost, hcost, rfl⟩ := ints_at hx
        have hT' := (hT.but hp cJ).same sJ
        refine ⟨_, rfl, _, rfl, _, rfl, _, rfl, t, t, ps, qs, far, cost, hT', ok, .inr (.inr (.inr (.inl ⟨rfl, hout, fun q r J2 s2 hr2 hq2 => ?_⟩)))⟩
        refine ⟨_, rfl, by show 2 ≤ sizeLine; decide, fun g1 hg1 => ⟨by show 1 ≤ sizeLine; decide, fun g2 hg2 => ?_⟩⟩
        exact same_of (da_one (atN (atN hq2 hg1) hg2) upd_same (da_str rfl (by decide +kernel) (.int _ _) (atN (atN hr2 hg1) hg2) (atN upd_same hg2))) ⟨_, rfl, ifF rfl ⟨_, rfl, smN (smN (sJ.trans s2) hg1) hg2, atN (atN (s2 _ _ eM') hg1) hg2⟩⟩
      · obtain ⟨v12, rfl, sJ, eM'⟩ := h
        exact ⟨_, _, rfl, cJ.trans (But.of sJ), rJ.same sJ, sJ _ _ eJ⟩
    obtain ⟨v11, v12, rfl, cJ, rJ, _⟩ := h
    have p6 : ((10 : Int) ^ Int.toNat 6) = 1000000 := by decide +kernel
    refine ⟨_, _, rfl, rfl, _, rfl, _, _, rfl, rfl, pow10 (by decide) (by decide), draw_of rJ (G (by omega)) (by rw [p30]; decide) (by rw [p30]; decide +kernel) fun e3 J5 d5 r5 e30 e31 => ?_⟩
    refine ⟨_, _, rfl, rfl, _, _, rfl, rfl, pow10 (by decide) (by decide), _, _, rfl, rfl, _, _, rfl, rfl, pow10 (by decide) (by decide), _, _, rfl, rfl, _, rfl, _, _, rfl, rfl, pow10 (by decide) (by decide), draw_of r5 (G (by omega)) (by rw [p30]; decide) (by rw [p30]; decide +kernel) fun e4 J6 d6 r6 e40 e41 => ?_⟩
    refine ⟨_, _, rfl, rfl, by show 4 ≤ sizeLine; decide, fun L2 hL2 => ?_⟩
    have eL2 : upd J6 L2 (.lst (([0, 0 - 1 - e3, 10 ^ Int.toNat 6 + 1, 10 ^ Int.toNat 6 + 2 + e4] : List Int).map V.int)) L2 = some (.lst (([0, 0 - 1 - e3, 10 ^ Int.toNat 6 + 1, 10 ^ Int.toNat 6 + 2 + e4] : List Int).map V.int)) := upd_same
    have cJ7 := ((cJ.trans d5).trans d6).trans (But.of (sm0 (o := .lst (([0, 0 - 1 - e3, 10 ^ Int.toNat 6 + 1, 10 ^ Int.toNat 6 + 2 + e4] : List Int).map V.int)) hL2))
    have rJ7 := r6.new (o := .lst (([0, 0 - 1 - e3, 10 ^ Int.toNat 6 + 1, 10 ^ Int.toNat 6 + 2 + e4] : List Int).map V.int)) hL2
    have out2 : ∀ z ∈ ([0, 0 - 1 - e3, 10 ^ Int.toNat 6 + 1, 10 ^ Int.toNat 6 + 2 + e4] : List Int), z < 1 ∨ 1000000 < z := by
      intro z hz
      rw [p6] at hz
      simp only [List.mem_cons, List.not_mem_nil, or_false] at hz
      omega
    refine ⟨L2, rfl, ⟨_, SqL.of eL2⟩, for_list (K := K) (a := L2) (xs := ([0, 0 - 1 - e3, 10 ^ Int.toNat 6 + 1, 10 ^ Int.toNat 6 + 2 + e4] : List Int).map V.int)
      (fun i σ J => ∃ v11 v12 : Option V, σ = [some (.ref p), some (.ref t), some (.ref a), some (.ref b), some (.int n), some (.int (2 + d)), some (.int v), some (.ref hq), v8, v9, v10, v11, v12] ∧ But p H J ∧ PoolB J p (c + 9) ∧ J L2 = some (.lst (([0, 0 - 1 - e3, 10 ^ Int.toNat 6 + 1, 10 ^ Int.toNat 6 + 2 + e4] : List Int).map V.int)))
      ⟨_, _, rfl, cJ7, rJ7.up (by omega), eL2⟩ (fun i σ J _ h => by obtain ⟨_, _, _, _, _, e⟩ := h; exact SqL.of e) (fun i x' σ J hx h => ?_) fun σ J h => ?_⟩
    · obtain ⟨v11, v12, rfl, cJ, rJ, eJ⟩ := h
      obtain ⟨far, hfar, rfl⟩ := ints_at hx
      have hout := out2 far (List.mem_of_getElem? hfar)
      refine ⟨_, rfl, _, rfl, _, rfl, t, t, ps, qs, far, 0, hT.but hp cJ, ok, .inl ⟨rfl, hout, fun q r J2 s2 hr2 hq2 => ?_⟩⟩
      refine ⟨_, rfl, by show 3 ≤ sizeLine; decide, fun g1 hg1 => ⟨by show 1 ≤ sizeLine; decide, fun g2 hg2 => ?_⟩⟩
      have row : ∀ x ∈ ([.str "BadCount", .str "many", .int far] : List V), Da (upd (upd J2 g1 (.tup [.str "BadCount", .str "many", .int far])) g2 (.tup [.ref g1])) 0 x x := fun x hx => by
        rcases List.mem_cons.mp hx with rfl | hx
        · exact .str 0 _ (by decide +kernel)
        rcases List.mem_cons.mp hx with rfl | hx
        · exact .str 0 _ (by decide +kernel)
        rcases List.mem_cons.mp hx with rfl | hx
        · exact .int 0 _
        cases hx
      have sg := smN (smN s2 (o := .tup [.str "BadCount", .str "many", .int far]) hg1) (o := .tup [.ref g1]) hg2
      exact same_of (da_one (atN (atN hq2 hg1) hg2) upd_same (da_map (F := fun x : V => x) (xs := [.str "BadCount", .str "many", .int far]) (by rw [List.map_id']; exact atN (atN hr2 hg1) hg2) (by rw [List.map_id']; exact atN upd_same hg2) (by simp) row)) ⟨_, rfl, ifF rfl ⟨_, _, rfl, cJ.trans (But.of sg), rJ.same sg, sg _ _ eJ⟩⟩
    obtain ⟨v11, v12, rfl, cJ, rJ, _⟩ := h
    exact ⟨_, rfl, _, rfl, _, rfl, t, a, b, ps, qs, rfl, hT.but hp cJ, cJ _ _ nap ha, cJ _ _ nbp hb, ok, fun J' sJ => k J' (cJ.trans (But.of sJ)) ((rJ.same sJ).up (by omega))⟩
end
end K13
set_option maxRecDepth 100000
set_option maxHeartbeats 4000000
namespace K13
open PySem PySem.Spec PyProof.Rows L2 SI
theorem rg_path (m : Nat) : rgV 0 (m : Int) = (pathP m).map V.int := by
  unfold rgV pathP
  rw [List.map_map, show ((m : Int) - 0).toNat = m by omega]
  exact List.map_congr_left fun i _ => by show V.int (0 + (i : Nat)) = V.int (i : Nat); rw [Int.zero_add]
theorem cut_take {R : List Int} {e : Nat} (h : e ≤ R.length) : cutV (R.map V.int) none (some (e : Int)) = (R.take e).map V.int := by
  unfold cutV
  rw [HT.sIx_none, HT.sIx_nat, List.length_map, List.drop_zero, Nat.sub_zero, Nat.min_eq_left h, List.map_take]
theorem ok_glue {ps qs ps' qs' : List Int} (ok : okT ps qs) (ok' : okT ps' qs') (h : (glueP ps ps').length ≤ 59) : okT (glueP ps ps') (qs ++ qs') := ok_rows (par_glue ok.par ok'.par) (fun x hx => (List.mem_append.mp hx).elim (ok.pr x) (ok'.pr x)) (by rw [len_glue, List.length_append, ok.2.1, ok'.2.1]) h
theorem bc_row {H : Hp} {n : Int} : ∀ x ∈ ([.str "BadCount", .str "nodes", .int n] : List V), Da H 0 x x := fun x hx => by
  rcases List.mem_cons.mp hx with rfl | hx
  · exact .str 0 _ (by decide +kernel)
  rcases List.mem_cons.mp hx with rfl | hx
  · exact .str 0 _ (by decide +kernel)
  rcases List.mem_cons.mp hx with rfl | hx
  · exact .int 0 _
  cases hx
def spGluedR (C : Addr) : Sp := fun vs H Q _ => ∃ (l r rw a b a' b' : Addr) (ps qs ps' qs' : List Int) (n : Int), vs = [.ref l, .ref r, .ref rw, .int n] ∧ TreeAt C H l ps qs ∧ TreeAt C H r ps' qs' ∧ okT ps qs ∧ okT ps' qs' ∧ H rw = some (.lst [.ref a, .ref b, .ref a', .ref b']) ∧
  H a = some (.lst (ps.map V.int)) ∧ H b = some (.lst (qs.map V.int)) ∧ H a' = some (.lst (ps'.map V.int)) ∧ H b' = some (.lst (qs'.map V.int)) ∧ 1 ≤ n ∧ n ≤ 1000000 ∧ ∀ H', Same H H' → Q (.bl true) H'
section
variable {P : Program} {w : World} {K : PySem.W.Frag} {mg : Str → Option Value} {base : Heap} {Ad1 Ad2 Ad4 Ad6 Ad9 Ad10 Ad11 : Addr}
theorem scLGluedRight : FnScope ["left", "right", "rows", "many", "parents", "parent", "prices", "told", "one", "two", "high"] ["left", "right", "rows", "many"] (defScope sLGluedRight) := ⟨rfl, rfl, rfl, by decide +kernel, rfl, by decide +kernel, by decide +kernel⟩
theorem ok_LGluedRight (T : Txt P w K mg base Ad1 Ad2 Ad4 Ad6 Ad9 Ad10 Ad11) : Cl P w K mg base 9 "_law_glued_right" (spGluedR Ad11) [] := by
  have c_LLineOf := ok_LLineOf T
  have c_Glued := ok_Glued T
  have c_LNumbersRight := ok_LNumbersRight T
  have c_LSame := ok_LSame T 2
  have c_Line := ok_Line T
  have c_LTry := ok_LTry T
  refine cl_of T.d__law_glued_right scLGluedRight (fun vs H Q E h => ?_) fun f cdv A outer s H vs Q E hr h => ?_
  · obtain ⟨l, r, rw, a, b, a', b', ps, qs, ps', qs', n, rfl, _⟩ := h
    rfl
  · obtain ⟨l, r, rw, a, b, a', b', ps, qs, ps', qs', n, rfl, hL, hR, ok, ok', hrw, ha, hb, ha', hb', n1, n2, k⟩ := h
    refine ⟨_, (pss_cons (ps_set (i := 4) scLGluedRight.nd rfl (by first | exact Or.inl rfl | exact Or.inr rfl) (pe_op op_cat (pe_ix ix_list (pv 2) pe_int (fun _ _ => rfl)) (pe_lc (own := [(("parent" : Str), 5)]) (g := gName 5) (by rfl) scLGluedRight.nd (pi_list (pe_ix ix_list (pv 2) pe_int (fun _ _ => rfl))) (blkOk_by (own := [(("parent" : Str), 5)]) (N := ["left", "right", "rows", "many", "parents", "parent", "prices", "told", "one", "two", "high"]) (sc := defScope sLGluedRight) (by decide +kernel)) (fun _ _ _ _ _ => (pg_name (i := 5) scLGluedRight.nd rfl (by first | exact Or.inl rfl | exact Or.inr rfl))) (fun _ _ _ _ _ => pts_nil) (fun _ _ _ _ _ => (pe_op op_mulW (pe_callTy call_int1 (by rfl) T.b_int (by decide +kernel) (pa_cons (pe_cmpR op_gt (pv 5) pe_int (nomark _)) pa_nil)) (pe_op op_add (pe_callB call_len_seqB (by rfl) T.b_len (by decide +kernel) (pa_cons (pe_ix ix_listB (pv 2) pe_int (fun _ _ => rfl)) pa_nil)) (pv 5)))))))
  (pss_cons (ps_set (i := 6) scLGluedRight.nd rfl (by first | exact Or.inl rfl | exact Or.inr rfl) (pe_op op_cat (pe_ix ix_list (pv 2) pe_int (fun _ _ => rfl)) (pe_ix ix_list (pv 2) pe_int (fun _ _ => rfl))))
  (pss_cons (ps_if (pt_cmpR op_gt (pe_callB call_len_seq (by rfl) T.b_len (by decide +kernel) (pa_cons (pv 4) pa_nil)) pe_int (nomark _))
    (pss_one (ps_ret (pe_c c_LSame hr (by decide) rfl (pa_cons (pe_c c_LTry hr (by decide) rfl (pa_cons pe_str (pa_cons (pv 0) (pa_cons (pv 1) (pa_cons pe_int (pa_cons pe_int pa_nil)))))) (pa_cons (pe_tup (pa_cons (pe_tup (pa_cons pe_str (pa_cons pe_str (pa_cons (pe_op op_add (pe_callB call_len_seq (by rfl) T.b_len (by decide +kernel) (pa_cons (pv 4) pa_nil)) pe_int) pa_nil)))) pa_nil)) pa_nil)))))
    pss_nil)
  (pss_cons (ps_set (i := 7) scLGluedRight.nd rfl (by first | exact Or.inl rfl | exact Or.inr rfl) (pe_c c_Glued hr (by decide) rfl (pa_cons (pv 0) (pa_cons (pv 1) pa_nil))))
  (pss_cons (ps_if (pt_not (pt_val (pe_c c_LNumbersRight hr (by decide) rfl (pa_cons (pv 7) (pa_cons (pv 4) (pa_cons (pv 6) (pa_cons (pv 3) pa_nil)))))))
    (pss_one (ps_ret pe_bl))
    pss_nil)
  (pss_cons (ps_set (i := 8) scLGluedRight.nd rfl (by first | exact Or.inl rfl | exact Or.inr rfl) (pe_c c_LLineOf hr (by decide) rfl (pa_cons (pe_ix ix_list (pv 2) pe_int (fun _ _ => rfl)) (pa_cons (pe_ix ix_list (pv 2) pe_int (fun _ _ => rfl)) pa_nil))))
  (pss_cons (ps_set (i := 9) scLGluedRight.nd rfl (by first | exact Or.inl rfl | exact Or.inr rfl) (pe_c c_LLineOf hr (by decide) rfl (pa_cons (pe_ix ix_list (pv 2) pe_int (fun _ _ => rfl)) (pa_cons (pe_ix ix_list (pv 2) pe_int (fun _ _ => rfl)) pa_nil))))
  (pss_cons (ps_set (i := 10) scLGluedRight.nd rfl (by first | exact Or.inl rfl | exact Or.inr rfl) (pe_callB (call_max2 rfl) (by rfl) T.b_max (by decide +kernel) (pa_cons (pe_ix ix_tup (pv 8) pe_int (fun _ _ => rfl)) (pa_cons (pe_ix ix_tup (pv 9) pe_int (fun _ _ => rfl)) pa_nil))))
  (pss_one (ps_ret (pe_c c_LSame hr (by decide) rfl (pa_cons (pe_c c_Line hr (by decide) rfl (pa_cons (pv 7) pa_nil)) (pa_cons (pe_tup (pa_cons (pv 10) (pa_cons (pe_op op_sub (pe_op op_sub (pe_op op_add (pe_callB (cr_sumT rfl) (by rfl) T.b_sum (by decide +kernel) (pa_cons (pv 8) pa_nil)) (pe_callB (cr_sumT rfl) (by rfl) T.b_sum (by decide +kernel) (pa_cons (pv 9) pa_nil))) pe_int) (pv 10)) pa_nil))) pa_nil))))))))))))), ?_⟩
    have hl := ok.1
    have hl' := ok'.1
    have hq := ok.2.1
    have hq' := ok'.2.1
    refine ⟨_, rfl, rw, _, _, _, rfl, rfl, SqL.of hrw, at_of (j := 0) rfl rfl, ?_⟩
    refine ⟨_, rfl, rw, _, _, _, rfl, rfl, SqL.of hrw, at_of (j := 2) rfl rfl, a', rfl, ⟨_, SqL.of ha'⟩, fun D hD => lc_list (K := K) (a := a') (xs := ps'.map V.int)
      (fun i H' => Same H H' ∧ H' D = some (.lst (((ps'.take i).map (gl ps.length)).map V.int)))
      ⟨sm0 hD, upd_same⟩ (fun i H' _ h => SqL.of (h.1 _ _ ha')) (fun i x H' hx h => ?_) fun H1 h => ?_⟩
    · obtain ⟨sh, hacc⟩ := h
      obtain ⟨p, hp, rfl⟩ := ints_at hx
      have hpp := ok'.par i p hp
      have hi : i < ps'.length := (List.getElem?_eq_some_iff.mp hp).1
      refine ⟨rfl, ?_⟩
      refine ⟨_, rfl, _, _, rfl, rfl, .inr ⟨_, rfl, _, rfl, rw, _, _, _, rfl, rfl, SqL.of (sh _ _ hrw), at_of (j := 0) rfl rfl, a, _, rfl, .inl (SqL.of (sh _ _ ha)), _, rfl, _, _, rfl, rfl, _, _, rfl, rfl, cmul_small (abs_small (by split <;> omega) (by split <;> omega)) (abs_small (by rw [List.length_map]; omega) (by rw [List.length_map]; omega)), _, hacc, by simp; exact sz_lt (by omega), smM sh hD, ?_⟩⟩
      rw [upd_same, List.take_succ, hp]
      have e : (if decide ((0 : Int) < p) = true then (1 : Int) else 0) * ((((ps.map V.int).length : Nat) : Int) + p) = gl ps.length p := by
        rw [List.length_map]
        unfold gl
        by_cases c : p = 0
        · subst c; simp
        · rw [if_neg c, if_pos (by rw [decide_eq_true_eq]; omega), Int.one_mul]
      rw [Option.toList_some, List.map_append, List.map_append]
      show some (HO.lst (_ ++ [V.int ((if decide ((0 : Int) < p) = true then (1 : Int) else 0) * ((((ps.map V.int).length : Nat) : Int) + p))])) = _
      rw [e]
      rfl
    obtain ⟨s1, hD1⟩ := h
    rw [List.length_map, List.take_length] at hD1
    refine ⟨a, D, _, _, rfl, rfl, s1 _ _ ha, hD1, sz_small (by simp; omega), fun A hA => ?_⟩
    rw [← List.map_append]
    have s2 := smN s1 (o := .lst ((ps ++ ps'.map (gl ps.length)).map V.int)) hA
    have eA : upd H1 A (.lst ((ps ++ ps'.map (gl ps.length)).map V.int)) A = some (.lst ((glueP ps ps').map V.int)) := upd_same
    generalize upd H1 A (.lst ((ps ++ ps'.map (gl ps.length)).map V.int)) = H2 at s2 eA ⊢
    refine ⟨_, rfl, rw, _, _, _, rfl, rfl, SqL.of (s2 _ _ hrw), at_of (j := 1) rfl rfl, _, rfl, rw, _, _, _, rfl, rfl, SqL.of (s2 _ _ hrw), at_of (j := 3) rfl rfl, b, b', _, _, rfl, rfl, s2 _ _ hb, s2 _ _ hb', sz_small (by simp; omega), fun B hB => ?_⟩
    rw [← List.map_append]
    have s3 := smN s2 (o := .lst ((qs ++ qs').map V.int)) hB
    have eA3 := atN (o := .lst ((qs ++ qs').map V.int)) eA hB
    have eB3 : upd H2 B (.lst ((qs ++ qs').map V.int)) B = some (.lst ((qs ++ qs').map V.int)) := upd_same
    generalize upd H2 B (.lst ((qs ++ qs').map V.int)) = H3 at s3 eA3 eB3 ⊢
    have lA : ((((glueP ps ps').map V.int).length : Nat) : Int) = ((glueP ps ps').length : Int) := by rw [List.length_map]
    have hL3 := hL.same s3
    have hR3 := hR.same s3
    refine ⟨_, rfl, A, _, rfl, .inl (SqL.of eA3), _, _, rfl, rfl, _, rfl, ifD (fun c => ?_) fun c => ?_⟩
    · have c' : (59 : Int) < (((glueP ps ps').map V.int).length : Nat) := c
      rw [lA] at c'
      refine ⟨_, rfl, _, rfl, l, r, ps, qs, 0, 0, hL3, ok, .inr (.inr (.inr (.inr ⟨ps', qs', rfl, hR3, ok', fun o q H4 hdue s4 hv => ?_⟩)))⟩
      obtain rfl := due_uniq (DueIs.many (by omega)) hdue
      refine ⟨_, rfl, A, _, rfl, .inl (SqL.of (s4 _ _ eA3)), _, _, rfl, rfl, ?_⟩
      rw [lA]
      refine ⟨by show 3 ≤ sizeLine; decide, fun g1 hg1 => ⟨by show 1 ≤ sizeLine; decide, fun g2 hg2 => ?_⟩⟩
      have sg := smN (sm0 (o := .tup [.str "BadCount", .str "nodes", .int (((glueP ps ps').length : Nat) + 1)]) hg1) (o := .tup [.ref g1]) hg2
      exact same_of (due_da hdue (dueV.same sg hv) ⟨g1, upd_same, atN upd_same hg2⟩) (k _ (s3.trans (s4.trans sg)))
    have c' : ¬ (59 : Int) < (((glueP ps ps').map V.int).length : Nat) := c
    rw [lA] at c'
    have okG := ok_glue ok ok' (by omega)
    refine ⟨_, rfl, _, rfl, l, r, ps, qs, ps', qs', rfl, hL3, ok, hR3, ok', mk_good okG fun X H4 s4 _ hX => ?_⟩
    refine ⟨_, rfl, _, rfl, _, rfl, _, rfl, X, A, B, _, _, n, rfl, hX, s4 _ _ eA3, s4 _ _ eB3, okG, n1, n2, fun H5 s5 => ⟨_, rfl, ifF rfl ?_⟩⟩
    have s15 := s3.trans (s4.trans s5)
    refine ⟨_, rfl, rw, _, _, _, rfl, rfl, SqL.of (s15 _ _ hrw), at_of (j := 0) rfl rfl, _, rfl, rw, _, _, _, rfl, rfl, SqL.of (s15 _ _ hrw), at_of (j := 1) rfl rfl, a, b, ps, qs, rfl, s15 _ _ ha, s15 _ _ hb, ok, fun x y o1 H6 s6 hL6 ho1 => ?_⟩
    have s16 := s15.trans s6
    refine ⟨_, rfl, rw, _, _, _, rfl, rfl, SqL.of (s16 _ _ hrw), at_of (j := 2) rfl rfl, _, rfl, rw, _, _, _, rfl, rfl, SqL.of (s16 _ _ hrw), at_of (j := 3) rfl rfl, a', b', ps', qs', rfl, s16 _ _ ha', s16 _ _ hb', ok', fun x' y' o2 H7 s7 hL7 ho2 => ?_⟩
    have ho17 := s7 _ _ ho1
    refine ⟨_, rfl, o1, _, _, _, rfl, rfl, SqT.of ho17, atI0, _, rfl, o2, _, _, _, rfl, rfl, SqT.of ho2, atI0, _, _, rfl, ?_⟩
    refine ⟨_, rfl, X, _, _, rfl, hX.same (s5.trans (s6.trans s7)), okG, fun x2 y2 q2 H8 s8 hL8 hq2 => ?_⟩
    obtain ⟨rfl, rfl⟩ := line_uniq okG (line_glue ok ok' hL6 hL7) hL8
    refine ⟨_, rfl, _, rfl, o1, [x, y], rfl, SqT.of (s8 _ _ ho17), _, rfl, o2, [x', y'], rfl, SqT.of (s8 _ _ ho2), _, _, rfl, rfl, _, _, rfl, rfl, _, rfl, _, _, rfl, rfl, by show 2 ≤ sizeLine; decide, fun g hg => ?_⟩
    have e : ([x, y] : List Int).sum + ([x', y'] : List Int).sum - 1 - (if x' > x then x' else x) = x + y + (x' + y') - 1 - (if x' > x then x' else x) := by
      show x + (y + 0) + (x' + (y' + 0)) - 1 - _ = _
      omega
    have s18 := ((s16.trans s7).trans s8)
    exact same_of (da_two (atN hq2 hg) upd_same (.int _ _) (by show Da _ 1 (.int (x + y + (x' + y') - 1 - (if x' > x then x' else x))) (.int (([x, y] : List Int).sum + ([x', y'] : List Int).sum - 1 - (if x' > x then x' else x))); rw [e]; exact .int _ _)) (k _ (smN s18 hg))
end
end K13
set_option maxRecDepth 100000
set_option maxHeartbeats 4000000
namespace K13
open PySem PySem.Spec PyProof.Rows L2 SI
theorem due_many {A B : List Int} {n : Int} (h : 59 < A.length) (e : (A.length : Int) + 1 = n) : DueIs A B (some [.str "BadCount", .str "nodes", .int n]) := by
  subst e
  exact .many h
def spFull (C : Addr) : Sp := fun vs H Q _ => ∃ (p r a b : Addr) (ps qs : List Int) (n : Int) (c : Nat), vs = [.ref p, .ref r, .ref a, .ref b, .int n] ∧ PoolB H p c ∧ c ≤ 10 ^ 5 ∧ TreeAt C H r ps qs ∧ H a = some (.lst (ps.map V.int)) ∧ H b = some (.lst (qs.map V.int)) ∧ a ≠ p ∧ b ≠ p ∧ okT ps qs ∧ 1 ≤ ps.length ∧ 1 ≤ n ∧ n ≤ 1000000 ∧
  ∀ H', But p H H' → PoolB H' p (c + 5) → Q (.bl true) H'
section
variable {P : Program} {w : World} {K : PySem.W.Frag} {mg : Str → Option Value} {base : Heap} {Ad1 Ad2 Ad4 Ad6 Ad9 Ad10 Ad11 : Addr}
theorem scLFull : FnScope ["pool", "right", "parents", "prices", "many", "step", "start", "row", "k", "full", "cost", "short", "edges", "rows"] ["pool", "right", "parents", "prices", "many"] (defScope sLFull) := ⟨rfl, rfl, rfl, by decide +kernel, rfl, by decide +kernel, by decide +kernel⟩
theorem ok_LFull (T : Txt P w K mg base Ad1 Ad2 Ad4 Ad6 Ad9 Ad10 Ad11) : Cl P w K mg base 10 "_law_full" (spFull Ad11) [] := by
  have c_LDraw := ok_LDraw T
  have c_PathTree := (ok_PathTree T).cl
  have c_StarTree := (ok_StarTree T).cl
  have c_LNumbersRight := ok_LNumbersRight T
  have c_LSame := ok_LSame T 2
  have c_LTry := ok_LTry T
  have c_LGluedRight := ok_LGluedRight T
  have c_LIsTree := ok_LIsTree T
  refine cl_of T.d__law_full scLFull (fun vs H Q E h => ?_) fun f cdv A outer s H vs Q E hr h => ?_
  · obtain ⟨p, r, a, b, ps, qs, n, c, rfl, _⟩ := h
    rfl
  · obtain ⟨p, r, a, b, ps, qs, n, c, rfl, hp, hc, hT, ha, hb, nap, nbp, ok, hl1, n1, n2, k⟩ := h
    refine ⟨_, (pss_cons (ps_set (i := 5) scLFull.nd rfl (by first | exact Or.inl rfl | exact Or.inr rfl) (pe_c c_LDraw hr (by decide) rfl (pa_cons (pv 0) (pa_cons pe_int pa_nil))))
  (pss_cons (ps_set (i := 6) scLFull.nd rfl (by first | exact Or.inl rfl | exact Or.inr rfl) (pe_c c_LDraw hr (by decide) rfl (pa_cons (pv 0) (pa_cons pe_int pa_nil))))
  (pss_cons (ps_setLc (i := 7) (own := [(("k" : Str), 8)]) (g := gName 8) (by rfl) scLFull.nd rfl rfl (sw_true rfl rfl rfl (by decide +kernel)) (pi_range1 (by rfl) T.b_range (pa_cons pe_int pa_nil)) (blkOk_by (own := [(("k" : Str), 8)]) (N := ["pool", "right", "parents", "prices", "many", "step", "start", "row", "k", "full", "cost", "short", "edges", "rows"]) (sc := defScope sLFull) (by decide +kernel)) (fun _ _ _ _ _ => (pg_name (i := 8) scLFull.nd rfl (by first | exact Or.inl rfl | exact Or.inr rfl))) (fun _ _ _ _ _ => pts_nil) (fun _ _ _ _ _ => (pe_op op_add pe_int (pe_op op_mod (pe_callTy call_intI (by rfl) T.b_int (by decide +kernel) (pa_cons (pe_op op_add (pv 6) (pe_op op_mulW (pv 5) (pv 8))) pa_nil)) pe_int))))
  (pss_cons (ps_set (i := 9) scLFull.nd rfl (by first | exact Or.inl rfl | exact Or.inr rfl) (pe_c c_PathTree hr (by decide) rfl (pa_cons (pe_callTy call_tuple_of (by rfl) T.b_tuple (by decide +kernel) (pa_cons (pv 7) pa_nil)) pa_nil)))
  (pss_cons (ps_if (pt_not (pt_val (pe_c c_LNumbersRight hr (by decide) rfl (pa_cons (pv 9) (pa_cons (pe_listRg rfl (by rfl) T.b_list (prg_1 (by rfl) T.b_range pe_int)) (pa_cons (pv 7) (pa_cons (pv 4) pa_nil)))))))
    (pss_one (ps_ret pe_bl))
    pss_nil)
  (pss_cons (ps_for (passes_of rfl) rfl (pi_list (pe_lst (pa_cons (pe_op op_add pe_int (pv 6)) (pa_cons pe_int (pa_cons pe_int pa_nil))))) (pg_name (i := 10) scLFull.nd rfl (by first | exact Or.inl rfl | exact Or.inr rfl))
    (pss_cons (ps_if (pt_not (pt_val (pe_c c_LSame hr (by decide) rfl (pa_cons (pe_c c_LTry hr (by decide) rfl (pa_cons pe_str (pa_cons (pv 9) (pa_cons (pv 9) (pa_cons pe_int (pa_cons (pv 10) pa_nil)))))) (pa_cons (pe_tup (pa_cons (pe_tup (pa_cons pe_str (pa_cons pe_str (pa_cons pe_int pa_nil)))) pa_nil)) pa_nil)))))
      (pss_one (ps_ret pe_bl))
      pss_nil)
    (pss_one (ps_if (pt_not (pt_val (pe_c c_LSame hr (by decide) rfl (pa_cons (pe_c c_LTry hr (by decide) rfl (pa_cons pe_str (pa_cons (pv 9) (pa_cons (pv 9) (pa_cons (pv 6) (pa_cons (pv 10) pa_nil)))))) (pa_cons (pe_tup (pa_cons (pe_tup (pa_cons pe_str (pa_cons pe_str (pa_cons pe_int pa_nil)))) pa_nil)) pa_nil)))))
      (pss_one (ps_ret pe_bl))
      pss_nil))))
  (pss_cons (ps_set (i := 11) scLFull.nd rfl (by first | exact Or.inl rfl | exact Or.inr rfl) (pe_op op_sub pe_int (pe_callB call_len_seq (by rfl) T.b_len (by decide +kernel) (pa_cons (pv 3) pa_nil))))
  (pss_cons (ps_for (passes_of rfl) rfl (pi_list (pe_lst (pa_cons (pv 11) (pa_cons (pe_op op_add (pv 11) pe_int) pa_nil)))) (pg_name (i := 12) scLFull.nd rfl (by first | exact Or.inl rfl | exact Or.inr rfl))
    (pss_cons (ps_set (i := 13) scLFull.nd rfl (by first | exact Or.inl rfl | exact Or.inr rfl) (pe_lst (pa_cons (pe_listRg rfl (by rfl) T.b_list (prg_1 (by rfl) T.b_range (pv 12))) (pa_cons (pe_slice sl_list (pv 7) po_none (po_some (pv 12))) (pa_cons (pv 2) (pa_cons (pv 3) pa_nil))))))
    (pss_cons (ps_if (pt_not (pt_val (pe_c c_LGluedRight hr (by decide) rfl (pa_cons (pe_c c_PathTree hr (by decide) rfl (pa_cons (pe_slice sl_list (pv 7) po_none (po_some (pv 12))) pa_nil)) (pa_cons (pv 1) (pa_cons (pv 13) (pa_cons (pv 4) pa_nil)))))))
      (pss_one (ps_ret pe_bl))
      pss_nil)
    (pss_cons (ps_set (i := 13) scLFull.nd rfl (by first | exact Or.inl rfl | exact Or.inr rfl) (pe_lst (pa_cons (pv 2) (pa_cons (pv 3) (pa_cons (pe_op op_rep (pe_lst (pa_cons pe_int pa_nil)) (pv 12)) (pa_cons (pe_slice sl_list (pv 7) po_none (po_some (pv 12))) pa_nil))))))
    (pss_one (ps_if (pt_not (pt_val (pe_c c_LGluedRight hr (by decide) rfl (pa_cons (pv 1) (pa_cons (pe_c c_StarTree hr (by decide) rfl (pa_cons (pe_slice sl_list (pv 7) po_none (po_some (pv 12))) pa_nil)) (pa_cons (pv 13) (pa_cons (pv 4) pa_nil)))))))
      (pss_one (ps_ret pe_bl))
      pss_nil))))))
  (pss_one (ps_ret (pe_c c_LIsTree hr (by decide) rfl (pa_cons (pv 9) (pa_cons (pe_listRg rfl (by rfl) T.b_list (prg_1 (by rfl) T.b_range pe_int)) (pa_cons (pv 7) pa_nil)))))))))))))), ?_⟩
    have hl := ok.1
    have hl2 := ok.2.1
    have hc6 : c ≤ 100000 := hc
    have G : ∀ {d : Nat}, d ≤ c + 1000 → d ≤ 10 ^ 100 := fun h => big6 (by show _ ≤ 10000000; omega)
    have N : ∀ {n : Int}, n ≤ 1000 → n ≤ 10 ^ 130 := fun h => Int.le_trans h (by decide +kernel)
    have lq : (((qs.map V.int).length : Nat) : Int) = (ps.length : Int) := by rw [List.length_map, hl2]
    refine ⟨_, rfl, draw_of hp (G (by omega)) (by decide) (N (by decide)) fun step H1 b1 p1 d0 d1 => ?_⟩
    refine ⟨_, rfl, draw_of p1 (G (by omega)) (by decide) (N (by decide)) fun start H2 b2 p2 e0 e1 => ?_⟩
    have bH2 := b1.trans b2
    have hT2 := hT.but hp bH2
    have ha2 := bH2 _ _ nap ha
    have hb2 := bH2 _ _ nbp hb
    refine ⟨_, rfl, by decide, by decide, fun W hW => ?_⟩
    refine lc_range (lo := 0) (n := 59) (fun i H' => Same H2 H' ∧ ∃ R : List Int, H' W = some (.lst (R.map V.int)) ∧ R.length = i ∧ ∀ x ∈ R, 2 ≤ x ∧ x ≤ 31)
      ⟨sm0 hW, [], upd_same, rfl, fun x hx => by cases hx⟩ (fun i H' hi z => ?_) fun H3 z => ?_
    · obtain ⟨sh, R, hacc, hlen, hR⟩ := z
      refine ⟨rfl, ?_⟩
      rw [Int.zero_add]
      have hm1 : (0 : Int) ≤ step * (i : Nat) := Int.mul_nonneg d0 (by omega)
      refine ⟨_, rfl, _, rfl, _, rfl, _, _, rfl, rfl, cmul_small (abs_small (by omega) (by omega)) (abs_small (by omega) (by omega)), _, _, rfl, rfl, _, rfl, _, _, rfl, rfl, (by show (0 : Int) < 30; decide), _, _, rfl, rfl, _, hacc, by rw [List.length_map]; exact sz_lt (by omega), smM sh hW, R ++ [2 + (start + step * (i : Nat)) % 30], by rw [upd_same, List.map_append]; rfl, by simp [hlen], fun x hx => ?_⟩
      rcases List.mem_append.mp hx with hx | hx
      · exact hR x hx
      · rw [List.mem_singleton] at hx
        have h1 := Int.emod_nonneg (start + step * (i : Nat)) (show (30 : Int) ≠ 0 by decide)
        have h2 := Int.emod_lt_of_pos (start + step * (i : Nat)) (show (0 : Int) < 30 by decide)
        omega
    obtain ⟨s3, R, hR3, hRl, hR⟩ := z
    have okP := ok_path hR (by omega)
    have oS := ok_star hR (by omega)
    refine ⟨_, rfl, W, _, rfl, .inl ⟨SqL.of hR3, fun q hq => ?_⟩⟩
    have s4 := smN s3 (o := .tup (R.map V.int)) hq
    refine ⟨q, R, rfl, .inr upd_same, by omega, mk_good okP fun X H5 s5 _ hX => ?_⟩
    have s25 := s4.trans s5
    have hW5 := s5 _ _ (atN hR3 hq)
    refine ⟨_, rfl, _, rfl, RgOk.of_le (by decide) (by decide) (by decide) (by decide), fun l hl0 => ?_⟩
    rw [show rgV 0 59 = (pathP R.length).map V.int by rw [hRl]; exact rg_path 59]
    have s6 := smN s25 (o := .lst ((pathP R.length).map V.int)) hl0
    refine ⟨_, rfl, _, rfl, X, l, W, pathP R.length, R, n, rfl, hX.same (sm0 hl0), upd_same, atN hW5 hl0, okP, n1, n2, fun H7 s7 => ⟨_, rfl, ifF rfl ?_⟩⟩
    have sX7 := (sm0 (o := .lst ((pathP R.length).map V.int)) hl0).trans s7
    have s27 := s25.trans sX7
    have hX7 := hX.same sX7
    have hW7 := sX7 _ _ hW5
    -- one node too many
    refine ⟨_, rfl, _, _, rfl, rfl, by show 3 ≤ sizeLine; decide, fun L hL => ?_⟩
    have sL := sm0 (o := .lst (([2 + start, 1, 32] : List Int).map V.int)) hL
    have eL : upd H7 L (.lst (([2 + start, 1, 32] : List Int).map V.int)) L = some (.lst (([2 + start, 1, 32] : List Int).map V.int)) := upd_same
    refine ⟨L, rfl, ⟨_, SqL.of eL⟩, for_list (K := K) (a := L) (xs := ([2 + start, 1, 32] : List Int).map V.int)
      (fun i σ J => ∃ v8 v10 : Option V, σ = [some (.ref p), some (.ref r), some (.ref a), some (.ref b), some (.int n), some (.int step), some (.int start), some (.ref W), v8, some (.ref X), v10, none, none, none] ∧ Same H7 J ∧ J L = some (.lst (([2 + start, 1, 32] : List Int).map V.int)))
      ⟨none, none, rfl, sL, eL⟩ (fun i σ J _ h => by obtain ⟨_, _, _, _, e⟩ := h; exact SqL.of e) (fun i x' σ J hx h => ?_) fun σ J h => ?_⟩
    · obtain ⟨v8, v10, rfl, sJ, eJ⟩ := h
      obtain ⟨cost, hcost, rfl⟩ := ints_at hx
      have hXJ := hX7.same sJ
      refine ⟨_, rfl, _, rfl, _, rfl, X, X, pathP R.length, R, 0, cost, hXJ, okP, .inr (.inl ⟨rfl, fun o q J2 hdue s2 hv => ?_⟩)⟩
      obtain rfl := due_uniq (due_many (by rw [len_stem, len_path]; omega) (by rw [len_stem, len_path, hRl] <;> rfl)) hdue
      refine ⟨by show 3 ≤ sizeLine; decide, fun g1 hg1 => ⟨by show 1 ≤ sizeLine; decide, fun g2 hg2 => ?_⟩⟩
      have sg := smN (sm0 (o := .tup [.str "BadCount", .str "nodes", .int 61]) hg1) (o := .tup [.ref g1]) hg2
      refine same_of (due_da hdue (dueV.same sg hv) ⟨g1, upd_same, atN upd_same hg2⟩) ⟨_, rfl, ifF rfl ?_⟩
      have sK := s2.trans sg
      generalize upd (upd J2 g1 (.tup [.str "BadCount", .str "nodes", .int 61])) g2 (.tup [.ref g1]) = J3 at sK ⊢
      refine ⟨_, rfl, _, rfl, _, rfl, _, rfl, X, X, pathP R.length, R, start, cost, hXJ.same sK, okP, .inr (.inr (.inl ⟨rfl, e0, by rw [len_path]; omega, fun o q J4 hdue s4' hv => ?_⟩))⟩
      obtain rfl := due_uniq (due_many (by rw [List.length_append, len_path]; simp; omega) (by rw [List.length_append, len_path, hRl] <;> rfl)) hdue
      refine ⟨by show 3 ≤ sizeLine; decide, fun g3 hg3 => ⟨by show 1 ≤ sizeLine; decide, fun g4 hg4 => ?_⟩⟩
      have sg2 := smN (sm0 (o := .tup [.str "BadCount", .str "nodes", .int 61]) hg3) (o := .tup [.ref g3]) hg4
      exact same_of (due_da hdue (dueV.same sg2 hv) ⟨g3, upd_same, atN upd_same hg4⟩) ⟨_, rfl, ifF rfl ⟨_, _, rfl, sJ.trans (sK.trans (s4'.trans sg2)), (sK.trans (s4'.trans sg2)) _ _ eJ⟩⟩
    obtain ⟨v8, v10, rfl, sJ, _⟩ := h
    have s2J := s27.trans sJ
    have hWJ := sJ _ _ hW7
    have hXJ := hX7.same sJ
    refine ⟨_, rfl, b, _, rfl, .inl (SqL.of (s2J _ _ hb2)), _, _, rfl, rfl, ?_⟩
    rw [lq]
    refine ⟨_, rfl, _, rfl, _, _, rfl, rfl, by show 2 ≤ sizeLine; decide, fun M hM => ?_⟩
    have sM := sm0 (o := .lst (([59 - (ps.length : Int), 59 - (ps.length : Int) + 1] : List Int).map V.int)) hM
    have eM : upd J M (.lst (([59 - (ps.length : Int), 59 - (ps.length : Int) + 1] : List Int).map V.int)) M = some (.lst (([59 - (ps.length : Int), 59 - (ps.length : Int) + 1] : List Int).map V.int)) := upd_same
    refine ⟨M, rfl, ⟨_, SqL.of eM⟩, for_list (K := K) (a := M) (xs := ([59 - (ps.length : Int), 59 - (ps.length : Int) + 1] : List Int).map V.int)
      (fun i σ J' => ∃ v12 v13 : Option V, σ = [some (.ref p), some (.ref r), some (.ref a), some (.ref b), some (.int n), some (.int step), some (.int start), some (.ref W), v8, some (.ref X), v10, some (.int (59 - (ps.length : Int))), v12, v13] ∧ Same J J' ∧ J' M = some (.lst (([59 - (ps.length : Int), 59 - (ps.length : Int) + 1] : List Int).map V.int)))
      ⟨none, none, rfl, sM, eM⟩ (fun i σ J _ h => by obtain ⟨_, _, _, _, e⟩ := h; exact SqL.of e) (fun i x' σ J' hx h => ?_) fun σ J' h => ?_⟩
    · obtain ⟨v12, v13, rfl, sJ', eM'⟩ := h
      obtain ⟨ed, hed, rfl⟩ := ints_at hx
      have hed2 : ed = 59 - (ps.length : Int) ∨ ed = 59 - (ps.length : Int) + 1 := by
        have := List.mem_of_getElem? hed
        simp only [List.mem_cons, List.not_mem_nil, or_false] at this
        exact this
      obtain ⟨e, rfl⟩ : ∃ e : Nat, ed = (e : Int) := ⟨ed.toNat, by omega⟩
      have he : e ≤ R.length := by omega
      obtain ⟨R', hR'⟩ : ∃ R', R' = R.take e := ⟨_, rfl⟩
      have lR' : R'.length = e := by rw [hR', List.length_take]; omega
      have oR' : ∀ x ∈ R', 2 ≤ x ∧ x ≤ 31 := fun x hx => hR x (by rw [hR'] at hx; exact List.mem_of_mem_take hx)
      have okP' := ok_path oR' (by omega)
      have okS' := ok_star oR' (by omega)
      have cutR : cutV (R.map V.int) none (some (e : Int)) = R'.map V.int := by rw [cut_take he, hR']
      have s2J' := s2J.trans sJ'
      have hT' := hT2.same s2J'
      have hW' := sJ' _ _ hWJ
      have ha' := s2J' _ _ ha2
      have hb' := s2J' _ _ hb2
      refine ⟨_, rfl, _, rfl, RgOk.of_le (by omega) (by omega) (by omega) (by omega), fun l1 hl1' => ?_⟩
      rw [rg_path, ← lR']
      have t1 := sm0 (o := .lst ((pathP R'.length).map V.int)) hl1'
      have f1 : upd J' l1 (.lst ((pathP R'.length).map V.int)) l1 = some (.lst ((pathP R'.length).map V.int)) := upd_same
      generalize upd J' l1 (.lst ((pathP R'.length).map V.int)) = J1 at t1 f1 ⊢
      refine ⟨_, rfl, _, rfl, _, rfl, W, _, rfl, SqL.of (t1 _ _ hW'), ?_⟩
      rw [lR', cutR]
      intro q1 hq1
      have t2 := smN t1 (o := .lst (R'.map V.int)) hq1
      have f2 := atN (o := .lst (R'.map V.int)) f1 hq1
      have g2 : upd J1 q1 (.lst (R'.map V.int)) q1 = some (.lst (R'.map V.int)) := upd_same
      generalize upd J1 q1 (.lst (R'.map V.int)) = J2 at t2 f2 g2 ⊢
      refine ⟨_, rfl, _, rfl, by show 4 ≤ sizeLine; decide, fun rw1 hrw1 => ?_⟩
      have t3 := smN t2 (o := .lst [.ref l1, .ref q1, .ref a, .ref b]) hrw1
      have f3 := atN (o := .lst [.ref l1, .ref q1, .ref a, .ref b]) f2 hrw1
      have g3 := atN (o := .lst [.ref l1, .ref q1, .ref a, .ref b]) g2 hrw1
      have h3 : upd J2 rw1 (.lst [.ref l1, .ref q1, .ref a, .ref b]) rw1 = some (.lst [.ref l1, .ref q1, .ref a, .ref b]) := upd_same
      generalize upd J2 rw1 (.lst [.ref l1, .ref q1, .ref a, .ref b]) = J3 at t3 f3 g3 h3 ⊢
      refine ⟨_, rfl, _, rfl, _, rfl, W, _, rfl, SqL.of (t3 _ _ hW'), ?_⟩
      rw [cutR]
      intro q2 hq2
      have t4 := smN t3 (o := .lst (R'.map V.int)) hq2
      refine ⟨q2, R', rfl, .inl (SqL.of upd_same), by omega, mk_good okP' fun X2 J5 s5' _ hX2 => ?_⟩
      have t35 := (sm0 (o := .lst (R'.map V.int)) hq2).trans s5'
      have t5 := t3.trans t35
      refine ⟨_, rfl, _, rfl, _, rfl, X2, r, rw1, l1, q1, a, b, pathP R'.length, R', ps, qs, n, rfl, hX2, hT'.same t5, okP', ok, t35 _ _ h3, t35 _ _ f3, t35 _ _ g3, t5 _ _ ha', t5 _ _ hb', n1, n2, fun J6 s6' => ⟨_, rfl, ifF rfl ?_⟩⟩
      have t6 := t5.trans s6'
      -- the star on the right
      refine ⟨_, rfl, _, rfl, by show 1 ≤ sizeLine; decide, fun z1 hz1 => ?_⟩
      have t7 := smN t6 (o := .lst [.int 0]) hz1
      refine ⟨_, rfl, z1, _, _, rfl, rfl, upd_same, by omega, by omega, sz_small (by simp; omega), fun z2 hz2 => ?_⟩
      rw [rep_one, Int.toNat_natCast, show List.replicate e (V.int 0) = (starP R'.length).map V.int by unfold starP; rw [List.map_replicate, lR']]
      have t8 := smN t7 (o := .lst ((starP R'.length).map V.int)) hz2
      have f8 : upd (upd J6 z1 (.lst [.int 0])) z2 (.lst ((starP R'.length).map V.int)) z2 = some (.lst ((starP R'.length).map V.int)) := upd_same
      generalize upd (upd J6 z1 (.lst [.int 0])) z2 (.lst ((starP R'.length).map V.int)) = J8 at t8 f8 ⊢
      refine ⟨_, rfl, _, rfl, _, rfl, W, _, rfl, SqL.of (t8 _ _ hW'), ?_⟩
      rw [cutR]
      intro q3 hq3
      have t9 := smN t8 (o := .lst (R'.map V.int)) hq3
      have f9 := atN (o := .lst (R'.map V.int)) f8 hq3
      have g9 : upd J8 q3 (.lst (R'.map V.int)) q3 = some (.lst (R'.map V.int)) := upd_same
      generalize upd J8 q3 (.lst (R'.map V.int)) = J9 at t9 f9 g9 ⊢
      refine ⟨by show 4 ≤ sizeLine; decide, fun rw2 hrw2 => ?_⟩
      have t10 := smN t9 (o := .lst [.ref a, .ref b, .ref z2, .ref q3]) hrw2
      have f10 := atN (o := .lst [.ref a, .ref b, .ref z2, .ref q3]) f9 hrw2
      have g10 := atN (o := .lst [.ref a, .ref b, .ref z2, .ref q3]) g9 hrw2
      have h10 : upd J9 rw2 (.lst [.ref a, .ref b, .ref z2, .ref q3]) rw2 = some (.lst [.ref a, .ref b, .ref z2, .ref q3]) := upd_same
      generalize upd J9 rw2 (.lst [.ref a, .ref b, .ref z2, .ref q3]) = J10 at t10 f10 g10 h10 ⊢
      refine ⟨_, rfl, _, rfl, _, rfl, _, rfl, W, _, rfl, SqL.of (t10 _ _ hW'), ?_⟩
      rw [cutR]
      intro q4 hq4
      refine ⟨q4, R', rfl, .inl (SqL.of upd_same), by omega, mk_good okS' fun X3 J12 s12' _ hX3 => ?_⟩
      have t12' := (sm0 (o := .lst (R'.map V.int)) hq4).trans s12'
      have t12 := t10.trans t12'
      refine ⟨_, rfl, _, rfl, r, X3, rw2, a, b, z2, q3, ps, qs, starP R'.length, R', n, rfl, hT'.same t12, hX3, ok, okS', t12' _ _ h10, t12 _ _ ha', t12 _ _ hb', t12' _ _ f10, t12' _ _ g10, n1, n2, fun J13 s13' => ⟨_, rfl, ifF rfl ?_⟩⟩
      have t13 := t12.trans s13'
      exact ⟨_, _, rfl, sJ'.trans t13, t13 _ _ eM'⟩
    obtain ⟨v12, v13, rfl, sJ', _⟩ := h
    refine ⟨_, rfl, _, rfl, RgOk.of_le (by decide) (by decide) (by decide) (by decide), fun l9 hl9 => ?_⟩
    rw [show rgV 0 59 = (pathP R.length).map V.int by rw [hRl]; exact rg_path 59]
    have u := sm0 (o := .lst ((pathP R.length).map V.int)) hl9
    refine ⟨_, rfl, X, l9, W, pathP R.length, R, rfl, (hXJ.same sJ').same u, upd_same, u _ _ (sJ' _ _ hWJ), okP, fun J9 s9 => ?_⟩
    have fin := (s2J.trans sJ').trans (u.trans s9)
    exact k J9 (bH2.trans (But.of fin)) ((p2.same fin).up (by omega))
end
end K13
set_option maxRecDepth 100000
set_option maxHeartbeats 4000000
namespace K13
open PySem PySem.Spec PyProof.Rows L2 SI
structure BadAt (R : List Int) (j : Nat) : Prop where
  len : R.length ≤ 59
  lt : j < R.length
  lo : ∀ (i : Nat) x, i < j → R[i]? = some x → 2 ≤ x ∧ x ≤ 31
  at_ : ∃ w, R[j]? = some w ∧ (w < 2 ∨ 31 < w)
theorem due_pri {A R : List Int} {j : Nat} (hA : parOk A) (hl : R.length = A.length) (h : BadAt R j) : DueIs A R (some [.str "BadPrice", .int (j : Nat)]) := by
  obtain ⟨w, hw, hb⟩ := h.at_
  have hlt := h.lt
  obtain ⟨p, hp⟩ : ∃ p, A[j]? = some p := ⟨_, List.getElem?_eq_getElem (by omega)⟩
  exact .pri (by have := h.len; omega) hl j ⟨fun i p q hi hp hq => ⟨(hA i p hp).1, (hA i p hp).2, h.lo i q hi hq⟩, ⟨p, hp, hA j p hp⟩, w, hw, hb⟩
def starA (st : Bool) (n : Nat) : List Int := if st = true then starP n else pathP n
theorem par_A (st : Bool) (n : Nat) : parOk (starA st n) := by cases st; exact par_path n; exact par_star n
theorem len_A (st : Bool) (n : Nat) : (starA st n).length = n := by cases st; exact len_path n; exact len_star n
def spRowsL : Sp := fun vs H Q _ => ∃ (p b : Addr) (qs : List Int) (n : Int) (c : Nat), vs = [.ref p, .ref b, .int n] ∧ PoolB H p c ∧ c ≤ 10 ^ 5 ∧ H b = some (.lst (qs.map V.int)) ∧ b ≠ p ∧ (∀ x ∈ qs, 2 ≤ x ∧ x ≤ 31) ∧ qs.length ≤ 50 ∧ 1 ≤ n ∧ n ≤ 1000000 ∧
  ∀ H', But p H H' → PoolB H' p (c + 20) → Q (.bl true) H'
section
variable {P : Program} {w : World} {K : PySem.W.Frag} {mg : Str → Option Value} {base : Heap} {Ad1 Ad2 Ad4 Ad6 Ad9 Ad10 Ad11 : Addr}
theorem scLRows : FnScope ["pool", "prices", "many", "row", "size", "product", "price", "told", "high", "at", "long", "star"] ["pool", "prices", "many"] (defScope sLRows) := ⟨rfl, rfl, rfl, by decide +kernel, rfl, by decide +kernel, by decide +kernel⟩
theorem ok_LRows (T : Txt P w K mg base Ad1 Ad2 Ad4 Ad6 Ad9 Ad10 Ad11) : Cl P w K mg base 10 "_law_rows" spRowsL [] := by
  have c_LDraw := ok_LDraw T
  have d_PathTree := ok_PathTree T
  have c_PathTree := d_PathTree.cl
  have d_StarTree := ok_StarTree T
  have c_Line := ok_Line T
  have c_LNumbersRight := ok_LNumbersRight T
  have c_LSame := ok_LSame T 2
  have c_LWrongPrice := ok_LWrongPrice T
  have c_LTryRow := ok_LTryRow T
  refine cl_of T.d__law_rows scLRows (fun vs H Q E h => ?_) fun f cdv A outer s H vs Q E hr h => ?_
  · obtain ⟨p, b, qs, n, c, rfl, _⟩ := h
    rfl
  · obtain ⟨p, b, qs, n, c, rfl, hp, hc, hb, nbp, hqs, hl, n1, n2, k⟩ := h
    refine ⟨_, (pss_cons (ps_set (i := 3) scLRows.nd rfl (by first | exact Or.inl rfl | exact Or.inr rfl) (pe_callTy call_list_of (by rfl) T.b_list (by decide +kernel) (pa_cons (pv 1) pa_nil)))
  (pss_cons (ps_set (i := 4) scLRows.nd rfl (by first | exact Or.inl rfl | exact Or.inr rfl) (pe_callB call_len_seq (by rfl) T.b_len (by decide +kernel) (pa_cons (pv 3) pa_nil)))
  (pss_cons (ps_set (i := 5) scLRows.nd rfl (by first | exact Or.inl rfl | exact Or.inr rfl) pe_int)
  (pss_cons (ps_for (passes_of rfl) rfl (pi_list (pv 3)) (pg_name (i := 6) scLRows.nd rfl (by first | exact Or.inl rfl | exact Or.inr rfl))
    (pss_one (ps_set (i := 5) scLRows.nd rfl (by first | exact Or.inl rfl | exact Or.inr rfl) (pe_op op_mulW (pv 5) (pv 6)))))
  (pss_cons (ps_set (i := 7) scLRows.nd rfl (by first | exact Or.inl rfl | exact Or.inr rfl) (pe_c c_PathTree hr (by decide) rfl (pa_cons (pv 3) pa_nil)))
  (pss_cons (ps_if (pt_cmpR (op_neD hr.units) (pv 3) (pv 1) (nomark _))
    (pss_one (ps_ret pe_bl))
    pss_nil)
  (pss_cons (ps_if (PW.pt (pw_or (pt_not (pt_val (pe_c c_LSame hr (by decide) rfl (pa_cons (pe_c c_Line hr (by decide) rfl (pa_cons (pv 7) pa_nil)) (pa_cons (pe_tup (pa_cons (pv 5) (pa_cons pe_int pa_nil))) pa_nil))))) (pw_or1 (pt_not (pt_val (pe_c c_LNumbersRight hr (by decide) rfl (pa_cons (pv 7) (pa_cons (pe_listRg rfl (by rfl) T.b_list (prg_1 (by rfl) T.b_range (pv 4))) (pa_cons (pv 1) (pa_cons (pv 2) pa_nil))))))))))
    (pss_one (ps_ret pe_bl))
    pss_nil)
  (pss_cons (ps_set (i := 7) scLRows.nd rfl (by first | exact Or.inl rfl | exact Or.inr rfl) (pe_cK0 (ks := ["prices"]) (g := fun l => l) d_StarTree hr (by decide) rfl (pk_cons (pv 3) pk_nil) (fun _ _ _ _ _ _ ws hl => match ws, hl with | [_], _ => rfl) (fun r => r)))
  (pss_cons (ps_set (i := 8) scLRows.nd rfl (by first | exact Or.inl rfl | exact Or.inr rfl) (pe_callB (cr_max rfl) (by rfl) T.b_max (by decide +kernel) (pa_cons (pe_op op_cat (pe_lst (pa_cons pe_int pa_nil)) (pv 1)) pa_nil)))
  (pss_cons (ps_if (pt_not (pt_val (pe_c c_LSame hr (by decide) rfl (pa_cons (pe_c c_Line hr (by decide) rfl (pa_cons (pv 7) pa_nil)) (pa_cons (pe_tup (pa_cons (pv 8) (pa_cons (pe_op op_sub (pe_op op_add (pe_op op_sub pe_int (pv 8)) (pe_callB (cr_sum rfl) (by rfl) T.b_sum (by decide +kernel) (pa_cons (pv 1) pa_nil))) (pv 4)) pa_nil))) pa_nil)))))
    (pss_one (ps_ret pe_bl))
    pss_nil)
  (pss_cons (ps_expr (pe_bm PySem.F.plainAttrs_list PySem.F.slot_list_append PySem.F.type_list_append mt_append (pv 3) (pa_cons pe_int pa_nil)))
  (pss_cons (ps_if (pt_not (pt_val (pe_c c_LNumbersRight hr (by decide) rfl (pa_cons (pv 7) (pa_cons (pe_op op_rep (pe_lst (pa_cons pe_int pa_nil)) (pv 4)) (pa_cons (pv 1) (pa_cons (pv 2) pa_nil)))))))
    (pss_one (ps_ret pe_bl))
    pss_nil)
  (pss_cons (ps_if (pt_not (pt_val (pe_c c_LNumbersRight hr (by decide) rfl (pa_cons (pe_cK0 (ks := ["prices"]) (g := fun l => l) d_PathTree hr (by decide) rfl (pk_cons (pv 3) pk_nil) (fun _ _ _ _ _ _ ws hl => match ws, hl with | [_], _ => rfl) (fun r => r)) (pa_cons (pe_listRg rfl (by rfl) T.b_list (prg_1 (by rfl) T.b_range (pe_op op_add (pv 4) pe_int))) (pa_cons (pe_op op_cat (pv 1) (pe_lst (pa_cons pe_int pa_nil))) (pa_cons (pv 2) pa_nil)))))))
    (pss_one (ps_ret pe_bl))
    pss_nil)
  (pss_cons (ps_set (i := 9) scLRows.nd rfl (by first | exact Or.inl rfl | exact Or.inr rfl) (pe_c c_LDraw hr (by decide) rfl (pa_cons (pv 0) (pa_cons (pe_op op_add (pv 4) pe_int) pa_nil))))
  (pss_cons (ps_asg (pe_c c_LWrongPrice hr (by decide) rfl (pa_cons (pv 0) pa_nil)) (pg_sub (pv 3) (pv 9) set_list))
  (C8.pss_cut (ps_if (pt_cmpR op_eq (pe_c c_LDraw hr (by decide) rfl (pa_cons (pv 0) (pa_cons pe_int pa_nil))) pe_int (nomark _))
    (pss_one (ps_expr (pe_bm PySem.F.plainAttrs_list PySem.F.slot_list_append PySem.F.type_list_append mt_append (pv 3) (pa_cons (pe_c c_LWrongPrice hr (by decide) rfl (pa_cons (pv 0) pa_nil)) pa_nil))))
    pss_nil)
  (pss_cons (ps_set (i := 10) scLRows.nd rfl (by first | exact Or.inl rfl | exact Or.inr rfl) (pe_op op_cat (pv 3) (pe_op op_rep (pe_lst (pa_cons (pe_op op_add pe_int (pe_c c_LDraw hr (by decide) rfl (pa_cons (pv 0) (pa_cons pe_int pa_nil)))) pa_nil)) pe_int)))
  (pss_cons (ps_for (passes_of rfl) rfl (pi_list (pe_lst (pa_cons pe_bl (pa_cons pe_bl pa_nil)))) (pg_name (i := 11) scLRows.nd rfl (by first | exact Or.inl rfl | exact Or.inr rfl))
    (pss_cons (ps_if (pt_not (pt_val (pe_c c_LSame hr (by decide) rfl (pa_cons (pe_c c_LTryRow hr (by decide) rfl (pa_cons (pv 11) (pa_cons (pe_callTy call_tuple_of (by rfl) T.b_tuple (by decide +kernel) (pa_cons (pv 3) pa_nil)) pa_nil))) (pa_cons (pe_tup (pa_cons (pe_tup (pa_cons pe_str (pa_cons (pv 9) pa_nil))) pa_nil)) pa_nil)))))
      (pss_one (ps_ret pe_bl))
      pss_nil)
    (pss_cons (ps_if (pt_not (pt_val (pe_c c_LSame hr (by decide) rfl (pa_cons (pe_c c_LTryRow hr (by decide) rfl (pa_cons (pv 11) (pa_cons (pe_callTy call_list_of (by rfl) T.b_list (by decide +kernel) (pa_cons (pv 10) pa_nil)) pa_nil))) (pa_cons (pe_tup (pa_cons (pe_tup (pa_cons pe_str (pa_cons pe_str (pa_cons (pe_op op_add (pe_callB call_len_seq (by rfl) T.b_len (by decide +kernel) (pa_cons (pv 10) pa_nil)) pe_int) pa_nil)))) pa_nil)) pa_nil)))))
      (pss_one (ps_ret pe_bl))
      pss_nil)
    (pss_one (ps_if (pt_not (pt_val (pe_c c_LSame hr (by decide) rfl (pa_cons (pe_c c_LTryRow hr (by decide) rfl (pa_cons (pv 11) (pa_cons (pe_op op_rep (pe_lst (pa_cons pe_int pa_nil)) pe_int) pa_nil))) (pa_cons (pe_tup (pa_cons (pe_tup (pa_cons pe_str (pa_cons pe_str (pa_cons pe_int pa_nil)))) pa_nil)) pa_nil)))))
      (pss_one (ps_ret pe_bl))
      pss_nil)))))
  (pss_one (ps_ret pe_bl)))))))))))))))))))), ?_⟩
    have hc6 : c ≤ 100000 := hc
    have G : ∀ {d : Nat}, d ≤ c + 1000 → d ≤ 10 ^ 100 := fun h => big6 (by show _ ≤ 10000000; omega)
    have N : ∀ {n : Int}, n ≤ 1000 → n ≤ 10 ^ 130 := fun h => Int.le_trans h (by decide +kernel)
    have lq : (((qs.map V.int).length : Nat) : Int) = (qs.length : Int) := by rw [List.length_map]
    have okP := ok_path hqs (by omega)
    have okS := ok_star hqs (by omega)
    have hqs2 : ∀ x ∈ qs ++ [2], 2 ≤ x ∧ x ≤ 31 := fun x hx => (List.mem_append.mp hx).elim (hqs x) fun e => by rw [List.mem_singleton] at e; omega
    have okP2 := ok_path hqs2 (by simp; omega)
    refine ⟨_, rfl, b, _, rfl, .inl (SqL.of hb), fun W hW => ?_⟩
    have s1 := sm0 (o := .lst (qs.map V.int)) hW
    have e1 : upd H W (.lst (qs.map V.int)) W = some (.lst (qs.map V.int)) := upd_same
    have nW := hp.ne hW
    generalize upd H W (.lst (qs.map V.int)) = H1 at s1 e1 ⊢
    refine ⟨_, rfl, W, _, rfl, .inl (SqL.of e1), ?_⟩
    rw [lq]
    refine ⟨_, rfl, W, rfl, ⟨_, SqL.of e1⟩, for_list (K := K) (a := W) (xs := qs.map V.int) (fun i σ H' => ∃ v6 : Option V, σ = [some (.ref p), some (.ref b), some (.int n), some (.ref W), some (.int (qs.length : Int)), some (.int (mulL (qs.take i))), v6, none, none, none, none, none] ∧ H' = H1)
      ⟨none, rfl, rfl⟩ (fun i σ H' _ h => by obtain ⟨_, _, rfl⟩ := h; exact SqL.of e1) (fun i x σ H' hx h => ?_) fun σ H' h => ?_⟩
    · obtain ⟨v6, rfl, rfl⟩ := h
      obtain ⟨q, hq, rfl⟩ := ints_at hx
      have hqb := hqs q (List.mem_of_getElem? hq)
      have hmb := mulL_bnd (qs.take i) fun x hx => hqs x (List.mem_of_mem_take hx)
      have hmb2 : mulL (qs.take i) ≤ 10 ^ 200 := by
        have e1 : (31 : Int) ^ (qs.take i).length ≤ 31 ^ 60 := pow31_le (by rw [List.length_take]; omega)
        have e2 : (31 : Int) ^ 60 ≤ 10 ^ 200 := by decide +kernel
        omega
      refine ⟨_, rfl, _, rfl, _, _, rfl, rfl, cmul_small (abs_small (by omega) hmb2) (abs_small (by omega) (by omega)), ?_⟩
      refine ⟨some (.int q), ?_, rfl⟩
      rw [List.take_succ, hq, Option.toList_some, mulL_snoc]
      rfl
    obtain ⟨v6, rfl, rfl⟩ := h
    rw [List.length_map, List.take_length]
    refine ⟨_, rfl, W, qs, rfl, .inl (SqL.of e1), by omega, mk_good okP fun X H2 s2 _ hX => ?_⟩
    have s12 := s1.trans s2
    have eW2 := s2 _ _ e1
    have eb2 := s12 _ _ hb
    refine ⟨_, rfl, _, rfl, _, _, dpL (SqL.of eW2), dpL (SqL.of eb2), shL _, shL _, ?_⟩
    rw [eqvL, decide_eq_true rfl]
    refine ⟨_, rfl, ifF rfl ?_⟩
    refine ⟨_, rfl, X, _, qs, rfl, hX, okP, fun x y q H3 s3 hL3 hq3 => ?_⟩
    obtain ⟨rfl, rfl⟩ := line_uniq okP (line_path qs hqs (by omega)) hL3
    refine ⟨_, rfl, by show 2 ≤ sizeLine; decide, fun g hg => ?_⟩
    have sg := sm0 (o := .tup [.int (mulL qs), .int 0]) hg
    refine same_of (da_two (sg _ _ hq3) upd_same (.int _ _) (.int _ _)) ⟨_, rfl, ifF rfl ?_⟩
    have s24 := s3.trans sg
    generalize upd H3 g (.tup [.int (mulL qs), .int 0]) = H4 at s24 ⊢
    refine ⟨_, rfl, _, rfl, _, rfl, RgOk.of_le (by omega) (by omega) (by omega) (by omega), fun l hl0 => ?_⟩
    rw [rg_path]
    have s25 := smN s24 (o := .lst ((pathP qs.length).map V.int)) hl0
    refine ⟨_, rfl, _, rfl, X, l, b, _, qs, n, rfl, hX.same s25, upd_same, s25 _ _ eb2, okP, n1, n2, fun H6 s6 => ⟨_, rfl, ifF rfl ?_⟩⟩
    have s26 := s25.trans s6
    have eW6 := s26 _ _ eW2
    -- the star
    refine ⟨_, rfl, rfl, W, qs, rfl, .inl (SqL.of eW6), by omega, mk_good okS fun X2 H7 s7 _ hX2 => ?_⟩
    have s27 := s26.trans s7
    have eb7 := s27 _ _ eb2
    refine ⟨by show 1 ≤ sizeLine; decide, fun l1 hl1 => ?_⟩
    have t1 := sm0 (o := .lst [.int 1]) hl1
    refine ⟨_, rfl, l1, b, _, _, rfl, rfl, upd_same, t1 _ _ eb7, sz_small (by simp; omega), fun m1 hm1 => ?_⟩
    have t2 := smN t1 (o := .lst ([.int 1] ++ qs.map V.int)) hm1
    refine ⟨m1, 1 :: qs, rfl, SqL.of upd_same, by simp, fun m hm hmax => ?_⟩
    generalize upd (upd H7 l1 (.lst [.int 1])) m1 (.lst ([.int 1] ++ qs.map V.int)) = H8 at t2 ⊢
    refine ⟨_, rfl, X2, _, qs, rfl, hX2.same t2, okS, fun x y q H9 s9 hL9 hq9 => ?_⟩
    obtain ⟨rfl, rfl⟩ := line_uniq okS (line_star hqs (by omega) hm hmax) hL9
    have t3 := t2.trans s9
    refine ⟨_, rfl, _, rfl, _, _, rfl, rfl, _, rfl, b, qs, rfl, SqL.of (t3 _ _ eb7), _, _, rfl, rfl, _, rfl, _, _, rfl, rfl, by show 2 ≤ sizeLine; decide, fun g2 hg2 => ?_⟩
    have sg2 := sm0 (o := .tup [.int m, .int (1 - m + qs.sum - (qs.length : Int))]) hg2
    refine same_of (da_two (sg2 _ _ hq9) upd_same (.int _ _) (.int _ _)) ⟨_, rfl, ifF rfl ?_⟩
    have t4 := t3.trans sg2
    have eW9 := (s7.trans t4) _ _ eW6
    have eb9 := t4 _ _ eb7
    have hX2' := hX2.same t4
    have b9 : But p H (upd H9 g2 (.tup [.int m, .int (1 - m + qs.sum - (qs.length : Int))])) := But.of (s12.trans (s27.trans t4))
    have r9 := hp.same (s12.trans (s27.trans t4))
    generalize upd H9 g2 (.tup [.int m, .int (1 - m + qs.sum - (qs.length : Int))]) = H10 at eW9 eb9 hX2' b9 r9 ⊢
    -- append
    refine ⟨_, rfl, .inl ⟨rfl, _, SqL.of eW9⟩, W, _, _, rfl, rfl, eW9, by rw [List.length_map]; exact sz_lt (by omega), ?_⟩
    have nbW : b ≠ W := ne_of_none hb hW
    have eW11 : upd H10 W (.lst (qs.map V.int ++ [.int 2])) W = some (.lst ((qs ++ [2]).map V.int)) := by rw [upd_same, List.map_append]; rfl
    have eb11 : upd H10 W (.lst (qs.map V.int ++ [.int 2])) b = some (.lst (qs.map V.int)) := by rw [upd_ne nbW]; exact eb9
    have hX11 : TreeAt Ad11 (upd H10 W (.lst (qs.map V.int ++ [.int 2]))) X2 (starP qs.length) qs := by
      obtain ⟨dx, c1, c2, h1, h2, h3⟩ := hX2'
      exact ⟨dx, c1, c2, by rw [upd_ne (ne_of h1 eW9 (by intro z; cases z))]; exact h1, by rw [upd_ne (ne_of h2 eW9 (by intro z; cases z))]; exact h2, by rw [upd_ne (ne_of h3 eW9 (by intro z; cases z))]; exact h3⟩
    have b11 : But p H (upd H10 W (.lst (qs.map V.int ++ [.int 2]))) := fun x o nx e => by rw [upd_ne (ne_of_none e hW)]; exact b9 x o nx e
    have r11 := r9.put (o := .lst (qs.map V.int ++ [.int 2])) nW
    generalize upd H10 W (.lst (qs.map V.int ++ [.int 2])) = H11 at eW11 eb11 hX11 b11 r11 ⊢
    refine ⟨_, rfl, by show 1 ≤ sizeLine; decide, fun l2 hl2 => ?_⟩
    have u1 := sm0 (o := .lst [.int 0]) hl2
    refine ⟨_, rfl, l2, _, _, rfl, rfl, upd_same, by omega, by omega, sz_small (by simp; omega), fun l3 hl3 => ?_⟩
    rw [rep_one, Int.toNat_natCast, show List.replicate qs.length (V.int 0) = (starP qs.length).map V.int by unfold starP; rw [List.map_replicate]]
    have u2 := smN u1 (o := .lst ((starP qs.length).map V.int)) hl3
    refine ⟨_, rfl, _, rfl, X2, l3, b, _, qs, n, rfl, hX11.same u2, upd_same, u2 _ _ eb11, okS, n1, n2, fun H12 s12' => ⟨_, rfl, ifF rfl ?_⟩⟩
    have u3 := u2.trans s12'
    -- one longer
    refine ⟨_, rfl, rfl, W, qs ++ [2], rfl, .inl (SqL.of (u3 _ _ eW11)), by simp; omega, mk_good okP2 fun X3 H13 s13 _ hX3 => ?_⟩
    have u4 := u3.trans s13
    refine ⟨_, rfl, _, _, rfl, rfl, _, rfl, RgOk.of_le (by omega) (by omega) (by omega) (by omega), fun l4 hl4 => ?_⟩
    rw [show rgV 0 ((qs.length : Int) + 1) = (pathP (qs ++ [2]).length).map V.int by rw [List.length_append]; exact rg_path (qs.length + 1)]
    have u5 := smN u4 (o := .lst ((pathP (qs ++ [2]).length).map V.int)) hl4
    have f5 : upd H13 l4 (.lst ((pathP (qs ++ [2]).length).map V.int)) l4 = some (.lst ((pathP (qs ++ [2]).length).map V.int)) := upd_same
    have hX5 := hX3.same (sm0 (o := .lst ((pathP (qs ++ [2]).length).map V.int)) hl4)
    generalize upd H13 l4 (.lst ((pathP (qs ++ [2]).length).map V.int)) = H14 at u5 f5 hX5 ⊢
    refine ⟨_, rfl, by show 1 ≤ sizeLine; decide, fun l5 hl5 => ?_⟩
    have u6 := smN u5 (o := .lst [.int 2]) hl5
    refine ⟨b, l5, _, _, rfl, rfl, u6 _ _ eb11, upd_same, sz_small (by simp; omega), fun l6 hl6 => ?_⟩
    have u7 := smN u6 (o := .lst (qs.map V.int ++ [.int 2])) hl6
    have x7 := smN (sm0 (o := .lst [.int 2]) hl5) (o := .lst (qs.map V.int ++ [.int 2])) hl6
    refine ⟨_, rfl, X3, l4, l6, _, _, n, rfl, hX5.same x7, x7 _ _ f5, by rw [upd_same, List.map_append]; rfl, okP2, n1, n2, fun H15 s15 => ⟨_, rfl, ifF rfl ?_⟩⟩
    have u8 := u7.trans s15
    have eW15 := u8 _ _ eW11
    have b15 := b11.trans (But.of u8)
    have r15 := r11.same u8
    refine ⟨_, rfl, _, rfl, _, _, rfl, rfl, draw_of r15 (G (by omega)) (by omega) (N (by omega)) fun d J0 c0 q0 d0 d1 => ?_⟩
    obtain ⟨j, rfl⟩ : ∃ j : Nat, d = (j : Int) := ⟨d.toNat, by omega⟩
    refine ⟨_, rfl, p, _, rfl, q0, (by show c + 1 ≤ 1000000; omega), fun wz J1 c1 q1 hw => ?_⟩
    have eJ1 := c1 _ _ nW (c0 _ _ nW eW15)
    have bJ1 := (b15.trans c0).trans c1
    refine ⟨_, rfl, _, rfl, W, _, _, j, rfl, rfl, eJ1, ixN_of rfl (by simp; omega), ?_⟩
    have eJ2 : upd J1 W (.lst (((qs ++ [2]).map V.int).set j (.int wz))) W = some (.lst (((qs ++ [2]).set j wz).map V.int)) := by rw [upd_same, List.map_set]
    have bJ2 : But p H (upd J1 W (.lst (((qs ++ [2]).map V.int).set j (.int wz)))) := fun x o nx e => by rw [upd_ne (ne_of_none e hW)]; exact bJ1 x o nx e
    have qJ2 := q1.put (o := .lst (((qs ++ [2]).map V.int).set j (.int wz))) nW
    have BA : BadAt ((qs ++ [2]).set j wz) j := ⟨by simp; omega, by simp; omega, fun i x hi hx => by
      rw [List.getElem?_set_ne (by omega)] at hx
      exact hqs2 x (List.mem_of_getElem? hx), wz, by rw [List.getElem?_set_self (by simp; omega)], hw⟩
    have BAl : ((qs ++ [2]).set j wz).length ≤ 51 := by simp; omega
    generalize upd J1 W (.lst (((qs ++ [2]).map V.int).set j (.int wz))) = J2 at eJ2 bJ2 qJ2 ⊢
    refine ⟨fun σ' J => ∃ R : List Int, σ' = [some (.ref p), some (.ref b), some (.int n), some (.ref W), some (.int (qs.length : Int)), some (.int (mulL qs)), v6, some (.ref X2), some (.int m), some (.int (j : Nat)), none, none] ∧ But p H J ∧ PoolB J p (c + 8) ∧ J W = some (.lst (R.map V.int)) ∧ BadAt R j, ?_, ?_⟩
    · refine ⟨_, rfl, draw_of qJ2 (G (by omega)) (by decide) (N (by decide)) fun d3 J3 c3 q3 d30 d31 => ?_⟩
      have eJ3 := c3 _ _ nW eJ2
      refine ⟨rfl, _, rfl, ifI (fun _ => ?_) fun _ => ⟨_, rfl, bJ2.trans c3, q3.up (by omega), eJ3, BA⟩⟩
      refine ⟨_, rfl, .inl ⟨rfl, _, SqL.of eJ3⟩, _, rfl, p, _, rfl, q3, (by show c + 1 + 3 + 1 ≤ 1000000; omega), fun w2 J4 c4 q4 hw2 => ?_⟩
      have eJ4 := c4 _ _ nW eJ3
      have bJ4 := (bJ2.trans c3).trans c4
      refine ⟨W, _, _, rfl, rfl, eJ4, by rw [List.length_map]; exact sz_lt (by omega), ?_⟩
      refine ⟨(qs ++ [2]).set j wz ++ [w2], rfl, fun x o nx e => by rw [upd_ne (ne_of_none e hW)]; exact bJ4 x o nx e, (q4.put nW).up (by omega), by rw [upd_same, List.map_append]; rfl, ?_⟩
      have hlt := BA.lt
      obtain ⟨ww, hww, hwb⟩ := BA.at_
      exact ⟨by rw [List.length_append]; simp only [List.length_singleton]; omega, by rw [List.length_append]; omega, fun i x hi hx => BA.lo i x hi (by rw [List.getElem?_append_left (by omega)] at hx; exact hx), ww, by rw [List.getElem?_append_left hlt]; exact hww, hwb⟩
    rintro _ J5 ⟨R, rfl, bJ5, qJ5, eJ5, BR⟩
    have hRl := BR.len
    have hRlt := BR.lt
    refine ⟨_, rfl, _, rfl, draw_of qJ5 (G (by omega)) (by decide) (N (by decide)) fun e6 J6 c6 q6 e60 e61 => ?_⟩
    have eJ6 := c6 _ _ nW eJ5
    have bJ6 := bJ5.trans c6
    refine ⟨_, _, rfl, rfl, by show 1 ≤ sizeLine; decide, fun z1 hz1 => ?_⟩
    have v1 := sm0 (o := .lst [.int (2 + e6)]) hz1
    refine ⟨z1, _, _, rfl, rfl, upd_same, by decide, by decide, (by show 1 * 59 ≤ sizeLine; decide), fun z2 hz2 => ?_⟩
    rw [rep_one, show List.replicate (Int.toNat 59) (V.int (2 + e6)) = (List.replicate 59 (2 + e6)).map V.int by rw [List.map_replicate]; rfl]
    have v2 := smN v1 (o := .lst ((List.replicate 59 (2 + e6)).map V.int)) hz2
    refine ⟨W, z2, _, _, rfl, rfl, v2 _ _ eJ6, upd_same, sz_small (by simp; omega), fun Lg hLg => ?_⟩
    rw [← List.map_append]
    have v3 := smN v2 (o := .lst ((R ++ List.replicate 59 (2 + e6)).map V.int)) hLg
    have fL : upd (upd (upd J6 z1 (.lst [.int (2 + e6)])) z2 (.lst ((List.replicate 59 (2 + e6)).map V.int))) Lg (.lst ((R ++ List.replicate 59 (2 + e6)).map V.int)) Lg = some (.lst ((R ++ List.replicate 59 (2 + e6)).map V.int)) := upd_same
    have lLg : (R ++ List.replicate 59 (2 + e6)).length = R.length + 59 := by simp
    generalize R ++ List.replicate 59 (2 + e6) = LL at v3 fL lLg ⊢
    generalize upd (upd (upd J6 z1 (.lst [.int (2 + e6)])) z2 (.lst ((List.replicate 59 (2 + e6)).map V.int))) Lg (.lst (LL.map V.int)) = J7 at v3 fL ⊢
    have eJ7 := v3 _ _ eJ6
    refine ⟨by show 2 ≤ sizeLine; decide, fun M hM => ?_⟩
    have sM := sm0 (o := .lst [.bl true, .bl false]) hM
    have eM : upd J7 M (.lst [.bl true, .bl false]) M = some (.lst [.bl true, .bl false]) := upd_same
    refine ⟨M, rfl, ⟨_, SqL.of eM⟩, for_list (K := K) (a := M) (xs := [.bl true, .bl false]) (fun i σ J => ∃ v11 : Option V, σ = [some (.ref p), some (.ref b), some (.int n), some (.ref W), some (.int (qs.length : Int)), some (.int (mulL qs)), v6, some (.ref X2), some (.int m), some (.int (j : Nat)), some (.ref Lg), v11] ∧ Same J7 J ∧ J M = some (.lst [.bl true, .bl false]))
      ⟨none, rfl, sM, eM⟩ (fun i σ J _ h => by obtain ⟨_, _, _, e⟩ := h; exact SqL.of e) (fun i x σ J hx h => ?_) fun σ J h => ?_⟩
    · obtain ⟨v11, rfl, sJ, eMJ⟩ := h
      obtain ⟨st, rfl⟩ : ∃ st, x = .bl st := by
        match i, hx with
        | 0, hx => cases hx; exact ⟨_, rfl⟩
        | 1, hx => cases hx; exact ⟨_, rfl⟩
        | i + 2, hx => simp at hx
      have eWJ := sJ _ _ eJ7
      have eLJ := sJ _ _ fL
      refine ⟨_, rfl, _, rfl, W, _, rfl, .inl ⟨SqL.of eWJ, fun q hq => ?_⟩⟩
      have w1 := sm0 (o := .tup (R.map V.int)) hq
      refine ⟨q, st, R, rfl, .inr upd_same, by omega, fun o q2 J8 hdue s8 hv => ?_⟩
      obtain rfl := due_uniq (due_pri (par_A st R.length) (by rw [len_A]) BR) hdue
      refine ⟨_, rfl, by show 2 ≤ sizeLine; decide, fun g1 hg1 => ⟨by show 1 ≤ sizeLine; decide, fun g2 hg2 => ?_⟩⟩
      have sg := smN (sm0 (o := .tup [.str "BadPrice", .int (j : Nat)]) hg1) (o := .tup [.ref g1]) hg2
      refine same_of (due_da hdue (dueV.same sg hv) ⟨g1, upd_same, atN upd_same hg2⟩) ⟨_, rfl, ifF rfl ?_⟩
      have w2 := (w1.trans s8).trans sg
      generalize upd (upd J8 g1 (.tup [.str "BadPrice", .int (j : Nat)])) g2 (.tup [.ref g1]) = J9 at w2 ⊢
      refine ⟨_, rfl, _, rfl, Lg, _, rfl, .inl (SqL.of (w2 _ _ eLJ)), fun q3 hq3 => ?_⟩
      have w3 := smN w2 (o := .lst (LL.map V.int)) hq3
      refine ⟨q3, st, LL, rfl, .inl (SqL.of upd_same), by omega, fun o q4 J10 hdue s10 hv => ?_⟩
      obtain rfl := due_uniq (due_many (A := starA st LL.length) (n := (LL.length : Int) + 1) (by rw [len_A]; omega) (by rw [len_A])) hdue
      have w4 := w3.trans s10
      refine ⟨_, rfl, Lg, _, rfl, .inl (SqL.of (w4 _ _ eLJ)), _, _, rfl, rfl, ?_⟩
      rw [show (((LL.map V.int).length : Nat) : Int) = (LL.length : Int) by rw [List.length_map]]
      refine ⟨by show 3 ≤ sizeLine; decide, fun g3 hg3 => ⟨by show 1 ≤ sizeLine; decide, fun g4 hg4 => ?_⟩⟩
      have sg2 := smN (sm0 (o := .tup [.str "BadCount", .str "nodes", .int ((LL.length : Int) + 1)]) hg3) (o := .tup [.ref g3]) hg4
      refine same_of (due_da hdue (dueV.same sg2 hv) ⟨g3, upd_same, atN upd_same hg4⟩) ⟨_, rfl, ifF rfl ?_⟩
      have w5 := w4.trans sg2
      generalize upd (upd J10 g3 (.tup [.str "BadCount", .str "nodes", .int ((LL.length : Int) + 1)])) g4 (.tup [.ref g3]) = J11 at w5 ⊢
      refine ⟨_, rfl, by show 1 ≤ sizeLine; decide, fun z5 hz5 => ?_⟩
      have w6 := smN w5 (o := .lst [.int 3]) hz5
      refine ⟨z5, _, _, rfl, rfl, upd_same, by decide, by decide, by decide, fun z6 hz6 => ?_⟩
      rw [rep_one, show List.replicate (Int.toNat 60) (V.int 3) = (List.replicate 60 (3 : Int)).map V.int by rw [List.map_replicate]; rfl]
      have w7 := smN w6 (o := .lst ((List.replicate 60 (3 : Int)).map V.int)) hz6
      refine ⟨z6, st, List.replicate 60 3, rfl, .inl (SqL.of upd_same), by simp, fun o q5 J12 hdue s12'' hv => ?_⟩
      obtain rfl := due_uniq (due_many (A := starA st (List.replicate 60 (3 : Int)).length) (n := 61) (by rw [len_A]; simp) (by rw [len_A]; simp)) hdue
      refine ⟨by show 3 ≤ sizeLine; decide, fun g5 hg5 => ⟨by show 1 ≤ sizeLine; decide, fun g6 hg6 => ?_⟩⟩
      have sg3 := smN (sm0 (o := .tup [.str "BadCount", .str "nodes", .int 61]) hg5) (o := .tup [.ref g5]) hg6
      have w8 := (w7.trans s12'').trans sg3
      exact same_of (due_da hdue (dueV.same sg3 hv) ⟨g5, upd_same, atN upd_same hg6⟩) ⟨_, rfl, ifF rfl ⟨_, rfl, sJ.trans w8, w8 _ _ eMJ⟩⟩
    obtain ⟨v11, rfl, sJ, _⟩ := h
    exact k J ((bJ6.trans (But.of v3)).trans (But.of sJ)) (((q6.same v3).same sJ).up (by omega))
end
end K13
set_option maxRecDepth 100000
set_option maxHeartbeats 4000000
namespace K13
open PySem PySem.Spec PyProof.Rows L2 SI
def spLaw (K : PySem.W.Frag) : Sp := fun vs H Q _ => ∃ (a : Addr) (ns : List Int), vs = [.ref a] ∧ SqL K H a (ns.map V.int) ∧ ns.length ≤ 63 ∧ ∀ H', Q (.bl true) H'
theorem TreeAt.put {C l t : Addr} {H : Hp} {xs : List V} {o : HO} {ps qs : List Int} (h : TreeAt C H t ps qs) (hl : H l = some (.lst xs)) : TreeAt C (upd H l o) t ps qs := by
  obtain ⟨dx, a, b, h1, h2, h3⟩ := h
  exact ⟨dx, a, b, by rw [upd_ne (ne_of h1 hl (by intro z; cases z))]; exact h1, by rw [upd_ne (ne_of h2 hl (by intro z; cases z))]; exact h2, by rw [upd_ne (ne_of h3 hl (by intro z; cases z))]; exact h3⟩
/-- the rows and the trees of the law -/
structure Wd (C a b a' b' t t' : Addr) (ps qs ps' qs' : List Int) (H : Hp) : Prop where
  t1 : TreeAt C H t ps qs
  t2 : TreeAt C H t' ps' qs'
  ra : H a = some (.lst (ps.map V.int))
  rb : H b = some (.lst (qs.map V.int))
  ra' : H a' = some (.lst (ps'.map V.int))
  rb' : H b' = some (.lst (qs'.map V.int))
theorem Wd.but {C p a b a' b' t t' : Addr} {ps qs ps' qs' : List Int} {H H' : Hp} {c : Nat} (h : Wd C a b a' b' t t' ps qs ps' qs' H) (na : a ≠ p) (nb : b ≠ p) (na' : a' ≠ p) (nb' : b' ≠ p) (hp : PoolB H p c) (s : But p H H') : Wd C a b a' b' t t' ps qs ps' qs' H' :=
  ⟨h.t1.but hp s, h.t2.but hp s, s _ _ na h.ra, s _ _ nb h.rb, s _ _ na' h.ra', s _ _ nb' h.rb'⟩
section
variable {P : Program} {w : World} {K : PySem.W.Frag} {mg : Str → Option Value} {base : Heap} {Ad1 Ad2 Ad4 Ad6 Ad9 Ad10 Ad11 : Addr}
theorem scLaw : FnScope ["script", "pool", "edges", "parents", "prices", "lower", "costs", "many", "handed", "tree", "other", "turn"] ["script"] (defScope sLaw) := ⟨rfl, rfl, rfl, by decide +kernel, rfl, by decide +kernel, by decide +kernel⟩
theorem ok_Law (T : Txt P w K mg base Ad1 Ad2 Ad4 Ad6 Ad9 Ad10 Ad11) : Cd P w K mg base 14 "law" sLaw ["script"] (spLaw K) := by
  have c_LTakeCells := ok_LTakeCells T
  have c_LDraw := ok_LDraw T
  have c_LParentRow := ok_LParentRow T
  have c_LPriceRow := ok_LPriceRow T
  have k_Tree := (ok_Tree T).mkr
  have c_LNumbersRight := ok_LNumbersRight T
  have c_LGrow := ok_LGrow T
  have c_LGluedRight := ok_LGluedRight T
  have c_LFull := ok_LFull T
  have c_LRows := ok_LRows T
  refine cd_of T.d_law scLaw (fun vs H Q E h => ?_) fun f cdv A outer s H vs Q E hr h => ?_
  · obtain ⟨a, ns, rfl, _⟩ := h
    rfl
  · obtain ⟨sc, ns, rfl, hsc, hn, k⟩ := h
    refine ⟨_, (pss_cons (ps_set (i := 1) scLaw.nd rfl (by first | exact Or.inl rfl | exact Or.inr rfl) (pe_c c_LTakeCells hr (by decide) rfl (pa_cons (pv 0) pa_nil)))
  (pss_cons (ps_set (i := 2) scLaw.nd rfl (by first | exact Or.inl rfl | exact Or.inr rfl) (pe_c c_LDraw hr (by decide) rfl (pa_cons (pv 1) (pa_cons pe_int pa_nil))))
  (C8.pss_cut (ps_if (pt_cmpR op_eq (pe_c c_LDraw hr (by decide) rfl (pa_cons (pv 1) (pa_cons pe_int pa_nil))) pe_int (nomark _))
    (pss_one (ps_set (i := 2) scLaw.nd rfl (by first | exact Or.inl rfl | exact Or.inr rfl) (pe_op op_sub pe_int (pe_c c_LDraw hr (by decide) rfl (pa_cons (pv 1) (pa_cons pe_int pa_nil))))))
    pss_nil)
  (pss_cons (ps_set (i := 3) scLaw.nd rfl (by first | exact Or.inl rfl | exact Or.inr rfl) (pe_c c_LParentRow hr (by decide) rfl (pa_cons (pv 1) (pa_cons (pv 2) pa_nil))))
  (pss_cons (ps_set (i := 4) scLaw.nd rfl (by first | exact Or.inl rfl | exact Or.inr rfl) (pe_c c_LPriceRow hr (by decide) rfl (pa_cons (pv 1) (pa_cons (pv 2) pa_nil))))
  (pss_cons (ps_set (i := 5) scLaw.nd rfl (by first | exact Or.inl rfl | exact Or.inr rfl) (pe_c c_LParentRow hr (by decide) rfl (pa_cons (pv 1) (pa_cons (pe_op op_add pe_int (pe_c c_LDraw hr (by decide) rfl (pa_cons (pv 1) (pa_cons pe_int pa_nil)))) pa_nil))))
  (pss_cons (ps_set (i := 6) scLaw.nd rfl (by first | exact Or.inl rfl | exact Or.inr rfl) (pe_c c_LPriceRow hr (by decide) rfl (pa_cons (pv 1) (pa_cons (pe_callB call_len_seq (by rfl) T.b_len (by decide +kernel) (pa_cons (pv 5) pa_nil)) pa_nil))))
  (pss_cons (ps_set (i := 7) scLaw.nd rfl (by first | exact Or.inl rfl | exact Or.inr rfl) (pe_op op_add pe_int (pe_c c_LDraw hr (by decide) rfl (pa_cons (pv 1) (pa_cons (pe_op op_pow pe_int pe_int) pa_nil)))))
  (pss_cons (ps_set (i := 8) scLaw.nd rfl (by first | exact Or.inl rfl | exact Or.inr rfl) (pe_lst (pa_cons (pe_callTy call_list_of (by rfl) T.b_list (by decide +kernel) (pa_cons (pv 3) pa_nil)) (pa_cons (pe_callTy call_list_of (by rfl) T.b_list (by decide +kernel) (pa_cons (pv 4) pa_nil)) pa_nil))))
  (pss_cons (ps_set (i := 9) scLaw.nd rfl (by first | exact Or.inl rfl | exact Or.inr rfl) (pe_mk k_Tree hr (by decide) rfl (pa_cons (pe_ix ix_list (pv 8) pe_int (fun _ _ => rfl)) (pa_cons (pe_ix ix_list (pv 8) pe_int (fun _ _ => rfl)) pa_nil))))
  (pss_cons (ps_expr (pe_bm PySem.F.plainAttrs_list PySem.F.slot_list_append PySem.F.type_list_append mt_append (pe_ix ix_list (pv 8) pe_int (fun _ _ => rfl)) (pa_cons pe_int pa_nil)))
  (pss_cons (ps_expr (pe_bm PySem.F.plainAttrs_list PySem.F.slot_list_append PySem.F.type_list_append mt_append (pe_ix ix_list (pv 8) pe_int (fun _ _ => rfl)) (pa_cons pe_int pa_nil)))
  (pss_cons (ps_set (i := 10) scLaw.nd rfl (by first | exact Or.inl rfl | exact Or.inr rfl) (pe_mk k_Tree hr (by decide) rfl (pa_cons (pe_callTy call_tuple_of (by rfl) T.b_tuple (by decide +kernel) (pa_cons (pv 5) pa_nil)) (pa_cons (pe_callTy call_tuple_of (by rfl) T.b_tuple (by decide +kernel) (pa_cons (pv 6) pa_nil)) pa_nil))))
  (pss_cons (ps_for (passes_of rfl) rfl (pi_range1 (by rfl) T.b_range (pa_cons pe_int pa_nil)) (pg_name (i := 11) scLaw.nd rfl (by first | exact Or.inl rfl | exact Or.inr rfl))
    (pss_one (ps_if (PW.pt (pw_or (pt_not (pt_val (pe_c c_LNumbersRight hr (by decide) rfl (pa_cons (pv 9) (pa_cons (pv 3) (pa_cons (pv 4) (pa_cons (pv 7) pa_nil))))))) (pw_or1 (pt_not (pt_val (pe_c c_LNumbersRight hr (by decide) rfl (pa_cons (pv 10) (pa_cons (pv 5) (pa_cons (pv 6) (pa_cons (pe_op op_add pe_int (pv 11)) pa_nil))))))))))
      (pss_one (ps_ret pe_bl))
      pss_nil)))
  (pss_cons (ps_if (PW.pt (pw_or (pt_not (pt_val (pe_c c_LGrow hr (by decide) rfl (pa_cons (pv 1) (pa_cons (pv 9) (pa_cons (pv 3) (pa_cons (pv 4) (pa_cons (pv 7) pa_nil)))))))) (pw_or1 (pt_not (pt_val (pe_c c_LGrow hr (by decide) rfl (pa_cons (pv 1) (pa_cons (pv 10) (pa_cons (pv 5) (pa_cons (pv 6) (pa_cons pe_int pa_nil)))))))))))
    (pss_one (ps_ret pe_bl))
    pss_nil)
  (pss_cons (ps_if (pt_not (pt_val (pe_c c_LGluedRight hr (by decide) rfl (pa_cons (pv 9) (pa_cons (pv 10) (pa_cons (pe_lst (pa_cons (pv 3) (pa_cons (pv 4) (pa_cons (pv 5) (pa_cons (pv 6) pa_nil))))) (pa_cons (pv 7) pa_nil)))))))
    (pss_one (ps_ret pe_bl))
    pss_nil)
  (pss_cons (ps_if (pt_not (pt_val (pe_c c_LGluedRight hr (by decide) rfl (pa_cons (pv 10) (pa_cons (pv 10) (pa_cons (pe_lst (pa_cons (pv 5) (pa_cons (pv 6) (pa_cons (pv 5) (pa_cons (pv 6) pa_nil))))) (pa_cons (pv 7) pa_nil)))))))
    (pss_one (ps_ret pe_bl))
    pss_nil)
  (pss_cons (ps_if (PW.pt (pw_or (pt_not (pt_val (pe_c c_LFull hr (by decide) rfl (pa_cons (pv 1) (pa_cons (pv 10) (pa_cons (pv 5) (pa_cons (pv 6) (pa_cons (pv 7) pa_nil)))))))) (pw_or1 (pt_not (pt_val (pe_c c_LRows hr (by decide) rfl (pa_cons (pv 1) (pa_cons (pv 6) (pa_cons (pv 7) pa_nil)))))))))
    (pss_one (ps_ret pe_bl))
    pss_nil)
  (pss_one (ps_ret (pe_and (pe_c c_LRows hr (by decide) rfl (pa_cons (pv 1) (pa_cons (pe_lst pa_nil) (pa_cons (pv 7) pa_nil)))) (pe_one (pe_c c_LNumbersRight hr (by decide) rfl (pa_cons (pv 9) (pa_cons (pv 3) (pa_cons (pv 4) (pa_cons (pv 7) pa_nil))))))))))))))))))))))))))), ?_⟩
    have G : ∀ {d : Nat}, d ≤ 100000 → d ≤ 10 ^ 100 := fun h => big6 (by show _ ≤ 10000000; omega)
    have N : ∀ {n : Int}, n ≤ 1000 → n ≤ 10 ^ 130 := fun h => Int.le_trans h (by decide +kernel)
    refine ⟨_, rfl, sc, ns, rfl, hsc, hn, fun p H1 s1 _ p1 => ?_⟩
    refine ⟨_, rfl, draw_of p1 (G (by omega)) (by decide) (N (by decide)) fun ed0 H2 b2 p2 d0 d1 => ?_⟩
    refine ⟨fun σ' H' => ∃ ed : Int, σ' = [some (.ref sc), some (.ref p), some (.int ed), none, none, none, none, none, none, none, none, none] ∧ 0 ≤ ed ∧ ed ≤ 59 ∧ PoolB H' p 4, ?_, ?_⟩
    · refine ⟨_, rfl, draw_of p2 (G (by omega)) (by decide) (N (by decide)) fun e H3 b3 p3 e0 e1 => ?_⟩
      refine ⟨rfl, _, rfl, ifI (fun _ => ?_) fun _ => ⟨ed0, rfl, d0, by omega, p3.up (by omega)⟩⟩
      refine ⟨_, rfl, draw_of p3 (G (by omega)) (by decide) (N (by decide)) fun e2 H4 b4 p4 e20 e21 => ?_⟩
      exact ⟨_, _, rfl, rfl, 59 - e2, rfl, by omega, by omega, p4.up (by omega)⟩
    rintro _ H4 ⟨ed, rfl, ed0', ed1, p4⟩
    refine ⟨_, rfl, _, rfl, p, ed, 4, rfl, p4, by decide, ed0', ed1, fun a ps H5 b5 p5 fa ha lps hps => ?_⟩
    have nap := p4.ne fa
    refine ⟨_, rfl, _, rfl, p, ed, _, rfl, p5, by decide, ed0', ed1, fun b qs H6 b6 p6 fb hb lqs hqs => ?_⟩
    have nbp := p5.ne fb
    have ha6 := b6 _ _ nap ha
    refine ⟨_, rfl, _, rfl, draw_of p6 (G (by omega)) (by decide) (N (by decide)) fun e7 H7 b7 p7 e70 e71 => ?_⟩
    refine ⟨_, _, rfl, rfl, p, 1 + e7, _, rfl, p7, by decide, by omega, by omega, fun a' ps' H8 b8 p8 fa' ha' lps' hps' => ?_⟩
    have nap' := p7.ne fa'
    refine ⟨_, rfl, _, rfl, a', _, rfl, .inl (SqL.of ha'), p, _, _, rfl, p8, by decide, by omega, by rw [List.length_map]; omega, fun b' qs' H9 b9 p9 fb' hb' lqs' hqs' => ?_⟩
    rw [List.length_map] at lqs'
    have nbp' := p8.ne fb'
    have ok : okT ps qs := ok_rows hps hqs (by omega) (by omega)
    have ok' : okT ps' qs' := ok_rows hps' hqs' (by omega) (by omega)
    refine ⟨_, rfl, _, _, rfl, rfl, pow10 (by decide) (by decide), draw_of p9 (G (by omega)) (by decide +kernel) (by decide +kernel) fun e10 H10 b10 p10 e100 e101 => ?_⟩
    have p6c : ((10 : Int) ^ Int.toNat 6) = 1000000 := by decide +kernel
    rw [p6c] at e101
    refine ⟨_, _, rfl, rfl, ?_⟩
    have hn1 : (1 : Int) ≤ 1 + e10 := by omega
    have hn2 : 1 + e10 ≤ 1000000 := by omega
    have ha10 := b10 _ _ nap (b9 _ _ nap (b8 _ _ nap (b7 _ _ nap ha6)))
    have hb10 := b10 _ _ nbp (b9 _ _ nbp (b8 _ _ nbp (b7 _ _ nbp hb)))
    have ha10' := b10 _ _ nap' (b9 _ _ nap' ha')
    have hb10' := b10 _ _ nbp' hb'
    refine ⟨_, rfl, a, _, rfl, .inl (SqL.of ha10), fun l1 hl1 => ?_⟩
    have s1 := sm0 (o := .lst (ps.map V.int)) hl1
    have f1 : upd H10 l1 (.lst (ps.map V.int)) l1 = some (.lst (ps.map V.int)) := upd_same
    generalize upd H10 l1 (.lst (ps.map V.int)) = H11 at s1 f1 ⊢
    refine ⟨_, rfl, b, _, rfl, .inl (SqL.of (s1 _ _ hb10)), fun l2 hl2 => ?_⟩
    have s2 := smN s1 (o := .lst (qs.map V.int)) hl2
    have f2 := atN (o := .lst (qs.map V.int)) f1 hl2
    have g2 : upd H11 l2 (.lst (qs.map V.int)) l2 = some (.lst (qs.map V.int)) := upd_same
    have n12 : l1 ≠ l2 := ne_of_none f1 hl2
    have n1 : ∀ {x : Addr} {o : HO}, H10 x = some o → x ≠ l1 := fun e => ne_of_none e hl1
    have n2 : ∀ {x : Addr} {o : HO}, H10 x = some o → x ≠ l2 := fun e => ne_of_none (s1 _ _ e) hl2
    generalize upd H11 l2 (.lst (qs.map V.int)) = H12 at s2 f2 g2 ⊢
    refine ⟨by show 2 ≤ sizeLine; decide, fun h hh => ?_⟩
    have s3 := smN s2 (o := .lst [.ref l1, .ref l2]) hh
    have f3 := atN (o := .lst [.ref l1, .ref l2]) f2 hh
    have g3 := atN (o := .lst [.ref l1, .ref l2]) g2 hh
    have h3 : upd H12 h (.lst [.ref l1, .ref l2]) h = some (.lst [.ref l1, .ref l2]) := upd_same
    have nh1 : l1 ≠ h := ne_of_none f2 hh
    have nh2 : l2 ≠ h := ne_of_none g2 hh
    generalize upd H12 h (.lst [.ref l1, .ref l2]) = H13 at s3 f3 g3 h3 ⊢
    refine ⟨_, rfl, h, _, _, _, rfl, rfl, SqL.of h3, atI0, _, rfl, h, _, _, _, rfl, rfl, SqL.of h3, atI1, fun t dx hx hdx ne => mk_ok hx hdx ok (.inl (SqL.of f3)) (.inl (SqL.of g3)) fun H14 s14 hT => ⟨rfl, ?_⟩⟩
    have sA := s3.trans s14
    have f4 := s14 _ _ f3
    have g4 := s14 _ _ g3
    have h4 := s14 _ _ h3
    have p14 := p10.same sA
    have n1p : l1 ≠ p := p10.ne hl1
    have n2p : l2 ≠ p := (p10.same s1).ne hl2
    refine ⟨_, rfl, h, _, _, _, rfl, rfl, SqL.of h4, atI0, .inl ⟨rfl, _, SqL.of f4⟩, l1, _, _, rfl, rfl, f4, by rw [List.length_map]; exact sz_lt (by omega), ?_⟩
    have T15 := hT.put (o := .lst (ps.map V.int ++ [.int 0])) f4
    have k15 : ∀ {x : Addr} {o : HO}, H10 x = some o → upd H14 l1 (.lst (ps.map V.int ++ [.int 0])) x = some o := fun e => by rw [upd_ne (n1 e)]; exact sA _ _ e
    have g15 : upd H14 l1 (.lst (ps.map V.int ++ [.int 0])) l2 = some (.lst (qs.map V.int)) := by rw [upd_ne n12.symm]; exact g4
    have h15 : upd H14 l1 (.lst (ps.map V.int ++ [.int 0])) h = some (.lst [.ref l1, .ref l2]) := by rw [upd_ne nh1.symm]; exact h4
    have p15 := p14.put (o := .lst (ps.map V.int ++ [.int 0])) n1p
    generalize upd H14 l1 (.lst (ps.map V.int ++ [.int 0])) = H15 at T15 k15 g15 h15 p15 ⊢
    refine ⟨_, rfl, h, _, _, _, rfl, rfl, SqL.of h15, atI1, .inl ⟨rfl, _, SqL.of g15⟩, l2, _, _, rfl, rfl, g15, by rw [List.length_map]; exact sz_lt (by omega), ?_⟩
    have T16 := T15.put (o := .lst (qs.map V.int ++ [.int 99])) g15
    have k16 : ∀ {x : Addr} {o : HO}, H10 x = some o → upd H15 l2 (.lst (qs.map V.int ++ [.int 99])) x = some o := fun e => by rw [upd_ne (n2 e)]; exact k15 e
    have p16 := p15.put (o := .lst (qs.map V.int ++ [.int 99])) n2p
    have a16 := k16 ha10
    have b16 := k16 hb10
    have a16' := k16 ha10'
    have b16' := k16 hb10'
    generalize upd H15 l2 (.lst (qs.map V.int ++ [.int 99])) = H16 at T16 p16 a16 b16 a16' b16' ⊢
    refine ⟨_, rfl, a', _, rfl, .inl ⟨SqL.of a16', fun q1 hq1 => ?_⟩⟩
    have u1 := sm0 (o := .tup (ps'.map V.int)) hq1
    have e1 : upd H16 q1 (.tup (ps'.map V.int)) q1 = some (.tup (ps'.map V.int)) := upd_same
    generalize upd H16 q1 (.tup (ps'.map V.int)) = H17 at u1 e1 ⊢
    refine ⟨_, rfl, b', _, rfl, .inl ⟨SqL.of (u1 _ _ b16'), fun q2 hq2 => ?_⟩⟩
    have u2 := smN u1 (o := .tup (qs'.map V.int)) hq2
    refine fun t' dx' hx' hdx' ne' => mk_ok hx' hdx' ok' (.inr (atN e1 hq2)) (.inr upd_same) fun G0 s18 hT' => ⟨rfl, ?_⟩
    have u3 := u2.trans s18
    have W0 : Wd Ad11 a b a' b' t t' ps qs ps' qs' G0 := ⟨T16.same u3, hT', u3 _ _ a16, u3 _ _ b16, u3 _ _ a16', u3 _ _ b16'⟩
    have P0 := p16.same u3
    refine ⟨_, rfl, by decide, by decide, ?_⟩
    refine for_range (lo := 0) (n := 2) (fun i σ H' => ∃ v11 : Option V, σ = [some (.ref sc), some (.ref p), some (.int ed), some (.ref a), some (.ref b), some (.ref a'), some (.ref b'), some (.int (1 + e10)), some (.ref h), some (.ref t), some (.ref t'), v11] ∧ Same G0 H')
      ⟨none, rfl, Same.refl G0⟩ (fun i σ H' hi h => ?_) fun σ G1 h => ?_
    · obtain ⟨v11, rfl, sh⟩ := h
      rw [Int.zero_add]
      refine ⟨_, rfl, _, rfl, _, rfl, _, rfl, t, a, b, ps, qs, _, rfl, W0.t1.same sh, sh _ _ W0.ra, sh _ _ W0.rb, ok, hn1, hn2, fun H2 s2 => ⟨_, rfl, ifF rfl ?_⟩⟩
      have sh2 := sh.trans s2
      refine ⟨_, rfl, _, rfl, _, rfl, _, rfl, _, _, rfl, rfl, t', a', b', ps', qs', _, rfl, W0.t2.same sh2, sh2 _ _ W0.ra', sh2 _ _ W0.rb', ok', by omega, by omega, fun H3 s3 => ⟨_, rfl, ifF rfl ?_⟩⟩
      exact ⟨_, rfl, sh2.trans s3⟩
    obtain ⟨v11, rfl, sh⟩ := h
    have W1 := W0.but nap nbp nap' nbp' P0 (But.of sh)
    have P1 := P0.same sh
    refine ⟨_, rfl, _, rfl, _, rfl, _, rfl, _, rfl, p, t, a, b, ps, qs, _, _, rfl, P1, by decide, W1.t1, W1.ra, W1.rb, nap, nbp, ok, hn1, hn2, fun G2 b2 P2 => ⟨_, rfl, ifF rfl ?_⟩⟩
    have W2 := W1.but nap nbp nap' nbp' P1 b2
    refine ⟨_, rfl, _, rfl, _, rfl, _, rfl, p, t', a', b', ps', qs', 1, _, rfl, P2, by decide, W2.t2, W2.ra', W2.rb', nap', nbp', ok', by decide, by decide, fun G3 b3 P3 => ⟨_, rfl, ifF rfl ?_⟩⟩
    have W3 := W2.but nap nbp nap' nbp' P2 b3
    refine ⟨_, rfl, _, rfl, _, rfl, _, rfl, _, rfl, _, rfl, by show 4 ≤ sizeLine; decide, fun r1 hr1 => ?_⟩
    have x1 := sm0 (o := .lst [.ref a, .ref b, .ref a', .ref b']) hr1
    refine ⟨_, rfl, t, t', r1, a, b, a', b', ps, qs, ps', qs', _, rfl, W3.t1.same x1, W3.t2.same x1, ok, ok', upd_same, x1 _ _ W3.ra, x1 _ _ W3.rb, x1 _ _ W3.ra', x1 _ _ W3.rb', hn1, hn2, fun G4 s4 => ⟨_, rfl, ifF rfl ?_⟩⟩
    have W4 := W3.but nap nbp nap' nbp' P3 (But.of (x1.trans s4))
    have P4 := P3.same (x1.trans s4)
    refine ⟨_, rfl, _, rfl, _, rfl, _, rfl, _, rfl, _, rfl, by show 4 ≤ sizeLine; decide, fun r2 hr2 => ?_⟩
    have x2 := sm0 (o := .lst [.ref a', .ref b', .ref a', .ref b']) hr2
    refine ⟨_, rfl, t', t', r2, a', b', a', b', ps', qs', ps', qs', _, rfl, W4.t2.same x2, W4.t2.same x2, ok', ok', upd_same, x2 _ _ W4.ra', x2 _ _ W4.rb', x2 _ _ W4.ra', x2 _ _ W4.rb', hn1, hn2, fun G5 s5 => ⟨_, rfl, ifF rfl ?_⟩⟩
    have W5 := W4.but nap nbp nap' nbp' P4 (But.of (x2.trans s5))
    have P5 := P4.same (x2.trans s5)
    refine ⟨_, rfl, _, rfl, _, rfl, _, rfl, _, rfl, p, t', a', b', ps', qs', _, _, rfl, P5, by decide, W5.t2, W5.ra', W5.rb', nap', nbp', ok', by omega, hn1, hn2, fun G6 b6 P6 => ⟨_, rfl, ifF rfl ?_⟩⟩
    have W6 := W5.but nap nbp nap' nbp' P5 b6
    refine ⟨_, rfl, _, rfl, _, rfl, p, b', qs', _, _, rfl, P6, by decide, W6.rb', nbp', ok'.pr, by omega, hn1, hn2, fun G7 b7 P7 => ⟨_, rfl, ifF rfl ?_⟩⟩
    have W7 := W6.but nap nbp nap' nbp' P6 b7
    refine ⟨_, rfl, by show 0 ≤ sizeLine; decide, fun l0 hl0 => ?_⟩
    have x3 := sm0 (o := .lst []) hl0
    have W8 := W7.but nap nbp nap' nbp' P7 (But.of x3)
    have P8 := P7.new (o := .lst []) hl0
    refine ⟨_, rfl, p, l0, [], _, _, rfl, P8, by decide, upd_same, P7.ne hl0, (fun x hx => by cases hx), by decide, hn1, hn2, fun G9 b9 P9 => ⟨_, rfl, iteT ?_⟩⟩
    have W9 := W8.but nap nbp nap' nbp' P8 b9
    exact ⟨_, rfl, _, rfl, _, rfl, _, rfl, t, a, b, ps, qs, _, rfl, W9.t1, W9.ra, W9.rb, ok, hn1, hn2, fun G10 s10 => k G10⟩
end
end K13
set_option maxRecDepth 100000
set_option maxHeartbeats 4000000
open PySem PySem.W PyProof.Rows L2 SI K13
set_option maxRecDepth 100000 in
set_option maxHeartbeats 0 in
theorem PySem.Challenge.cw_pebblesreach_k13_tree_line_holds : PySem.Challenge.rw_pebblesreach_k13_tree_line.Holds := by
  w_on; o_law; k_head; (case hw => w_witness2)
  k_fill
  refine walkK (l := PySem.Challenge.rw_pebblesreach_k13_tree_line) (n := 63) (k := 14) (x := "script") (sp := spLaw) rfl (by decide) rfl ⟨rfl, by decide, by decide⟩ (fun K H a ns hl hS => ⟨a, ns, rfl, hS, hl, fun _ => rfl⟩) (fun w h Y => PySem.W.kIn_of Y) ?F
  case F =>
    intro w mg fa h KX G hmg
    refine' exc_at (x := "PebbleError") KX G ?h1a ?h1l ?h1rf ?h1sa ?h1exC ?h1tyC ?h1kC ?h1ga ?h1gg ?h1hd ?h1ac ?h1mo fun g_PebbleError o_PebbleError e_PebbleError => ?_
    (case h1a => k_is)
    (case h1l => k_is)
    (case h1rf => decide +kernel)
    (case h1sa => k_is)
    (case h1exC => k_is)
    (case h1tyC => k_is)
    (case h1kC => k_is)
    (case h1ga => k_is)
    (case h1gg => k_is)
    (case h1hd => k_is)
    (case h1ac => k_is)
    (case h1mo => k_is)
    refine' exc_at (x := "BadCount") KX G ?h2a ?h2l ?h2rf ?h2sa ?h2exC ?h2tyC ?h2kC ?h2ga ?h2gg ?h2hd ?h2ac ?h2mo fun g_BadCount o_BadCount e_BadCount => ?_
    (case h2a => k_is)
    (case h2l => k_is)
    (case h2rf => decide +kernel)
    (case h2sa => k_is)
    (case h2exC => k_is)
    (case h2tyC => k_is)
    (case h2kC => k_is)
    (case h2ga => k_is)
    (case h2gg => k_is)
    (case h2hd => k_is)
    (case h2ac => k_is)
    (case h2mo => k_is)
    refine' exc_at (x := "NoNode") KX G ?h3a ?h3l ?h3rf ?h3sa ?h3exC ?h3tyC ?h3kC ?h3ga ?h3gg ?h3hd ?h3ac ?h3mo fun g_NoNode o_NoNode e_NoNode => ?_
    (case h3a => k_is)
    (case h3l => k_is)
    (case h3rf => decide +kernel)
    (case h3sa => k_is)
    (case h3exC => k_is)
    (case h3tyC => k_is)
    (case h3kC => k_is)
    (case h3ga => k_is)
    (case h3gg => k_is)
    (case h3hd => k_is)
    (case h3ac => k_is)
    (case h3mo => k_is)
    refine' exc_at (x := "WrongWidth") KX G ?h4a ?h4l ?h4rf ?h4sa ?h4exC ?h4tyC ?h4kC ?h4ga ?h4gg ?h4hd ?h4ac ?h4mo fun g_WrongWidth o_WrongWidth e_WrongWidth => ?_
    (case h4a => k_is)
    (case h4l => k_is)
    (case h4rf => decide +kernel)
    (case h4sa => k_is)
    (case h4exC => k_is)
    (case h4tyC => k_is)
    (case h4kC => k_is)
    (case h4ga => k_is)
    (case h4gg => k_is)
    (case h4hd => k_is)
    (case h4ac => k_is)
    (case h4mo => k_is)
    refine' exc_at (x := "BadParent") KX G ?h5a ?h5l ?h5rf ?h5sa ?h5exC ?h5tyC ?h5kC ?h5ga ?h5gg ?h5hd ?h5ac ?h5mo fun g_BadParent o_BadParent e_BadParent => ?_
    (case h5a => k_is)
    (case h5l => k_is)
    (case h5rf => decide +kernel)
    (case h5sa => k_is)
    (case h5exC => k_is)
    (case h5tyC => k_is)
    (case h5kC => k_is)
    (case h5ga => k_is)
    (case h5gg => k_is)
    (case h5hd => k_is)
    (case h5ac => k_is)
    (case h5mo => k_is)
    refine' exc_at (x := "BadPrice") KX G ?h6a ?h6l ?h6rf ?h6sa ?h6exC ?h6tyC ?h6kC ?h6ga ?h6gg ?h6hd ?h6ac ?h6mo fun g_BadPrice o_BadPrice e_BadPrice => ?_
    (case h6a => k_is)
    (case h6l => k_is)
    (case h6rf => decide +kernel)
    (case h6sa => k_is)
    (case h6exC => k_is)
    (case h6tyC => k_is)
    (case h6kC => k_is)
    (case h6ga => k_is)
    (case h6gg => k_is)
    (case h6hd => k_is)
    (case h6ac => k_is)
    (case h6mo => k_is)
    refine' sup_at (P := PySem.Challenge.rw_pebblesreach_k13_tree_line.prog) (qual := "BadCount.__init__") (st := sBadCountInit) KX G o_BadCount rfl ?h7i ?h7t ?h7l ?h7c ?h7lc ?h7hf ?h7hm ?h7lcc ?h7self ?h7sup ?h7sub ?h7z ?h7any ?h7top fun fd_BadCount s_BadCount i_BadCount t_BadCount x_BadCount => ?_
    (case h7i => k_is)
    (case h7t => k_is)
    (case h7l => k_is)
    (case h7c => k_is)
    (case h7lc => k_is)
    (case h7hf => rfl)
    (case h7hm => first | rfl | decide +kernel)
    (case h7lcc => k_is)
    (case h7self => k_is)
    (case h7sup => ks_is)
    (case h7sub => k_is)
    (case h7z => k_is)
    (case h7any => k_is)
    (case h7top => decide +kernel)
    refine' sup_at (P := PySem.Challenge.rw_pebblesreach_k13_tree_line.prog) (qual := "NoNode.__init__") (st := sNoNodeInit) KX G o_NoNode rfl ?h8i ?h8t ?h8l ?h8c ?h8lc ?h8hf ?h8hm ?h8lcc ?h8self ?h8sup ?h8sub ?h8z ?h8any ?h8top fun fd_NoNode s_NoNode i_NoNode t_NoNode x_NoNode => ?_
    (case h8i => k_is)
    (case h8t => k_is)
    (case h8l => k_is)
    (case h8c => k_is)
    (case h8lc => k_is)
    (case h8hf => rfl)
    (case h8hm => first | rfl | decide +kernel)
    (case h8lcc => k_is)
    (case h8self => k_is)
    (case h8sup => ks_is)
    (case h8sub => k_is)
    (case h8z => k_is)
    (case h8any => k_is)
    (case h8top => decide +kernel)
    refine' sup_at (P := PySem.Challenge.rw_pebblesreach_k13_tree_line.prog) (qual := "WrongWidth.__init__") (st := sWrongWidthInit) KX G o_WrongWidth rfl ?h9i ?h9t ?h9l ?h9c ?h9lc ?h9hf ?h9hm ?h9lcc ?h9self ?h9sup ?h9sub ?h9z ?h9any ?h9top fun fd_WrongWidth s_WrongWidth i_WrongWidth t_WrongWidth x_WrongWidth => ?_
    (case h9i => k_is)
    (case h9t => k_is)
    (case h9l => k_is)
    (case h9c => k_is)
    (case h9lc => k_is)
    (case h9hf => rfl)
    (case h9hm => first | rfl | decide +kernel)
    (case h9lcc => k_is)
    (case h9self => k_is)
    (case h9sup => ks_is)
    (case h9sub => k_is)
    (case h9z => k_is)
    (case h9any => k_is)
    (case h9top => decide +kernel)
    refine' sup_at (P := PySem.Challenge.rw_pebblesreach_k13_tree_line.prog) (qual := "BadParent.__init__") (st := sBadParentInit) KX G o_BadParent rfl ?h10i ?h10t ?h10l ?h10c ?h10lc ?h10hf ?h10hm ?h10lcc ?h10self ?h10sup ?h10sub ?h10z ?h10any ?h10top fun fd_BadParent s_BadParent i_BadParent t_BadParent x_BadParent => ?_
    (case h10i => k_is)
    (case h10t => k_is)
    (case h10l => k_is)
    (case h10c => k_is)
    (case h10lc => k_is)
    (case h10hf => rfl)
    (case h10hm => first | rfl | decide +kernel)
    (case h10lcc => k_is)
    (case h10self => k_is)
    (case h10sup => ks_is)
    (case h10sub => k_is)
    (case h10z => k_is)
    (case h10any => k_is)
    (case h10top => decide +kernel)
    refine' sup_at (P := PySem.Challenge.rw_pebblesreach_k13_tree_line.prog) (qual := "BadPrice.__init__") (st := sBadPriceInit) KX G o_BadPrice rfl ?h11i ?h11t ?h11l ?h11c ?h11lc ?h11hf ?h11hm ?h11lcc ?h11self ?h11sup ?h11sub ?h11z ?h11any ?h11top fun fd_BadPrice s_BadPrice i_BadPrice t_BadPrice x_BadPrice => ?_
    (case h11i => k_is)
    (case h11t => k_is)
    (case h11l => k_is)
    (case h11c => k_is)
    (case h11lc => k_is)
    (case h11hf => rfl)
    (case h11hm => first | rfl | decide +kernel)
    (case h11lcc => k_is)
    (case h11self => k_is)
    (case h11sup => ks_is)
    (case h11sub => k_is)
    (case h11z => k_is)
    (case h11any => k_is)
    (case h11top => decide +kernel)
    refine' mak_at (x := "Tree") (qual := "Tree.__init__") (st := sTreeInit) (ps := ["self", "parents", "prices"]) KX G (fun _ _ _ _ _ _ us hl => match us, hl with | [_, _, _], _ => rfl) ?h12a ?h12mk ?h12i ?h12n ?h12kc ?h12l ?h12c ?h12k fun m_Tree => ?_
    (case h12a => k_is)
    (case h12mk => k_is)
    (case h12i => k_is)
    (case h12n => k_is)
    (case h12kc => k_is)
    (case h12l => k_is)
    (case h12c => k_is)
    (case h12k => k_is)
    refine' def_at (x := "heights") (st := sHeights) (ps := ["tree"]) KX G (fun _ _ _ _ _ _ us hl => match us, hl with | [_], _ => rfl) ?h13a ?h13l ?h13c ?h13k fun d_heights => ?_
    (case h13a => k_is)
    (case h13l => k_is)
    (case h13c => k_is)
    (case h13k => k_is)
    refine' def_at (x := "main_children") (st := sMainChildren) (ps := ["tree"]) KX G (fun _ _ _ _ _ _ us hl => match us, hl with | [_], _ => rfl) ?h14a ?h14l ?h14c ?h14k fun d_main_children => ?_
    (case h14a => k_is)
    (case h14l => k_is)
    (case h14c => k_is)
    (case h14k => k_is)
    refine' def_at (x := "path_down") (st := sPathDown) (ps := ["main", "top", "second"]) KX G (fun _ _ _ _ _ _ us hl => match us, hl with | [_, _, _], _ => rfl) ?h15a ?h15l ?h15c ?h15k fun d_path_down => ?_
    (case h15a => k_is)
    (case h15l => k_is)
    (case h15c => k_is)
    (case h15k => k_is)
    refine' def_at (x := "paths") (st := sPaths) (ps := ["tree"]) KX G (fun _ _ _ _ _ _ us hl => match us, hl with | [_], _ => rfl) ?h16a ?h16l ?h16c ?h16k fun d_paths => ?_
    (case h16a => k_is)
    (case h16l => k_is)
    (case h16c => k_is)
    (case h16k => k_is)
    refine' def_at (x := "path_product") (st := sPathProduct) (ps := ["tree", "path"]) KX G (fun _ _ _ _ _ _ us hl => match us, hl with | [_, _], _ => rfl) ?h17a ?h17l ?h17c ?h17k fun d_path_product => ?_
    (case h17a => k_is)
    (case h17l => k_is)
    (case h17c => k_is)
    (case h17k => k_is)
    refine' def_at (x := "check_wanted") (st := sCheckWanted) (ps := ["many"]) KX G (fun _ _ _ _ _ _ us hl => match us, hl with | [_], _ => rfl) ?h18a ?h18l ?h18c ?h18k fun d_check_wanted => ?_
    (case h18a => k_is)
    (case h18l => k_is)
    (case h18c => k_is)
    (case h18k => k_is)
    refine' def_at (x := "line") (st := sLine) (ps := ["tree"]) KX G (fun _ _ _ _ _ _ us hl => match us, hl with | [_], _ => rfl) ?h19a ?h19l ?h19c ?h19k fun d_line => ?_
    (case h19a => k_is)
    (case h19l => k_is)
    (case h19c => k_is)
    (case h19k => k_is)
    refine' defd_at (x := "tree_enough") (st := sTreeEnough) (dvs := [.int 1]) KX G ?h20a ?h20l ?h20c ?h20k ?h20t ?h20hd ?h20hv fun d_tree_enough => ?_
    (case h20a => k_is)
    (case h20l => k_is)
    (case h20c => k_is)
    (case h20k => k_is)
    (case h20t => k_is)
    (case h20hd => decide)
    (case h20hv => exact .cons ⟨_, rfl⟩ .nil)
    refine' def_at (x := "check_edges") (st := sCheckEdges) (ps := ["parents", "prices"]) KX G (fun _ _ _ _ _ _ us hl => match us, hl with | [_, _], _ => rfl) ?h21a ?h21l ?h21c ?h21k fun d_check_edges => ?_
    (case h21a => k_is)
    (case h21l => k_is)
    (case h21c => k_is)
    (case h21k => k_is)
    refine' def_at (x := "path_tree") (st := sPathTree) (ps := ["prices"]) KX G (fun _ _ _ _ _ _ us hl => match us, hl with | [_], _ => rfl) ?h22a ?h22l ?h22c ?h22k fun d_path_tree => ?_
    (case h22a => k_is)
    (case h22l => k_is)
    (case h22c => k_is)
    (case h22k => k_is)
    refine' def_at (x := "star_tree") (st := sStarTree) (ps := ["prices"]) KX G (fun _ _ _ _ _ _ us hl => match us, hl with | [_], _ => rfl) ?h23a ?h23l ?h23c ?h23k fun d_star_tree => ?_
    (case h23a => k_is)
    (case h23l => k_is)
    (case h23c => k_is)
    (case h23k => k_is)
    refine' def_at (x := "stemmed") (st := sStemmed) (ps := ["tree", "price"]) KX G (fun _ _ _ _ _ _ us hl => match us, hl with | [_, _], _ => rfl) ?h24a ?h24l ?h24c ?h24k fun d_stemmed => ?_
    (case h24a => k_is)
    (case h24l => k_is)
    (case h24c => k_is)
    (case h24k => k_is)
    refine' def_at (x := "hung") (st := sHung) (ps := ["tree", "node", "price"]) KX G (fun _ _ _ _ _ _ us hl => match us, hl with | [_, _, _], _ => rfl) ?h25a ?h25l ?h25c ?h25k fun d_hung => ?_
    (case h25a => k_is)
    (case h25l => k_is)
    (case h25c => k_is)
    (case h25k => k_is)
    refine' def_at (x := "glued") (st := sGlued) (ps := ["left", "right"]) KX G (fun _ _ _ _ _ _ us hl => match us, hl with | [_, _], _ => rfl) ?h26a ?h26l ?h26c ?h26k fun d_glued => ?_
    (case h26a => k_is)
    (case h26l => k_is)
    (case h26c => k_is)
    (case h26k => k_is)
    refine' def_at (x := "_law_take_cells") (st := sLTakeCells) (ps := ["script"]) KX G (fun _ _ _ _ _ _ us hl => match us, hl with | [_], _ => rfl) ?h27a ?h27l ?h27c ?h27k fun d__law_take_cells => ?_
    (case h27a => k_is)
    (case h27l => k_is)
    (case h27c => k_is)
    (case h27k => k_is)
    refine' def_at (x := "_law_draw") (st := sLDraw) (ps := ["pool", "many"]) KX G (fun _ _ _ _ _ _ us hl => match us, hl with | [_, _], _ => rfl) ?h28a ?h28l ?h28c ?h28k fun d__law_draw => ?_
    (case h28a => k_is)
    (case h28l => k_is)
    (case h28c => k_is)
    (case h28k => k_is)
    refine' def_at (x := "_law_same") (st := sLSame) (ps := ["told", "due"]) KX G (fun _ _ _ _ _ _ us hl => match us, hl with | [_, _], _ => rfl) ?h29a ?h29l ?h29c ?h29k fun d__law_same => ?_
    (case h29a => k_is)
    (case h29l => k_is)
    (case h29c => k_is)
    (case h29k => k_is)
    refine' def_at (x := "_law_parent_row") (st := sLParentRow) (ps := ["pool", "edges"]) KX G (fun _ _ _ _ _ _ us hl => match us, hl with | [_, _], _ => rfl) ?h30a ?h30l ?h30c ?h30k fun d__law_parent_row => ?_
    (case h30a => k_is)
    (case h30l => k_is)
    (case h30c => k_is)
    (case h30k => k_is)
    refine' def_at (x := "_law_price_row") (st := sLPriceRow) (ps := ["pool", "edges"]) KX G (fun _ _ _ _ _ _ us hl => match us, hl with | [_, _], _ => rfl) ?h31a ?h31l ?h31c ?h31k fun d__law_price_row => ?_
    (case h31a => k_is)
    (case h31l => k_is)
    (case h31c => k_is)
    (case h31k => k_is)
    refine' def_at (x := "_law_height_row") (st := sLHeightRow) (ps := ["parents", "prices"]) KX G (fun _ _ _ _ _ _ us hl => match us, hl with | [_, _], _ => rfl) ?h32a ?h32l ?h32c ?h32k fun d__law_height_row => ?_
    (case h32a => k_is)
    (case h32l => k_is)
    (case h32c => k_is)
    (case h32k => k_is)
    refine' def_at (x := "_law_line_of") (st := sLLineOf) (ps := ["parents", "prices"]) KX G (fun _ _ _ _ _ _ us hl => match us, hl with | [_, _], _ => rfl) ?h33a ?h33l ?h33c ?h33k fun d__law_line_of => ?_
    (case h33a => k_is)
    (case h33l => k_is)
    (case h33c => k_is)
    (case h33k => k_is)
    refine' def_at (x := "_law_is_tree") (st := sLIsTree) (ps := ["told", "parents", "prices"]) KX G (fun _ _ _ _ _ _ us hl => match us, hl with | [_, _, _], _ => rfl) ?h34a ?h34l ?h34c ?h34k fun d__law_is_tree => ?_
    (case h34a => k_is)
    (case h34l => k_is)
    (case h34c => k_is)
    (case h34k => k_is)
    refine' def_at (x := "_law_numbers_right") (st := sLNumbersRight) (ps := ["tree", "parents", "prices", "many"]) KX G (fun _ _ _ _ _ _ us hl => match us, hl with | [_, _, _, _], _ => rfl) ?h35a ?h35l ?h35c ?h35k fun d__law_numbers_right => ?_
    (case h35a => k_is)
    (case h35l => k_is)
    (case h35c => k_is)
    (case h35k => k_is)
    refine' def_at (x := "_law_fault_of") (st := sLFaultOf) (ps := ["e"]) KX G (fun _ _ _ _ _ _ us hl => match us, hl with | [_], _ => rfl) ?h36a ?h36l ?h36c ?h36k fun d__law_fault_of => ?_
    (case h36a => k_is)
    (case h36l => k_is)
    (case h36c => k_is)
    (case h36k => k_is)
    refine' def_at (x := "_law_try") (st := sLTry) (ps := ["deed", "tree", "other", "number", "price"]) KX G (fun _ _ _ _ _ _ us hl => match us, hl with | [_, _, _, _, _], _ => rfl) ?h37a ?h37l ?h37c ?h37k fun d__law_try => ?_
    (case h37a => k_is)
    (case h37l => k_is)
    (case h37c => k_is)
    (case h37k => k_is)
    refine' def_at (x := "_law_try_row") (st := sLTryRow) (ps := ["star", "prices"]) KX G (fun _ _ _ _ _ _ us hl => match us, hl with | [_, _], _ => rfl) ?h38a ?h38l ?h38c ?h38k fun d__law_try_row => ?_
    (case h38a => k_is)
    (case h38l => k_is)
    (case h38c => k_is)
    (case h38k => k_is)
    refine' def_at (x := "_law_wrong_price") (st := sLWrongPrice) (ps := ["pool"]) KX G (fun _ _ _ _ _ _ us hl => match us, hl with | [_], _ => rfl) ?h39a ?h39l ?h39c ?h39k fun d__law_wrong_price => ?_
    (case h39a => k_is)
    (case h39l => k_is)
    (case h39c => k_is)
    (case h39k => k_is)
    refine' def_at (x := "_law_grow") (st := sLGrow) (ps := ["pool", "tree", "parents", "prices", "many"]) KX G (fun _ _ _ _ _ _ us hl => match us, hl with | [_, _, _, _, _], _ => rfl) ?h40a ?h40l ?h40c ?h40k fun d__law_grow => ?_
    (case h40a => k_is)
    (case h40l => k_is)
    (case h40c => k_is)
    (case h40k => k_is)
    refine' def_at (x := "_law_glued_right") (st := sLGluedRight) (ps := ["left", "right", "rows", "many"]) KX G (fun _ _ _ _ _ _ us hl => match us, hl with | [_, _, _, _], _ => rfl) ?h41a ?h41l ?h41c ?h41k fun d__law_glued_right => ?_
    (case h41a => k_is)
    (case h41l => k_is)
    (case h41c => k_is)
    (case h41k => k_is)
    refine' def_at (x := "_law_full") (st := sLFull) (ps := ["pool", "right", "parents", "prices", "many"]) KX G (fun _ _ _ _ _ _ us hl => match us, hl with | [_, _, _, _, _], _ => rfl) ?h42a ?h42l ?h42c ?h42k fun d__law_full => ?_
    (case h42a => k_is)
    (case h42l => k_is)
    (case h42c => k_is)
    (case h42k => k_is)
    refine' def_at (x := "_law_rows") (st := sLRows) (ps := ["pool", "prices", "many"]) KX G (fun _ _ _ _ _ _ us hl => match us, hl with | [_, _, _], _ => rfl) ?h43a ?h43l ?h43c ?h43k fun d__law_rows => ?_
    (case h43a => k_is)
    (case h43l => k_is)
    (case h43c => k_is)
    (case h43k => k_is)
    refine' def_at (x := "law") (st := sLaw) (ps := ["script"]) KX G (fun _ _ _ _ _ _ us hl => match us, hl with | [_], _ => rfl) ?h44a ?h44l ?h44c ?h44k fun d_law => ?_
    (case h44a => k_is)
    (case h44l => k_is)
    (case h44c => k_is)
    (case h44k => k_is)
    refine' int_is (x := "MOST_PRICE") KX G ?cMOST_PRICE fun c_MOST_PRICE => ?_
    (case cMOST_PRICE => k_is)
    refine' int_is (x := "LEAST_PRICE") KX G ?cLEAST_PRICE fun c_LEAST_PRICE => ?_
    (case cLEAST_PRICE => k_is)
    refine' int_is (x := "MOST_TREE_NODES") KX G ?cMOST_TREE_NODES fun c_MOST_TREE_NODES => ?_
    (case cMOST_TREE_NODES => k_is)
    refine' int_is (x := "MOST_MANY") KX G ?cMOST_MANY fun c_MOST_MANY => ?_
    (case cMOST_MANY => k_is)
    refine' law_at (x := "law") (y := "script") (st := sLaw) KX G hmg (fun _ _ _ _ _ _ us hl => match us, hl with | [_], _ => rfl) ?la ?lb (fun base => ok_Law (Ad1 := _) (Ad2 := _) (Ad4 := _) (Ad6 := _) (Ad9 := _) (Ad10 := _) (Ad11 := _) {
      b_len := PySem.W.mg_none_of KX G (by k_is)
      b_int := PySem.W.mg_none_of KX G (by k_is)
      b_tuple := PySem.W.mg_none_of KX G (by k_is)
      b_list := PySem.W.mg_none_of KX G (by k_is)
      b_range := PySem.W.mg_none_of KX G (by k_is)
      b_isinstance := PySem.W.mg_none_of KX G (by k_is)
      b_bool := PySem.W.mg_none_of KX G (by k_is)
      b_ValueError := PySem.W.mg_none_of KX G (by k_is)
      b_enumerate := PySem.W.mg_none_of KX G (by k_is)
      b_max := PySem.W.mg_none_of KX G (by k_is)
      b_min := PySem.W.mg_none_of KX G (by k_is)
      b_sum := PySem.W.mg_none_of KX G (by k_is)
      b_str := PySem.W.mg_none_of KX G (by k_is)
      c_MOST_PRICE := int_as (by decide +kernel) c_MOST_PRICE
      c_LEAST_PRICE := int_as (by decide +kernel) c_LEAST_PRICE
      c_MOST_TREE_NODES := int_as (by decide +kernel) c_MOST_TREE_NODES
      c_MOST_MANY := int_as (by decide +kernel) c_MOST_MANY
      rBadCount := rs2 o_BadCount g_BadCount i_BadCount t_BadCount (errB_ok (k := 0) s_BadCount (NdefX.nscope_by (by decide +kernel)) (by decide) (by decide) rfl rfl (by decide +kernel) (by k_is) (by k_is) (fun _ => rfl) (by decide) (by decide) (by decide) (by decide)) (bindX (fun _ _ _ _ _ _ _ us hl => match us, hl with | [_, _, _], _ => rfl) x_BadCount) (by decide)
      rNoNode := rs1 o_NoNode g_NoNode i_NoNode t_NoNode (err1_ok (k := 0) s_NoNode (NdefX.nscope_by (by decide +kernel)) rfl rfl (by decide +kernel) (by k_is) (fun _ => rfl) (by decide) (by decide)) (bindX (fun _ _ _ _ _ _ _ us hl => match us, hl with | [_, _], _ => rfl) x_NoNode) (by decide)
      rWrongWidth := rs2 o_WrongWidth g_WrongWidth i_WrongWidth t_WrongWidth (err2_ok (k := 0) s_WrongWidth (NdefX.nscope_by (by decide +kernel)) rfl rfl (by decide +kernel) (by k_is) (by k_is) (fun _ => rfl) (by decide) (by decide) (by decide) (by decide)) (bindX (fun _ _ _ _ _ _ _ us hl => match us, hl with | [_, _, _], _ => rfl) x_WrongWidth) (by decide)
      rBadParent := rs1 o_BadParent g_BadParent i_BadParent t_BadParent (err1_ok (k := 0) s_BadParent (NdefX.nscope_by (by decide +kernel)) rfl rfl (by decide +kernel) (by k_is) (fun _ => rfl) (by decide) (by decide)) (bindX (fun _ _ _ _ _ _ _ us hl => match us, hl with | [_, _], _ => rfl) x_BadParent) (by decide)
      rBadPrice := rs1 o_BadPrice g_BadPrice i_BadPrice t_BadPrice (err1_ok (k := 0) s_BadPrice (NdefX.nscope_by (by decide +kernel)) rfl rfl (by decide +kernel) (by k_is) (fun _ => rfl) (by decide) (by decide)) (bindX (fun _ _ _ _ _ _ _ us hl => match us, hl with | [_, _], _ => rfl) x_BadPrice) (by decide)
      m_Tree := m_Tree
      lTree := ⟨by k_is, by k_is, by k_is, by k_is⟩
      nTree_nodes := by unfold L2.NoAttr; k_is
      nTree_parents := by unfold L2.NoAttr; k_is
      nTree_prices := by unfold L2.NoAttr; k_is
      d_heights := d_heights
      d_main_children := d_main_children
      d_path_down := d_path_down
      d_paths := d_paths
      d_path_product := d_path_product
      d_check_wanted := d_check_wanted
      d_line := d_line
      d_tree_enough := d_tree_enough
      d_check_edges := d_check_edges
      d_path_tree := d_path_tree
      d_star_tree := d_star_tree
      d_stemmed := d_stemmed
      d_hung := d_hung
      d_glued := d_glued
      d__law_take_cells := d__law_take_cells
      d__law_draw := d__law_draw
      d__law_same := d__law_same
      d__law_parent_row := d__law_parent_row
      d__law_price_row := d__law_price_row
      d__law_height_row := d__law_height_row
      d__law_line_of := d__law_line_of
      d__law_is_tree := d__law_is_tree
      d__law_numbers_right := d__law_numbers_right
      d__law_fault_of := d__law_fault_of
      d__law_try := d__law_try
      d__law_try_row := d__law_try_row
      d__law_wrong_price := d__law_wrong_price
      d__law_grow := d__law_grow
      d__law_glued_right := d__law_glued_right
      d__law_full := d__law_full
      d__law_rows := d__law_rows
      d_law := d_law
      gPebbleError := g_PebbleError
      gBadCount := g_BadCount
      gNoNode := g_NoNode
      gWrongWidth := g_WrongWidth
      gBadParent := g_BadParent
      gBadPrice := g_BadPrice
      gTree := PySem.W.mg_of KX G (by k_is)
      ek := ⟨by k_is, by k_is⟩
      eBadCount := e_BadCount
      fBadCount_what := by k_is
      fBadCount_many := by k_is
      xBadCount_PebbleError := xm_at e_PebbleError o_PebbleError (by k_is)
      tBadCount_BadCount := kit_self
      tBadCount_NoNode := kit_ref e_NoNode o_NoNode (by decide) (by k_is)
      tBadCount_BadPrice := kit_ref e_BadPrice o_BadPrice (by decide) (by k_is)
      tBadCount_BadParent := kit_ref e_BadParent o_BadParent (by decide) (by k_is)
      tBadCount_WrongWidth := kit_ref e_WrongWidth o_WrongWidth (by decide) (by k_is)
      tBadCount_ValueError := kit_VE (by k_is)
      eNoNode := e_NoNode
      fNoNode_node := by k_is
      xNoNode_PebbleError := xm_at e_PebbleError o_PebbleError (by k_is)
      tNoNode_BadCount := kit_ref e_BadCount o_BadCount (by decide) (by k_is)
      tNoNode_NoNode := kit_self
      tNoNode_BadPrice := kit_ref e_BadPrice o_BadPrice (by decide) (by k_is)
      tNoNode_BadParent := kit_ref e_BadParent o_BadParent (by decide) (by k_is)
      tNoNode_WrongWidth := kit_ref e_WrongWidth o_WrongWidth (by decide) (by k_is)
      tNoNode_ValueError := kit_VE (by k_is)
      eWrongWidth := e_WrongWidth
      fWrongWidth_have := by k_is
      fWrongWidth_need := by k_is
      xWrongWidth_PebbleError := xm_at e_PebbleError o_PebbleError (by k_is)
      tWrongWidth_BadCount := kit_ref e_BadCount o_BadCount (by decide) (by k_is)
      tWrongWidth_NoNode := kit_ref e_NoNode o_NoNode (by decide) (by k_is)
      tWrongWidth_BadPrice := kit_ref e_BadPrice o_BadPrice (by decide) (by k_is)
      tWrongWidth_BadParent := kit_ref e_BadParent o_BadParent (by decide) (by k_is)
      tWrongWidth_WrongWidth := kit_self
      tWrongWidth_ValueError := kit_VE (by k_is)
      eBadParent := e_BadParent
      fBadParent_at := by k_is
      xBadParent_PebbleError := xm_at e_PebbleError o_PebbleError (by k_is)
      tBadParent_BadCount := kit_ref e_BadCount o_BadCount (by decide) (by k_is)
      tBadParent_NoNode := kit_ref e_NoNode o_NoNode (by decide) (by k_is)
      tBadParent_BadPrice := kit_ref e_BadPrice o_BadPrice (by decide) (by k_is)
      tBadParent_BadParent := kit_self
      tBadParent_WrongWidth := kit_ref e_WrongWidth o_WrongWidth (by decide) (by k_is)
      tBadParent_ValueError := kit_VE (by k_is)
      eBadPrice := e_BadPrice
      fBadPrice_at := by k_is
      xBadPrice_PebbleError := xm_at e_PebbleError o_PebbleError (by k_is)
      tBadPrice_BadCount := kit_ref e_BadCount o_BadCount (by decide) (by k_is)
      tBadPrice_NoNode := kit_ref e_NoNode o_NoNode (by decide) (by k_is)
      tBadPrice_BadPrice := kit_self
      tBadPrice_BadParent := kit_ref e_BadParent o_BadParent (by decide) (by k_is)
      tBadPrice_WrongWidth := kit_ref e_WrongWidth o_WrongWidth (by decide) (by k_is)
      tBadPrice_ValueError := kit_VE (by k_is)
      iTree := ⟨by k_is, by k_is, by k_is, by k_is⟩ })
    (case lb => k_is); (case la => k_is)
#print axioms PySem.Challenge.cw_pebblesreach_k13_tree_line_holds
