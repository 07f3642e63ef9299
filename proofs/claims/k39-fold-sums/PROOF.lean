import PyProof.Rows.All
import Wide.All
import OpenK.AllK
import Wide.FinOn
import KE.KExcSuper
import HandS.ForMost
import HandS.ForExc
import HandS.ExcInit
import HandS.ExcField
import HandS.ExcIs
import HandS.IsInst
import KE.KExcIs
import HandS.Nested
import HandS.HotCalls
import KE.GoesEnum
import KE.GoesMore
import HandS.Walk
import KE.KTupSum
import HandS.Codes
import HandS.CallSlots
import HandS.Defaults
import HandS.MakeKw
import HandS.Wide
import HandS.Evl
import PySem.Challenge.RW_pebblesreach_k39_fold_sums
set_option Elab.async false
set_option linter.all false
set_option maxRecDepth 100000
set_option maxHeartbeats 4000000
/-! Errors of the package: __init__ begins with super().__init__(..); isinstance and fields of a caught error; calls within an except suite. -/
namespace SI
open PySem PySem.Spec PyProof.Rows L2 NdefX

/-! ### super().__init__(e0), then the rest -/
structure SupF (P : Program) (K : PySem.W.Frag) (mg : Str → Option Value) (C fI : Addr) (qual : Str) (params : Arguments) (e0 : Expr) (rest : List Stmt) (scope : Scope) (p0 p1 p2 p3 p4 : Pos) (fd : FuncData) : Prop where
  ex : ∃ (oc : Value) (od : Option Addr) (kV doc pm : Value) (an : Option Addr) (ct : Value) (osl : Array (Option Value)) (cc cda : Addr)
      (q1 : Value) (q2 : Option Addr) (q3 : Array (Option Value)) (r1 : Value) (r2 : Option Addr) (vs : Array Value) (r3 : Array (Option Value)) (file : Str) (tf : Tok),
    fd = PySem.W.fnX "__init__" qual params (.Expr (.Call (.Attribute (.Call (.Name "super" p0) [] [] p1) "__init__" p2) [e0] [] p3) p4 :: rest) scope [("__class__", cc)] .none kV doc pm an (.ref cda) ct ∧
    K.lookup fI = some ⟨oc, od, .func fd, osl⟩ ∧ PySem.W.codeIn K (.ref cda) qual = true ∧
    K.lookup cda = some ⟨r1, r2, .fields vs, r3⟩ ∧ vs[2]? = some (.str file tf) ∧ (P.main.file == file) = true ∧
    K.lookup cc = some ⟨q1, q2, .cell (some (.ref C)), q3⟩
  oex : OexC K C
  self : PySem.W.mroIn K C (.ref C) = some true
  sup : PySem.W.ks_superIn K C C "__init__" = some (some (.builtin "ValueError.__init__"))
  sub : PySem.W.subIn K (.ref C) (.type "ValueError") = some true
  mg0 : mg "super" = none
  any : PySem.W.nsIn K cStatics "thirdparty.any" = some none
  top : (P.main.scope.names.lookup ("super" : Str)).isSome = false

/-- ValueError.__init__ bound to the exception at x (the object at u), called -/
theorem call_mw {prog : Program} {w : World} {A : Around} {E : Value → Shared → Prop} {h : Heap} {g : Array GenState} {d : Drawn} {t : Nat} {os : OsState}
    {nm q : Str} {C N : Addr} {bs bm : List Value} {hdct : Bool} {sn : List Str} {sub : List Value} {ab : Bool} {col : Option Bool} {dd : Option Addr} {k0 k1 k2 k3 k5 : Option Value}
    {u x t0 : Addr} {rest : List Value} {Q : Value → Shared → Prop}
    (hC : h.get? C = some (excClassObj nm q C N bs bm hdct sn sub ab col dd k0 k1 k2 k3 k5 "ValueError.__new__")) (hx : h.get? x = some (PySem.HandSPX.excO C t0)) (hu : h.get? u = some (PySem.W.kxs_mw "ValueError.__init__" x)) (hz : rest.length ≤ sizeLine)
    (hq : ∀ h' t1, (∀ b o, b ≠ x → h.get? b = some o → h'.get? b = some o) → h'.get? x = some (PySem.HandSPX.excO C t1) → Q .none ⟨h', g, d, t, os⟩) :
    wpAny (model prog w) A (call (.ref u) rest) Q E ⟨h, g, d, t, os⟩ := by
  refine wpAny_call (codeAny_of_tree ?_)
  show wpAny _ A.in1 (callAny (.ref u) ⟨rest, []⟩) _ _ _
  simp only [callAny]
  refine wpAny_bind (wpAny_load hu ?_)
  simp only [PySem.W.kxs_mw, (by decide : (Value.type "method-wrapper" == Value.type "method" || Value.type "method-wrapper" == Value.type "builtin_function_or_method" || Value.type "method-wrapper" == Value.type "method-wrapper") = true), if_true]
  refine PySem.W.KFB.if_so (by decide) ?_
  refine wpAny_bind (PySem.W.check_bound_init F.excBase_ValueError.toExcCallFacts hC hx rfl ?_)
  refine wpAny_bind (wpAny_pure (wpAny_pure ?_))
  refine ⟨plainId_quiet F.excBase_ValueError.init.plain _, codeAny_builtin F.excBase_ValueError.initEntry ?_⟩
  rw [Around.under_plainId F.excBase_ValueError.init.plain _]
  wp_walk
  refine hq _ h.objs.size (fun b o hb ho => ?_) ?_
  · rw [Heap.get?_update_other _ _ (Ne.symm hb)]
    exact Heap.get?_push_of_some _ ho
  · rw [Heap.get?_update_self _ (Heap.get?_push_of_some _ hx) rfl]
    rfl

section
variable {CX : CXT} {P : Program} {w : World} {K : PySem.W.Frag} {mg : Str → Option Value} {base : Heap} {N ps : List Str} {k : Nat} {sp : Sp} {C fI : Addr} {qual : Str} {params : Arguments} {e0 : Expr} {rest : List Stmt} {scope : Scope} {p0 p1 p2 p3 p4 : Pos} {fd : FuncData}
def nf (qual : Str) (params : Arguments) (body : List Stmt) (scope : Scope) (cc cda : Addr) : NF := ⟨"__init__", qual, params, body, scope, [("__class__", cc)], cda⟩
theorem sup_ok (T : SupF P K mg C fI qual params e0 rest scope p0 p1 p2 p3 p4 fd) (S : NScope N ps ["__class__"] scope) {ar : Arg} (hp : (params.posonlyargs ++ params.args).head? = some ar) (hp0 : ps[0]? = some ar.arg) (hks : scope.names.lookup ("super" : Str) = some .globalImplicit)
    (hst : ∀ env : Env, starEach [e0] env = (false, eval e0 env) :: starEach [] env)
    (hcall : ∀ env : Env, eval (.Call (.Attribute (.Call (.Name "super" p0) [] [] p1) "__init__" p2) [e0] [] p3) env = (do
      let ov ← attributeBase (.Call (.Name "super" p0) [] [] p1) "__init__" env (eval (.Call (.Name "super" p0) [] [] p1) env)
      standAt p2.atName
      let (f, first) ← holding [ov] (getMethod ov "__init__" (do return (← importBound (.Call (.Name "super" p0) [] [] p1) env).getD true))
      callWith p3 f first (backTo p3 (starEach [e0] env)) [])) (len : ∀ vs H Q E, sp vs H Q E → vs.length = ps.length)
    (hbody : ∀ (X : Cx) (H : Hp) (vs : List V) (Q : VK) (E : XK), X.N = N → X.K = K → X.mg = mg → X.env.scope = scope → X.calm = true → sp vs H Q E →
      ∃ (a : Addr) (ta : TA) (t : TS), vs[0]? = some (.ref a) ∧ H a = some (exo a C none) ∧ PA X [e0] ta ∧ PSs X rest t ∧
        ta (startF N vs [some (.ref C)]) H (fun ws H1 => ws.length ≤ sizeLine ∧ H1 a = some (exo a C none) ∧ t { nx := fun _ H' => Q .non H', rt := Q } (startF N vs [some (.ref C)]) H1)) :
    FnOk P w K mg base CX (k + 1) fI fd ps sp := by
  obtain ⟨oc, od, kV, doc, pm, an, ct, osl, cc, cda, q1, q2, q3, r1, r2, vs2, r3, file, tf, rfl, lk, hcd, hcda, hfile, hmain, hcc⟩ := T.ex
  refine ⟨len, fun A outer s H args us vs Q E hr e0' hb r hsp => ?_⟩
  have hl := len _ _ _ _ hsp
  have KX : K.In s.heap := e0'.mod.kin.keeps fun b o e => (e0'.bs b o e).1
  have lim : s.heap.NoLimit := e0'.mod.nolimit.keeps fun b o e => (e0'.bs b o e).1
  have hcH : H cc = none := (e0'.bs cc _ (e0'.mod.kin _ _ hcc)).2
  have CA : CellsAt [(("__class__" : Str), cc)] ["__class__"] [some (V.ref C)] s.heap H := {
    len := rfl
    all := fun y c hy => by
      have e : (y, c) ∈ [(("__class__" : Str), cc)] := PySem.mem_of_lookup hy
      simp only [List.mem_singleton, Prod.mk.injEq] at e
      obtain ⟨_, rfl⟩ := e
      exact ⟨hcH, _, _, KX _ _ hcc, rfl⟩
    inj := fun x y c hx hy => by
      have ex : (x, c) ∈ [(("__class__" : Str), cc)] := PySem.mem_of_lookup hx
      have ey : (y, c) ∈ [(("__class__" : Str), cc)] := PySem.mem_of_lookup hy
      simp only [List.mem_singleton, Prod.mk.injEq] at ex ey
      rw [ex.1, ey.1]
    has := fun i y hy => by
      cases i with
      | succ j => simp at hy
      | zero =>
        have e : y = "__class__" := by simpa using hy.symm
        subst e
        refine ⟨cc, by rfl, fun v hv => ?_⟩
        have e : v = V.ref C := by simpa using hv.symm
        subst e
        exact ⟨.ref C, rfl, _, KX _ _ hcc, rfl⟩ }
  refine ks_codeAny_call_defAt (binds := ps.zip us) hr.depth (KX _ _ lk) rfl lim (PySem.W.codeRec_of KX hcd) rfl hb S.nocell (fun y hy => ?_) (fun h₁ hns kp => ?_) S.co S.gen S.kind
  · obtain ⟨n, v⟩ := y
    exact S.par n (List.of_mem_zip hy).1
  let body0 : List Stmt := .Expr (.Call (.Attribute (.Call (.Name "super" p0) [] [] p1) "__init__" p2) [e0] [] p3) p4 :: rest
  let X : Cx := ncx CX P w K mg base N (nf qual params body0 scope cc cda) fI A outer s H E
  have I : Inv X [] (startF N vs [some (.ref C)]) H { s with heap := h₁, toks := s.toks + (ps.zip us).length } := inv_startN (F := nf qual params body0 scope cc cda) S hr.hd e0' hl r CA hns kp
  obtain ⟨a, ta, t, hv0, hHa, hpa, hps, hq⟩ := hbody X H vs Q E rfl rfl rfl rfl rfl hsp
  obtain ⟨ua, hua, rua⟩ := r.get hv0
  obtain rfl : ua = Value.ref a := rua
  obtain ⟨nm, q, N', bs, bm, sn, sub, ab, col, dd, k0, k1, k2, k3, k5, hC, hbm⟩ := T.oex.cls
  have hcl : PySem.W.clsIn K C = some { name := nm, bases := bs, mro := .ref C :: bm, ns := N', qualname := q, hasDict := true, slotNames := sn, subclasses := sub, abstract := ab, collection := col, hasDel := false } := by unfold PySem.W.clsIn; rw [hC] <;> rfl
  have X1 : K.In h₁ := KX.keeps kp
  have hkfree : scope.names.lookup ("__class__" : Str) = some .free := S.frk _ (by simp)
  have ndP : ps.Nodup := by
    have q := S.nd.sublist (List.take_sublist (ps.length + 1) N)
    have e := S.pre
    simp only [List.length_singleton] at e
    rw [e] at q
    exact (List.nodup_append.mp q).1
  refine ks_wpAt_execs_cons (ks_wpAt_Expr_any (ks_wpAt_MethodCall (ks_wpAt_super_base hks hkfree (by decide) rfl (X1 _ _ lk) rfl hp rfl (X1 _ _ hcda) rfl hfile hmain T.top ?_) (hcall _)) I.quiet rfl)
  obtain ⟨mb, hb1, hb2⟩ := I.mod.blt
  refine PySem.W.ks_loadName_global S.kind hks (Calls.loadGlobal_builtin (I.mod.glob.keeps I.bk) T.mg0 (hb1.keeps I.bk) ((hb2 "super" (by decide)).trans (by decide +kernel)) ⟨rfl, ?_⟩)
  refine wpAny_loadName_free S.kind hkfree (by rfl) ⟨_, X1 _ _ hcc, rfl⟩ ?_
  have hka : scope.names.lookup ar.arg = some .local := S.par _ (List.mem_of_getElem? hp0)
  refine wpAny_loadName_local S.kind hka hns (zip_look ndP hp0 hua) ?_
  have hD := X1 _ _ hC
  refine ks_wpAny_isType_cls hD rfl ⟨rfl, ?_⟩
  obtain ⟨t1, hx⟩ := exo_at I.hok hHa
  refine ks_wpAny_call_super hD rfl hx rfl (fun c z => by cases z) (PySem.W.looks_mroIn X1 T.self) (fun h2 hso k2 => ?_)
  have X2 : K.In h2 := X1.keeps k2
  have hx2 := k2 _ _ hx
  have IA : PySem.W.InstAt h2 a { cls := .ref C, dict := none, data := .fields #[.ref t1, .none, .none, .none, .bool false, .none] } C none := ⟨hx2, rfl, rfl, trivial⟩
  have hsup : PySem.W.alongIn K "__init__" (((Value.ref C :: bm).dropWhile (· != .ref C)).drop 1) = some (some (.builtin "ValueError.__init__")) := by
    have z := T.sup
    unfold PySem.W.ks_superIn at z
    rw [hcl] at z
    exact z
  refine PySem.W.kxs_getMethod PySem.W.kxs_ValueError hso (PySem.W.looks_opaque X2 T.any) (l₀ := Value.ref C :: bm) (fun A Q E s k q => wpAny_bind ((PySem.W.looks_clsIn X2 hcl) A _ E s k (wpAny_pure q))) rfl X2 hsup (IA.type.andThen (PySem.W.looks_subIn X2 T.sub)) (PySem.W.ks_ne X2 IA hcl) (by decide +kernel) ?_
  have I2 : Inv X [] (startF N vs [some (.ref C)]) H { s with heap := h2, toks := s.toks + (ps.zip us).length } := I.kept (t' := s.toks + (ps.zip us).length) k2
  have I3 : Inv X [] (startF N vs [some (.ref C)]) H { s with heap := h2.push (PySem.W.kxs_mw "ValueError.__init__" a), toks := s.toks + (ps.zip us).length + 1 } := I2.kept (t' := s.toks + (ps.zip us).length + 1) fun b o z => Heap.get?_push_of_some _ z
  have I4 : Inv X [(h2.objs.size, PySem.W.kxs_mw "ValueError.__init__" a)] (startF N vs [some (.ref C)]) H { s with heap := h2.push (PySem.W.kxs_mw "ValueError.__init__" a), toks := s.toks + (ps.zip us).length + 1 } :=
    ⟨I3.ok, I3.os, I3.bare, I3.base, I3.loc, I3.cell, I3.free, I3.freeC, fun p hp => by
      have e : p = (h2.objs.size, PySem.W.kxs_mw "ValueError.__init__" a) := by
        have z : p ∈ ([] : List (Addr × Obj)) ++ [(h2.objs.size, PySem.W.kxs_mw "ValueError.__init__" a)] := hp
        simpa using z
      subst e
      exact ⟨Heap.get?_push_at rfl rfl, I2.hok.fresh (Nat.le_refl _), Nat.ne_of_gt I2.lt, I2.nofs (Nat.le_refl _), fun v z => by cases z⟩, I3.hok, I3.len⟩
  have run := hpa.run p3 _ _ _ _ _ I4 hq
  refine PySem.W.kxs_callWith (i := "ValueError.__init__") (x := a) ?_ ?_
  · rw [hst]
    rfl
  · have e1 := hst X.env
    rw [hst]
    rw [e1] at run
    refine Calls.evalArgs_plain (thn run fun us2 s1 hh => ?_)
    obtain ⟨ws, H1, I5, r5, hz, hx5, ht⟩ := hh
    have pu := I5.pin (h2.objs.size, PySem.W.kxs_mw "ValueError.__init__" a) (by simp)
    refine ⟨pu.1, ?_⟩
    obtain ⟨t5, ho5⟩ := exo_at I5.hok hx5
    obtain ⟨hp5, g5, d5, tk5, os5⟩ := s1
    have hC5 : hp5.get? C = _ := I5.kIn _ _ hC
    refine call_mw hC5 ho5 pu.1 (by show us2.length ≤ sizeLine; rw [← Paired.length r5]; exact hz) fun h6 t6 k6 hx6 => ?_
    have I6 := I5.write (t' := tk5) (x := a) (e := a) (o := exo a C none) (by rw [hx5]; exact True.intro) (.inl rfl) k6 ⟨_, hx6⟩ (exo_ok hx6)
    have eu : upd H1 a (exo a C none) = H1 := by
      funext b
      by_cases hb : b = a
      · rw [hb, upd_same, hx5]
      · rw [upd_ne hb]
    rw [eu] at I6
    have I7 : Inv X [] (startF N vs [some (.ref C)]) H1 ⟨h6, g5, d5, tk5, os5⟩ := ⟨I6.ok, I6.os, I6.bare, I6.base, I6.loc, I6.cell, I6.free, I6.freeC, fun p hp => absurd (show p ∈ ([] : List (Addr × Obj)) ++ [] from hp) (by simp), I6.hok, I6.len⟩
    refine PySem.wpAt_of_wpAny (wpAny_mono (hps.run [] _ _ _ _ I7 ht) (fun fl s' hs => ?_) fun e s' hs => hs)
    have fin : ∀ {σ' : L2.St} {H' : Hp} {v : V} {u : Value}, Inv X [] σ' H' s' → L2.RelV v u → Q v H' → CE outer P w H s Q u s' :=
      fun {σ' H' v u} J rv q => ⟨v, H', J.os, J.bare, J.base, J.hok, rv, q⟩
    cases fl with
    | ret u =>
      obtain ⟨v, σ', H', J, rv, q⟩ := hs
      exact fin J rv q
    | next =>
      obtain ⟨σ', H', J, q⟩ := hs
      exact fin (v := V.non) (u := Value.none) J rfl q
    | brk => exact hs.choose_spec.choose_spec.2.elim
    | cont => exact hs.choose_spec.choose_spec.2.elim
end

/-! ### __init__ with one field, with two fields -/
section
variable {CX : CXT} {P : Program} {w : World} {K : PySem.W.Frag} {mg : Str → Option Value} {base : Heap} {k : Nat} {C fI : Addr} {qual : Str} {params : Arguments} {e0 : Expr} {scope : Scope} {p0 p1 p2 p3 p4 : Pos} {fd : FuncData} {x y f g : Str} {a1 a2 a3 a4 b1 b2 b3 b4 pe pf pg ph pi : Pos} {z z2 : Str} {j j2 : Nat} {ar : Arg}
/-- the call super().__init__(e0), by its places -/
abbrev SupCall (e0 : Expr) (p0 p1 p2 p3 : Pos) : Prop := ∀ env : Env, eval (.Call (.Attribute (.Call (.Name "super" p0) [] [] p1) "__init__" p2) [e0] [] p3) env = (do
      let ov ← attributeBase (.Call (.Name "super" p0) [] [] p1) "__init__" env (eval (.Call (.Name "super" p0) [] [] p1) env)
      standAt p2.atName
      let (f, first) ← holding [ov] (getMethod ov "__init__" (do return (← importBound (.Call (.Name "super" p0) [] [] p1) env).getD true))
      callWith p3 f first (backTo p3 (starEach [e0] env)) [])
def spE1 (C : Addr) (f : Str) : Sp := fun vs H Q _ => ∃ (a : Addr) (y : V), vs = [.ref a, y] ∧ H a = some (exo a C none) ∧ ∀ d, H d = none → d ≠ a → Q .non (upd (upd H d (exd d [(f, y)])) a (exo a C (some d)))
def spE2 (C : Addr) (f g : Str) (ok : V → Prop) : Sp := fun vs H Q _ => ∃ (a : Addr) (y z : V), vs = [.ref a, y, z] ∧ ok y ∧ H a = some (exo a C none) ∧
  ∀ d, H d = none → d ≠ a → Q .non (upd (upd (upd H d (exd d [(f, y)])) a (exo a C (some d))) d (exd d [(g, z), (f, y)]))
theorem err1_ok (T : SupF P K mg C fI qual params (.Constant (.str z) j pe) [.Assign [.Attribute (.Name "self" a1) f a2] (.Name x a3) a4] scope p0 p1 p2 p3 p4 fd) (S : NScope ["self", x, "__class__"] ["self", x] ["__class__"] scope)
    (hp : (params.posonlyargs ++ params.args).head? = some ar) (har : ar.arg = "self") (hks : scope.names.lookup ("super" : Str) = some .globalImplicit) (hno : PySem.W.findIn K (.ref C) f = some none) (hcall : SupCall (.Constant (.str z) j pe) p0 p1 p2 p3)
    (hx1 : (x == ("__debug__" : Str)) = false) (hx2 : (x == ("__classdict__" : Str)) = false) :
    FnOk P w K mg base CX (k + 1) fI fd ["self", x] (spE1 C f) := by
  refine sup_ok T S hp (by rw [har] <;> rfl) hks (fun _ => rfl) hcall (fun vs H Q E h => ?_) fun X H vs Q E eN eK em es ec h => ?_
  · obtain ⟨a, y, rfl, _⟩ := h
    rfl
  · obtain ⟨a, y, rfl, ha, q⟩ := h
    subst eK
    have n0 : X.N[0]? = some ("self" : Str) := by rw [eN] <;> rfl
    have n1 : X.N[1]? = some x := by rw [eN] <;> rfl
    have v0 : Vis X.env.scope "self" := by rw [es]; exact .inl (S.par _ (by simp))
    have v1 : Vis X.env.scope x := by rw [es]; exact .inl (S.par _ (by simp))
    refine ⟨a, _, _, rfl, ha, pa_cons pe_str pa_nil, pss_one (ps_ost (pv 0 n0 v0) (pe_var n1 v1 hx1 hx2)), ?_⟩
    refine ⟨by show 1 ≤ sizeLine; decide, ha, ?_⟩
    exact ⟨_, rfl, _, rfl, a, C, rfl, T.oex, hno, .inl ⟨ha, fun dx n ne => q dx n ne⟩⟩
theorem err2_ok (T : SupF P K mg C fI qual params (.Constant (.str z) j pe) [.Assign [.Attribute (.Name "self" a1) f a2] (.Name x a3) a4, .Assign [.Attribute (.Name "self" b1) g b2] (.Name y b3) b4] scope p0 p1 p2 p3 p4 fd)
    (S : NScope ["self", x, y, "__class__"] ["self", x, y] ["__class__"] scope)
    (hp : (params.posonlyargs ++ params.args).head? = some ar) (har : ar.arg = "self") (hks : scope.names.lookup ("super" : Str) = some .globalImplicit) (hno : PySem.W.findIn K (.ref C) f = some none) (hno2 : PySem.W.findIn K (.ref C) g = some none) (hcall : SupCall (.Constant (.str z) j pe) p0 p1 p2 p3)
    (hx1 : (x == ("__debug__" : Str)) = false) (hx2 : (x == ("__classdict__" : Str)) = false) (hy1 : (y == ("__debug__" : Str)) = false) (hy2 : (y == ("__classdict__" : Str)) = false) :
    FnOk P w K mg base CX (k + 1) fI fd ["self", x, y] (spE2 C f g fun _ => True) := by
  refine sup_ok T S hp (by rw [har] <;> rfl) hks (fun _ => rfl) hcall (fun vs H Q E h => ?_) fun X H vs Q E eN eK em es ec h => ?_
  · obtain ⟨a, y, z, rfl, _⟩ := h
    rfl
  · obtain ⟨a, u, v, rfl, _, ha, q⟩ := h
    subst eK
    have n0 : X.N[0]? = some ("self" : Str) := by rw [eN] <;> rfl
    have n1 : X.N[1]? = some x := by rw [eN] <;> rfl
    have n2 : X.N[2]? = some y := by rw [eN] <;> rfl
    have v0 : Vis X.env.scope "self" := by rw [es]; exact .inl (S.par _ (by simp))
    have v1 : Vis X.env.scope x := by rw [es]; exact .inl (S.par _ (by simp))
    have v2 : Vis X.env.scope y := by rw [es]; exact .inl (S.par _ (by simp))
    refine ⟨a, _, _, rfl, ha, pa_cons pe_str pa_nil, pss_cons (ps_ost (pv 0 n0 v0) (pe_var n1 v1 hx1 hx2)) (pss_one (ps_ost (pv 0 n0 v0) (pe_var n2 v2 hy1 hy2))), ?_⟩
    refine ⟨by show 1 ≤ sizeLine; decide, ha, ?_⟩
    exact ⟨_, rfl, _, rfl, a, C, rfl, T.oex, hno, .inl ⟨ha, fun dx n ne => ⟨_, rfl, _, rfl, a, C, rfl, T.oex, hno2, .inr ⟨dx, _, upd_same, (by rw [upd_ne ne, upd_same]), (by show 1 ≤ 900; decide), q dx n ne⟩⟩⟩⟩
/-- BadCount: the text is made of the first argument -/
theorem errB_ok (T : SupF P K mg C fI qual params (.BinOp (.BinOp (.Constant (.str z) j pe) .Add (.Name x pf) pg) .Add (.Constant (.str z2) j2 ph) pi)
      [.Assign [.Attribute (.Name "self" a1) f a2] (.Name x a3) a4, .Assign [.Attribute (.Name "self" b1) g b2] (.Name y b3) b4] scope p0 p1 p2 p3 p4 fd)
    (S : NScope ["self", x, y, "__class__"] ["self", x, y] ["__class__"] scope) (hz : z.length ≤ 100) (hz2 : z2.length ≤ 100)
    (hp : (params.posonlyargs ++ params.args).head? = some ar) (har : ar.arg = "self") (hks : scope.names.lookup ("super" : Str) = some .globalImplicit) (hno : PySem.W.findIn K (.ref C) f = some none) (hno2 : PySem.W.findIn K (.ref C) g = some none)
    (hcall : SupCall (.BinOp (.BinOp (.Constant (.str z) j pe) .Add (.Name x pf) pg) .Add (.Constant (.str z2) j2 ph) pi) p0 p1 p2 p3)
    (hx1 : (x == ("__debug__" : Str)) = false) (hx2 : (x == ("__classdict__" : Str)) = false) (hy1 : (y == ("__debug__" : Str)) = false) (hy2 : (y == ("__classdict__" : Str)) = false) :
    FnOk P w K mg base CX (k + 1) fI fd ["self", x, y] (spE2 C f g fun v => ∃ t : Str, v = .str t ∧ t.length ≤ 1000) := by
  refine sup_ok T S hp (by rw [har] <;> rfl) hks (fun _ => rfl) hcall (fun vs H Q E h => ?_) fun X H vs Q E eN eK em es ec h => ?_
  · obtain ⟨a, y, z, rfl, _⟩ := h
    rfl
  · obtain ⟨a, u, v, rfl, ⟨t, rfl, ht⟩, ha, q⟩ := h
    subst eK
    have n0 : X.N[0]? = some ("self" : Str) := by rw [eN] <;> rfl
    have n1 : X.N[1]? = some x := by rw [eN] <;> rfl
    have n2 : X.N[2]? = some y := by rw [eN] <;> rfl
    have v0 : Vis X.env.scope "self" := by rw [es]; exact .inl (S.par _ (by simp))
    have v1 : Vis X.env.scope x := by rw [es]; exact .inl (S.par _ (by simp))
    have v2 : Vis X.env.scope y := by rw [es]; exact .inl (S.par _ (by simp))
    refine ⟨a, _, _, rfl, ha, pa_cons (pe_op op_add_str (pe_op op_add_str pe_str (pe_var n1 v1 hx1 hx2)) pe_str) pa_nil, pss_cons (ps_ost (pv 0 n0 v0) (pe_var n1 v1 hx1 hx2)) (pss_one (ps_ost (pv 0 n0 v0) (pe_var n2 v2 hy1 hy2))), ?_⟩
    have l1 : z.length + t.length ≤ sizeLine := by rw [sizeLine_eq]; omega
    have l2 : (z ++ t).length + z2.length ≤ sizeLine := by
      have e : (z ++ t).length = z.length + t.length := by simp [PySem.Str.length_append]
      rw [e, sizeLine_eq]; omega
    refine ⟨_, rfl, _, _, rfl, rfl, l1, _, _, rfl, rfl, l2, ?_⟩
    refine ⟨by show 1 ≤ sizeLine; decide, ha, ?_⟩
    exact ⟨_, rfl, _, rfl, a, C, rfl, T.oex, hno, .inl ⟨ha, fun dx n ne => ⟨_, rfl, _, rfl, a, C, rfl, T.oex, hno2, .inr ⟨dx, _, upd_same, (by rw [upd_ne ne, upd_same]), (by show 1 ≤ 900; decide), q dx n ne⟩⟩⟩⟩
end
end SI
set_option maxRecDepth 100000
set_option maxHeartbeats 4000000
namespace SI
open PySem PySem.Spec PyProof.Rows L2 NdefX
/-! ### raising such an error: one reading for all classes -/
def mono (ta : TA) : TA := fun σ H Q => ∃ Q' : List V → Hp → Prop, ta σ H Q' ∧ ∀ vs H1, Q' vs H1 → Q vs H1
theorem pa_mono {X : Cx} {es : List Expr} {ta : TA} (h : PA X es ta) : PA X es (mono ta) := ⟨fun pos pins s σ H Q I ⟨Q', q, m⟩ => thn (h.run pos pins s σ H Q' I q) fun us s1 ⟨vs, H1, I1, r1, q1⟩ => ⟨vs, H1, I1, r1, m vs H1 q1⟩⟩
/-- C(..): the error's own dict is new, it holds the fields -/
def tErr (C : Addr) (mk : List V → List (Str × V) → Prop) (ta : TA) : L2.St → Hp → XK → Prop := fun σ H Q => ta σ H fun vs H1 => ∃ fs, mk vs fs ∧ ∀ d, H1 d = none → Q (.ref C) (some d) (upd H1 d (.xd fs))
theorem err_heap {H1 : Hp} {a d : Addr} {o1 o2 u : HO} (ha : H1 a = none) (hd : H1 d = none) (ne : d ≠ a) : upd (del (upd (upd H1 d o1) a o2) a) d u = upd H1 d u := by
  funext b
  by_cases hb : b = d
  · rw [hb, upd_same, upd_same]
  · rw [upd_ne hb, upd_ne hb]
    by_cases hc : b = a
    · rw [hc, del_same, ha]
    · rw [del_ne hc, upd_ne hc, upd_ne hb]
theorem err_heap2 {H1 : Hp} {a d : Addr} {o1 o2 o3 u : HO} (ha : H1 a = none) (hd : H1 d = none) (ne : d ≠ a) : upd (del (upd (upd (upd H1 d o1) a o2) d o3) a) d u = upd H1 d u := by
  funext b
  by_cases hb : b = d
  · rw [hb, upd_same, upd_same]
  · rw [upd_ne hb, upd_ne hb]
    by_cases hc : b = a
    · rw [hc, del_same, ha]
    · rw [del_ne hc, upd_ne hb, upd_ne hc, upd_ne hb]
theorem upd_comm0 {H1 : Hp} {a d : Addr} {u : HO} (ne : d ≠ a) (o : HO) : upd (upd H1 a o) d u = upd (upd H1 d u) a o := by
  funext b
  by_cases hb : b = d
  · subst hb
    rw [upd_same, upd_ne ne, upd_same]
  · rw [upd_ne hb]
    by_cases hc : b = a
    · rw [hc, upd_same, upd_same]
    · rw [upd_ne hc, upd_ne hc, upd_ne hb]
def mk1 (f : Str) : List V → List (Str × V) → Prop := fun vs fs => ∃ y, vs = [y] ∧ fs = [(f, y)]
def mk2 (f g : Str) (ok : V → Prop) : List V → List (Str × V) → Prop := fun vs fs => ∃ y z, vs = [y, z] ∧ ok y ∧ fs = [(g, z), (f, y)]
section
variable {X : Cx} {CX : CXT} {x f g : Str} {C fI : Addr} {k : Nat} {fd : FuncData} {ps : List Str} {e : Expr} {es : List Expr} {ta : TA} {p pos : Pos} {ok : V → Prop}
theorem pmk_e1 {y : Str} (T : OexC X.K C) (iC : PySem.W.findIn X.K (.ref C) "__init__" = some (some (.ref fI))) (tI : PySem.W.typeIn X.K (.ref fI) = some (.type "function"))
    (F1 : FnOk X.prog X.w X.K X.mg X.base CX k fI fd ["self", y] (spE1 C f)) (hr : Room (k + 1) X.A) (hb : Binds X.K fd ["self", y] []) (hx : Passes CX X (fun _ _ _ => False)) (hg : Gl X x) (hm : X.mg x = some (.ref C)) (ha : PA X (e :: es) ta)
    (hdb : (x == ("__debug__" : Str)) = false := by decide) (he : starEach (e :: es) X.env = (false, eval e X.env) :: starEach es X.env := by rfl) (hpl : (backTo pos (starEach es X.env)).any (·.1) = false := by rfl) :
    PMk X (.Call (.Name x p) (e :: es) [] pos) (tErr C (mk1 f) ta) := by
  have R := pmk_oex (pos := pos) (p := p) T iC tI F1 hr hb .nil hx hg hm (pa_mono ha) hdb he hpl
  intro pins s σ H Q I h
  refine R pins s σ H Q I ⟨_, h, ?_⟩
  rintro vs H1 ⟨fs, ⟨y, rfl, rfl⟩, q⟩
  refine ⟨by show 1 ≤ 1000; decide, fun a na => ?_⟩
  refine ⟨a, y, rfl, upd_same, fun d hd ne => ⟨rfl, d, [(f, y)], upd_same, by rw [upd_ne ne, upd_same], ?_, ?_⟩⟩
  · rw [upd_ne ne] at hd
    exact hd
  · have hd' : H1 d = none := by
      rw [upd_ne ne] at hd
      exact hd
    have e1 : upd (del (upd (upd (upd H1 a (exo a C none)) d (exd d [(f, y)])) a (exo a C (some d))) a) d (HO.xd [(f, y)]) = upd H1 d (.xd [(f, y)]) := by
      rw [upd_comm0 ne, upd_upd]
      exact err_heap na hd' ne
    rw [e1]
    exact q d hd'
theorem pmk_e2 {y z : Str} (T : OexC X.K C) (iC : PySem.W.findIn X.K (.ref C) "__init__" = some (some (.ref fI))) (tI : PySem.W.typeIn X.K (.ref fI) = some (.type "function"))
    (F1 : FnOk X.prog X.w X.K X.mg X.base CX k fI fd ["self", y, z] (spE2 C f g ok)) (hr : Room (k + 1) X.A) (hb : Binds X.K fd ["self", y, z] []) (hx : Passes CX X (fun _ _ _ => False)) (hg : Gl X x) (hm : X.mg x = some (.ref C)) (ha : PA X (e :: es) ta)
    (hdb : (x == ("__debug__" : Str)) = false := by decide) (he : starEach (e :: es) X.env = (false, eval e X.env) :: starEach es X.env := by rfl) (hpl : (backTo pos (starEach es X.env)).any (·.1) = false := by rfl) :
    PMk X (.Call (.Name x p) (e :: es) [] pos) (tErr C (mk2 f g ok) ta) := by
  have R := pmk_oex (pos := pos) (p := p) T iC tI F1 hr hb .nil hx hg hm (pa_mono ha) hdb he hpl
  intro pins s σ H Q I h
  refine R pins s σ H Q I ⟨_, h, ?_⟩
  rintro vs H1 ⟨fs, ⟨y, z, rfl, hok, rfl⟩, q⟩
  refine ⟨by show 2 ≤ 1000; decide, fun a na => ?_⟩
  refine ⟨a, y, z, rfl, hok, upd_same, fun d hd ne => ⟨rfl, d, [(g, z), (f, y)], by rw [upd_ne (Ne.symm ne), upd_same], upd_same, ?_, ?_⟩⟩
  · rw [upd_ne ne] at hd
    exact hd
  · have hd' : H1 d = none := by
      rw [upd_ne ne] at hd
      exact hd
    have e1 : upd (del (upd (upd (upd (upd H1 a (exo a C none)) d (exd d [(f, y)])) a (exo a C (some d))) d (exd d [(g, z), (f, y)])) a) d (HO.xd [(g, z), (f, y)]) = upd H1 d (.xd [(g, z), (f, y)]) := by
      rw [upd_comm0 ne (exo a C none), upd_upd]
      exact err_heap2 na hd' ne
    rw [e1]
    exact q d hd'
end

/-! ### a caught error: isinstance, its fields -/
structure ErrC (K : PySem.W.Frag) (C : Addr) : Prop where
  cl : (PySem.W.clsIn K C).isSome = true
  ga : PySem.W.findIn K (.ref C) "__getattribute__" = some (some (.builtin "BaseException.__getattribute__"))
  gg : PySem.W.findIn K (.ref C) "__getattr__" = some none
  exC : PySem.W.subIn K (.ref C) (.type "BaseException") = some true
  hd : PySem.W.hasDictIn K C = true
  ac : PySem.W.findIn K (.ref C) "__class__" = some (some (.builtin "object.__class__"))
  mo : PySem.W.mroIn K C (.type "object") = some true
structure ErrK (K : PySem.W.Frag) : Prop where
  hn : PySem.W.specialIn K (.builtin "object.__class__") "__get__" = some (some (.builtin "getset_descriptor.__get__"))
  ht : PySem.W.takesIn K (.builtin "object.__class__") = some true
def rIsX (K : PySem.W.Frag) (a : Addr) (cls : Value) (d : Option Addr) : List V → Hp → VK → Prop := fun xs H Q => ∃ (D : Addr) (c : V) (cv : Value) (b : Bool), cls = .ref D ∧ ErrC K D ∧ xs = [.ref a, c] ∧ ClsV c cv ∧ PySem.W.kitOne K cls cv = some b ∧
  (∀ dd, d = some dd → ∃ fs, H dd = some (.xd fs)) ∧ Q (.bl b) H
theorem call_isX {X : Cx} {a : Addr} {oe : Obj} {cls : Value} {d : Option Addr} (EK : ErrK X.K) (hp : (a, oe) ∈ X.pn) (hz : Zc cls d oe) (hf : ∃ vs, oe.data = .fields vs) : CallR X (.builtin "isinstance") (rIsX X.K a cls d) := by
  intro pins s σ H xs us Q I r h
  obtain ⟨D, c, cv, b, ecls, C, rfl, hcv, e, hd, q⟩ := h
  cases r with
  | cons rx rr =>
    cases rr with
    | cons rt rr =>
      cases rr
      cases rx
      have ec := hcv.eq rt
      subst ec
      subst ecls
      obtain ⟨hget, _⟩ := I.pin (a, oe) (List.mem_append_left _ hp)
      obtain ⟨vs, hv⟩ := hf
      obtain ⟨od, J⟩ : ∃ od, PySem.W.InstAt s.heap a oe D od := by
        obtain ⟨oc, odi, oda, osl⟩ := oe
        obtain ⟨h1, h2⟩ := hz
        dsimp only at h1 h2 hv
        subst h1 h2 hv
        cases odi with
        | none => exact ⟨none, hget, rfl, rfl, trivial⟩
        | some dd =>
          obtain ⟨fs, hfs⟩ := hd dd rfl
          have hx : ObjOk X.prog X.w H s.heap dd (.xd fs) := I.hok dd _ hfs
          obtain ⟨mA, ⟨o, es, ep, ho, _⟩, _⟩ := hx
          exact ⟨some o, hget, rfl, rfl, ho⟩
      exact PySem.W.kia_one (PySem.W.kitx_exc C.cl C.ga C.gg C.exC C.ac EK.hn EK.ht C.mo) I.kIn J e (fun z => nomatch z) fun tk => ⟨.bl b, H, I.kept (t' := tk) fun _ _ z => z, rfl, q⟩
/-- e.f -/
def tErrF (K : PySem.W.Frag) (a : Addr) (cls : Value) (d : Option Addr) (f : Str) (te : TE) : TE := fun σ H Q => ∃ (C dd : Addr), cls = .ref C ∧ ErrC K C ∧ PySem.W.findIn K (.ref C) f = some none ∧ d = some dd ∧
  te σ H fun x H1 => x = .ref a ∧ ∃ (fs : List (Str × V)) (v : V), H1 dd = some (.xd fs) ∧ fs.lookup f = some v ∧ Q v H1
theorem pe_errF {X : Cx} {a : Addr} {oe : Obj} {cls : Value} {d : Option Addr} {e : Expr} {te : TE} {pos : Pos} {n : Str} (hp : (a, oe) ∈ X.pn) (hz : Zc cls d oe) (hf : ∃ vs, oe.data = .fields vs) (he : PE X e te) (hb : attributeBase e n X.env (eval e X.env) = eval e X.env := by rfl) :
    PE X (.Attribute e n pos) (tErrF X.K a cls d n te) := by
  refine ⟨fun pins s σ H Q I h => ?_⟩
  obtain ⟨C, dd, ec, T, hno, ed, h⟩ := h
  subst ec
  refine attr_of hb (thn (he.run pins s σ H _ I h) fun u s1 hh => ?_)
  obtain ⟨x, H1, I1, rx, ex, fs, v, ea, l, q⟩ := hh
  subst ex
  obtain rfl : u = Value.ref a := rx
  subst ed
  obtain ⟨ha, _⟩ := I1.pin (a, oe) (List.mem_append_left _ hp)
  obtain ⟨vs, hd⟩ := hf
  have hx : ObjOk X.prog X.w H1 s1.heap dd (.xd fs) := I1.hok dd _ ea
  obtain ⟨mA, hns, hr⟩ := hx
  obtain ⟨od, ho, hl⟩ := lookIn_ns hns
  obtain ⟨u, hu, ru⟩ := RelO.some_of (v := v) (o := mA n) (by rw [← l]; exact hr n)
  have J : PySem.W.InstAt s1.heap a oe C (some od) := ⟨ha, hz.1, by unfold PySem.W.notCls; rw [hd] <;> rfl, by rw [hz.2]; exact ho⟩
  exact HandSPX.exc_get I1.kIn J T.ga T.gg T.exC (PySem.W.findObj_own T.hd hno rfl (by rw [hl, hu])) (handed_of ru) ⟨v, H1, I1.tok _, ru, q⟩
end SI
set_option maxRecDepth 100000
set_option maxHeartbeats 4000000
namespace SI
open PySem PySem.Spec PyProof.Rows L2 NdefX L2H
/-! ### defs called while an exception p is handled; p may be handed on -/
structure FnW (P : Program) (w : World) (K : PySem.W.Frag) (mg : Str → Option Value) (base : Heap) (CX : CXT) (k : Nat) (f : Addr) (fd : FuncData) (ps : List Str) (sp : Addr × Obj → Sp) : Prop where
  len : ∀ p vs H Q E, sp p vs H Q E → vs.length = ps.length
  run : ∀ (A : Around) (outer : List Env) (s : Shared) (H : Hp) (args : Args) (us : List Value) (vs : List V) (Q : VK) (E : XK) (p : Addr × Obj), RoomH k A → PinOk outer H s p → Env0 P w K mg base A outer s H → BindsTo s fd args (ps.zip us) → Vals vs us → sp p vs H Q E →
    codeAny (model P w) A (.call (.ref f) args) (CR CX outer P w H s Q E) s
theorem fn_ofW {CX : CXT} {P : Program} {w : World} {K : PySem.W.Frag} {mg : Str → Option Value} {base : Heap} {k : Nat} {f : Addr} {name qual : Str} {params : Arguments} {body : List Stmt} {scope : Scope} {dV kV doc pm cdv ct oc : Value} {an od : Option Addr}
    {osl : Array (Option Value)} {N ps : List Str} {sp : Addr × Obj → Sp} (lk : K.lookup f = some ⟨oc, od, .func (PySem.W.fnOf name qual params body scope dV kV doc pm an cdv ct), osl⟩) (hcd : PySem.W.codeIn K cdv qual = true) (S : FnScope N ps scope)
    (len : ∀ p vs H Q E, sp p vs H Q E → vs.length = ps.length)
    (hbody : ∀ (A : Around) (outer : List Env) (s : Shared) (H : Hp) (vs : List V) (Q : VK) (E : XK) (p : Addr × Obj), RoomH k (A.deeper (envOfC qual scope s.heap.objs.size f cdv)) → sp p vs H Q E →
      ∃ t, PSs (cxH CX P w K mg base N qual scope f cdv A outer s H E p) body t ∧ t { nx := fun _ H' => Q .non H', rt := Q } (L2.start N vs) H) :
    FnW P w K mg base CX (k + 1) f (PySem.W.fnOf name qual params body scope dV kV doc pm an cdv ct) ps sp := by
  refine ⟨len, fun A outer s H args us vs Q E p hr hpin e0 hb r hsp => ?_⟩
  have hl := len _ _ _ _ _ hsp
  have KX : K.In s.heap := e0.mod.kin.keeps fun b o e => (e0.bs b o e).1
  have lim : s.heap.NoLimit := e0.mod.nolimit.keeps fun b o e => (e0.bs b o e).1
  have hkind : ∀ y ∈ ps.zip us, scope.names.lookup y.1 = some .local ∨ (scope.names.lookup y.1 = some .cell ∧ ((cellsFrom (s.heap.objs.size + 1) scope.names []).lookup y.1).isSome = true) := fun ⟨n, v⟩ hy =>
    (S.par n (List.of_mem_zip hy).1).elim .inl fun q => .inr ⟨q, PySem.W.cellsFrom_some _ _ _ (.inl q)⟩
  refine codeAny_call_function hr.depth (KX _ _ lk) rfl S.co S.gen rfl (PySem.W.codeRec_of KX hcd) (hb _ _ _ _ (wpAny_newFunctionEnv_cells S.kind hkind fun env he s1 x => ?_))
  subst he
  obtain ⟨t, ht, hq⟩ := hbody A outer s H vs Q E p (hr.deeper _) hsp
  have I : Inv (cxH CX P w K mg base N qual scope f cdv A outer s H E p) [] (L2.start N vs) H s1 := inv_startH S hpin e0 hl r x
  refine ⟨lim.keeps x.toInCall.keep, codeAny_func (wpAny_mono (ht.run [] s1 (L2.start N vs) H _ I hq) (fun fl s' hs => ?_) fun e s' hs => hs)⟩
  have fin : ∀ {σ' : L2.St} {H' : Hp} {v : V} {u : Value}, Inv (cxH CX P w K mg base N qual scope f cdv A outer s H E p) [] σ' H' s' → L2.RelV v u → Q v H' → CE outer P w H s Q u s' :=
    fun {σ' H' v u} J rv q => ⟨v, H', J.os, J.bare, J.base, J.hok, rv, q⟩
  cases fl with
  | ret u => exact fin hs.choose_spec.choose_spec.choose_spec.1 hs.choose_spec.choose_spec.choose_spec.2.1 hs.choose_spec.choose_spec.choose_spec.2.2
  | next => exact fin (v := V.non) (u := Value.none) hs.choose_spec.choose_spec.1 rfl hs.choose_spec.choose_spec.2
  | brk => exact hs.choose_spec.choose_spec.2.elim
  | cont => exact hs.choose_spec.choose_spec.2.elim
section
variable {X : Cx} {CX : CXT} {k : Nat} {f C : Addr} {fd : FuncData} {ps : List Str} {sp : Addr × Obj → Sp} {E : L2.St → XK} {x m : Str} {q pos apos : Pos} {e o : Expr} {es : List Expr} {ta : TE} {t : TA} {p : Addr × Obj}
theorem run_fnW {pins : List (Addr × Obj)} {σ : L2.St} {H : Hp} {s : Shared} {Q : VK} {us : List Value} {vs : List V} (F : FnW X.prog X.w X.K X.mg X.base CX k f fd ps sp) (hr : RoomH k X.A) (hp : p ∈ X.pn) (hb : Binds X.K fd ps []) (hx : PassesAt CX X σ (E σ))
    (I : Inv X pins σ H s) (r : Vals vs us) (h : sp p vs H Q (E σ)) : wpAny (model X.prog X.w) X.A (call (.ref f) us) (EP X pins σ Q) X.xe s := by
  have hl : us.length = ps.length := by rw [← r.length]; exact F.len _ _ _ _ _ h
  have b := hb s us I.kIn (by rw [List.append_nil]; exact hl)
  rw [List.append_nil] at b
  have P1 := I.pin p (List.mem_append_left _ hp)
  have hpin : PinOk X.stack H s p := ⟨P1.1, P1.2.1, fun hm => (List.mem_cons.mp (I.stkSub p.1 hm)).elim P1.2.2.1 P1.2.2.2.1, P1.2.2.2.2⟩
  refine wpAny_call (codeAny_mono (F.run X.A X.stack s H ⟨us, []⟩ us vs Q (E σ) p hr hpin I.env0 b r h) fun r s' hq => ?_)
  match r, hq with
  | .error e, hq => exact hx pins H s e s' I hq
  | .ok (.ret u), hq => exact I.after hq
  | .ok .next, hq => exact False.elim hq
  | .ok .brk, hq => exact False.elim hq
  | .ok .cont, hq => exact False.elim hq
theorem pe_callW (F : FnW X.prog X.w X.K X.mg X.base CX k f fd ps sp) (hr : RoomH k X.A) (hp : p ∈ X.pn) (hg : Gl X x) (hm : X.mg x = some (.ref f)) (hk : PySem.W.keepIn X.K (.ref f) = true) (hb : Binds X.K fd ps []) (hx : ∀ σ, PassesAt CX X σ (E σ))
    (ha : PA X (e :: es) t) (hdb : (x == ("__debug__" : Str)) = false := by decide) (he : starEach (e :: es) X.env = (false, eval e X.env) :: starEach es X.env := by rfl) (hpl : (backTo pos (starEach es X.env)).any (·.1) = false := by rfl) :
    PE X (.Call (.Name x q) (e :: es) [] pos) (tCallS (sp p) E t) := by
  refine ⟨fun pins s σ H Q I h => wpAny_Call_Name_kw (ld_glob I hg hm ?_ hdb)⟩
  exact PySem.W.callWith_K (h₀ := X.base) I.ok.mod.kin hk (thn (ha.run pos pins s σ H _ I h) fun us s1 ⟨vs, H1, I1, r, q⟩ => ⟨I1.kIn, run_fnW F hr hp hb (hx σ) I1 r q⟩) he hpl
end
/-- a def that lets nothing out: its body's rule -/
theorem Fun_okW {P : Program} {w : World} {K : PySem.W.Frag} {mg : Str → Option Value} {base : Heap} {x qual : Str} {st : Stmt} {f : Addr} {fd : FuncData} {N ps : List Str} {k : Nat} {sp : Addr × Obj → Sp} (F : Fun K x qual st f fd) (S : FnScope N ps (defScope st)) (len : ∀ p vs H Q E, sp p vs H Q E → vs.length = ps.length)
    (hbody : ∀ (cdv : Value) (A : Around) (outer : List Env) (s : Shared) (H : Hp) (vs : List V) (Q : VK) (E : XK) (p : Addr × Obj), RoomH k (A.deeper (envOfC qual (defScope st) s.heap.objs.size f cdv)) → sp p vs H Q E →
      ∃ t, PSs (cxH CX0 P w K mg base N qual (defScope st) f cdv A outer s H E p).nox (defBody st) t ∧ t { nx := fun _ H' => Q .non H', rt := Q } (L2.start N vs) H) : FnW P w K mg base CX0 (k + 1) f fd ps sp := by
  obtain ⟨oc, od, kV, doc, pm, an, cdv, ct, osl, rfl, lk, hcd⟩ := F.ex
  refine fn_ofW lk hcd S len fun A outer s H vs Q E p hr hsp => ?_
  obtain ⟨t, h, q⟩ := hbody cdv A outer s H vs Q E p hr hsp
  exact ⟨t, h.nox, q⟩
theorem passA0 {X : Cx} {σ : L2.St} {E : XK} : PassesAt CX0 X σ E := fun _ _ _ _ _ _ h => h.elim
end SI
set_option maxRecDepth 100000
set_option maxHeartbeats 4000000
/-! enumerate(t), t a tuple -/
namespace SI
open PySem PySem.Spec PyProof.Rows L2
theorem enumT_meets {v : Value} {o : Obj} {H : Heap → Prop} (B : Begins v o H) :
    Meets (Builtin.«enumerate.__new__» ⟨[.type "enumerate", v], []⟩) (fun _ R s => H s.heap ∧
      R (.ok (.ret (.ref (s.heap.push o).objs.size))) { s with heap := (s.heap.push o).push { cls := .type "enumerate", data := .fields #[.none, .bool false, .ref s.heap.objs.size, rawInt 0, .none, .none] } }) :=
  .of_wp fun prog w A R s h => by
    obtain ⟨hp, g, d, tk, os⟩ := s
    have hsub := sub_enumerate
    have q1 : ∀ {A' : Around} {E : Value → Shared → Prop} {Q : Value → Shared → Prop}, Q (.ref hp.objs.size) ⟨hp.push o, g, d, tk, os⟩ → wpAny (model prog w) A' (pyIter v) Q E ⟨hp, g, d, tk, os⟩ :=
      fun q => B.iter prog w _ _ ⟨hp, g, d, tk, os⟩ _ h.1 q
    wp_walk using q1
    refine wpAny_stack_any fun st => wpAny_pure ?_
    split
    · rename_i c _ _ _ _ _
      cases (c == Value.type "enumerate") <;> (wp_walk using q1) <;> exact ⟨_, rfl, h.2⟩
    · wp_walk using q1
      exact ⟨_, rfl, h.2⟩
theorem enumT_call {prog : Program} {w : World} {A : Around} {E : Value → Shared → Prop} {s : Shared} {v : Value} {o : Obj} {H : Heap → Prop} {Q : Value → Shared → Prop} (B : Begins v o H) (h1 : H s.heap)
    (h : ∀ h', IsEnum h' (s.heap.objs.size + 1) s.heap.objs.size 0 .none → h'.get? s.heap.objs.size = some o → (∀ b o, s.heap.get? b = some o → h'.get? b = some o) → Q (.ref (s.heap.objs.size + 1)) { s with heap := h' }) :
    wpAny (model prog w) A (call (.type "enumerate") [v]) Q E s := by
  refine callType_new F.called_enumerate (by decide) (F.typeCall_enumerate_1 _) (F.newCall_enumerate_1 _) (fun obj => F.args_object_init_2 obj _) F.entry_enumerate_new (enumT_meets B) ⟨h1, ?_⟩
  have hz : (s.heap.push o).objs.size = s.heap.objs.size + 1 := Heap.size_push ..
  have he := Heap.get?_push_size (s.heap.push o) (o := { cls := .type "enumerate", data := .fields #[.none, .bool false, .ref s.heap.objs.size, rawInt 0, .none, .none] }) rfl
  rw [hz] at he
  show _ ∧ _
  rw [hz]
  exact ⟨⟨_, he, rfl⟩, h _ he (Heap.get?_push_of_some _ (Heap.get?_push_size _ B.free)) fun b o x => Heap.get?_push_of_some _ (Heap.get?_push_of_some _ x)⟩
/-- the tuple at a as it stands at each turn, each item in a new pair -/
def IteT (K : PySem.W.Frag) (a : Addr) : It :=
  ⟨fun i H => ∃ (xs : List V) (x : V), SqT K H a xs ∧ xs[i]? = some x, fun i H v H' => ∃ T x, v = .ref T ∧ H T = none ∧ H' = upd H T (.tup [.int (i : Nat), x]) ∧ ∀ xs, SqT K H a xs → xs[i]? = some x, fun i H => ∃ xs : List V, SqT K H a xs ∧ xs.length = i⟩
theorem turn_enumT {P : Program} {w : World} {K : PySem.W.Frag} {elts : List Expr} {kk : Nat} {tpos : Pos} (a e it : Addr) :
    Turn P w K (.Tuple elts kk tpos) (IteT K a) [e, it] e (fun i h => (∃ old, IsEnum h e it ((i : Nat) : Int) old) ∧ h.IsTupleIter it a i ∧ e ≠ it ∧ a ≠ it ∧ a ≠ e) where
  mem := by simp
  obj := fun i h st b hb => by
    obtain ⟨⟨old, he⟩, ⟨o, ho, hc, hd⟩, _⟩ := st
    have e' : b = e ∨ b = it := by simpa using hb
    rcases e' with z | z
    · rw [z]; exact ⟨_, he, fun v q => nomatch q⟩
    · rw [z]; exact ⟨o, ho, fun v q => by rw [hd] at q; cases q⟩
  keep := fun i h h' st k => let ⟨⟨old, he⟩, hi, hne⟩ := st; ⟨⟨old, k e (by simp) _ he⟩, hi.at fun o q => k it (by simp) o q, hne⟩
  item := by
    intro X hP hw hK hc i pins s σ H E I hf st hg
    subst hP hw hK
    obtain ⟨⟨old, he⟩, hit, hne, hai, hae⟩ := st
    obtain ⟨xs, x, hq, hx⟩ := hg
    obtain ⟨its, rv, p, hz⟩ := I.tuple hq
    obtain ⟨u, hu, ru⟩ := rv.get hx
    have hlt : i < its.toArray.size := by
      have := (List.getElem?_eq_some_iff.mp hu).1
      simpa using this
    have hel : e < s.heap.objs.size := Heap.lt_size he
    have hil : it < s.heap.objs.size := by obtain ⟨_, q, _⟩ := hit; exact Heap.lt_size q
    have pt : s.heap.IsTuple a its.toArray := p
    have D : Draws X.prog X.w X.A.in1 it [it, a] its.toArray.size (fun i v => its.toArray[i]? = some v) (fun i h => h.IsTupleIter it a i ∧ h.IsTuple a its.toArray) := Draws.tuple (show X.A.in1.handled = none from I.ok.hd hc) it a hai its.toArray
    refine wpAny_pyNext_enum_itemD D he ⟨hit, pt⟩ hlt hne (by simp [hne, Ne.symm hae]) fun y h' tk hy ho hst' hT hsz hk => ?_
    have ey : y = u := by
      have e1 : its.toArray[i]? = some u := by simpa using hu
      have e2 : its.toArray[i]? = some y := hy
      rw [e1] at e2
      exact (Option.some.inj e2).symm
    subst ey
    refine ⟨_, rfl, wpAny_letOwnedTupleGo_enum (s := { s with heap := h', toks := tk + 1 }) ho fun h'' he' sb => ?_⟩
    have hT2 : h''.get? s.heap.objs.size = some { cls := .type "tuple", data := .seq #[.int i tk, y] } := (sb.2 _ (Nat.ne_of_gt hel)).trans hT
    have new : ObjOk X.prog X.w (upd H s.heap.objs.size (.tup [.int (i : Nat), x])) h'' s.heap.objs.size (.tup [.int (i : Nat), x]) :=
      ⟨by show 2 ≤ sizeLine; decide, [.int i tk, y], .cons ⟨_, rfl⟩ (.cons ru .nil), ⟨_, hT2, rfl, _, rfl⟩⟩
    have I1 : Inv X pins σ (upd H s.heap.objs.size (.tup [.int (i : Nat), x])) { s with heap := h'', toks := tk + 1 } :=
      I.turnedNew (ch := [e, it]) (fun b o hb q => (sb.2 b (fun z => hb (by simp [z]))).trans (hk b o (fun z => hb (by simp [z])) (fun z => hb (by simp [z])) q)) hf (Nat.le_refl _) new
    refine ⟨.ref s.heap.objs.size, _, I1, rfl, ⟨_, x, rfl, I.hok.fresh (Nat.le_refl _), rfl, fun ys hy => by rw [I.tuple_inj hy hq]; exact hx⟩, ⟨⟨y, ?_⟩, hst'.1.at fun o q => (sb.2 it (Ne.symm hne)).trans q, hne, hai, hae⟩, fun b hb => ?_⟩
    · have e1 : ((i + 1 : Nat) : Int) = (i : Int) + 1 := by omega
      rw [e1]; exact he'
    · have hb' : b < s.heap.objs.size := by
        have e' : b = e ∨ b = it := by simpa using hb
        rcases e' with z | z <;> rw [z]
        · exact hel
        · exact hil
      rw [upd_ne (Nat.ne_of_lt hb')]
      exact (hf b hb).1
  done := by
    intro X hP hw hK hc i pins s σ H E I hf st hg
    subst hP hw hK
    obtain ⟨⟨old, he⟩, hit, hne, hai, hae⟩ := st
    obtain ⟨xs, hq, hx⟩ := hg
    obtain ⟨its, rv, p, hz⟩ := I.tuple hq
    have pt : s.heap.IsTuple a its.toArray := p
    obtain ⟨f0, f1, f2, f3, f4, f5⟩ := hf it (by simp)
    have hl : xs.length = its.length := rv.length
    have hi : i = its.toArray.size := by rw [List.size_toArray, ← hl, hx]
    subst hi
    have D : Draws X.prog X.w X.A.in1 it [it, a] its.toArray.size (fun i v => its.toArray[i]? = some v) (fun i h => h.IsTupleIter it a i ∧ h.IsTuple a its.toArray) := Draws.tuple (show X.A.in1.handled = none from I.ok.hd hc) it a hai its.toArray
    exact wpAny_pyNext_enum_endD D he ⟨hit, pt⟩ fun h' eb => ⟨rfl, I.turned (t' := s.toks) (fun b o hb q => eb b o hb q) f0 f1 f3 f4 f5⟩
  self := fun A i s Q E st h => let ⟨⟨_, he⟩, _⟩ := st; wpAny_pyIter_enum he h
def iEnumT (K : PySem.W.Frag) (ta : TA) : TI := fun σ H R => ta σ H fun vs H1 => ∃ a xs, vs = [.ref a] ∧ SqT K H1 a xs ∧ R (IteT K a) H1
theorem pi_enumT {X : Cx} {e : Expr} {ta : TA} {p pos tpos : Pos} {elts : List Expr} {kk : Nat} (hg : Gl X "enumerate") (hm : X.mg "enumerate" = none) (ha : PA X [e] ta) (hs : starEach [e] X.env = [(false, eval e X.env)] := by rfl) :
    PI X (.Tuple elts kk tpos) (.Call (.Name "enumerate" p) [e] [] pos) (iEnumT X.K ta) := by
  refine ⟨fun pins s σ H R I h => Call_ (ld_blt I hg hm boot_enumerate (PyProof.Rows.callWith_type1 (thn (ha.run pos pins s σ H _ I h) fun us s1 ⟨vs, H1, I1, r1, q1⟩ => ?_) hs rfl))⟩
  obtain ⟨a, xs, ex, hq, q⟩ := q1
  subst ex
  cases r1 with
  | cons r rr =>
    cases rr
    cases r
    obtain ⟨its, rv, p', hz⟩ := I1.tuple hq
    have al : a < s1.heap.objs.size := by obtain ⟨o, ho, _⟩ := p'; exact Heap.lt_size ho
    refine enumT_call (begins_tuple a its.toArray) p' fun h' he hit hk => wpAny_pyIter_enum he ?_
    have I2 : Inv X pins σ H1 { s1 with heap := h' } := I1.kept (t' := s1.toks) hk
    refine ⟨s1.heap.objs.size + 1, [s1.heap.objs.size + 1, s1.heap.objs.size], _, _, H1, rfl, I2, turn_enumT a (s1.heap.objs.size + 1) s1.heap.objs.size, ⟨⟨.none, he⟩, ⟨_, hit, rfl, rfl⟩, Nat.succ_ne_self _, Nat.ne_of_lt al, Nat.ne_of_lt (Nat.lt_succ_of_lt al)⟩, fun b hb => ?_, q⟩
    have e' : b = s1.heap.objs.size + 1 ∨ b = s1.heap.objs.size := by simpa using hb
    have hle : s1.heap.objs.size ≤ b := e'.elim (fun z => by rw [z]; exact Nat.le_add_right _ _) fun z => by rw [z]; exact Nat.le_refl _
    exact I1.fpOk hle (I1.hok.fresh hle)
/-- a loop over enumerate(t) -/
theorem for_enumT {K : PySem.W.Frag} {a : Addr} {xs : List V} {g : TG} {tb : TS} {D : Ends} {σ : L2.St} {H : Hp} (Pv : Nat → L2.St → Hp → Prop) (h0 : Pv 0 σ H) (hq : ∀ i σ H, Pv i σ H → SqT K H a xs)
    (hs : ∀ (i : Nat) (x : V) (T : Addr) (σ : L2.St) (H : Hp), xs[i]? = some x → Pv i σ H → H T = none → g (.ref T) σ (upd H T (.tup [.int (i : Nat), x])) fun σ2 H2 => tb { D with nx := Pv (i + 1), ct := Pv (i + 1), bk := D.nx } σ2 H2) (hd : ∀ σ H, Pv xs.length σ H → D.nx σ H) :
    ∃ W : Nat → Nat → L2.St → Hp → Prop, (∃ m, W 0 m σ H) ∧ ∀ i m σ H, W i m σ H →
      ((IteT K a).stop i H ∧ D.nx σ H) ∨ ((IteT K a).go i H ∧ ∃ N : L2.St → Hp → Prop, (∀ σ' H', N σ' H' → ∃ m', m' < m ∧ W (i + 1) m' σ' H') ∧ ∀ v H', (IteT K a).yld i H v H' → g v σ H' fun σ2 H2 => tb { D with nx := N, ct := N, bk := D.nx } σ2 H2) := by
  refine ⟨fun i m σ H => m = xs.length - i ∧ i ≤ xs.length ∧ Pv i σ H, ⟨xs.length, rfl, Nat.zero_le _, h0⟩, ?_⟩
  rintro i m σ H ⟨rfl, hi, p⟩
  have qx := hq i σ H p
  by_cases hlt : i < xs.length
  · refine .inr ⟨⟨xs, _, qx, List.getElem?_eq_getElem hlt⟩, Pv (i + 1), fun σ' H' p' => ⟨xs.length - (i + 1), by omega, rfl, hlt, p'⟩, fun v H' y => ?_⟩
    obtain ⟨T, x', rfl, hT, rfl, f1⟩ := y
    exact hs i x' T σ H (f1 xs qx) p hT
  · obtain rfl : i = xs.length := by omega
    exact .inl ⟨⟨xs, qx, rfl⟩, hd σ H p⟩
end SI
set_option maxRecDepth 100000
set_option maxHeartbeats 4000000
/-! sum(t), t a tuple of ints -/
namespace SI
open PySem PySem.Spec PyProof.Rows L2
def rSumT (K : PySem.W.Frag) : List V → Hp → VK → Prop := fun vs H Q => ∃ (a : Addr) (ns : List Int), vs = [V.ref a] ∧ SqT K H a (ns.map V.int) ∧ Q (.int ns.sum) H
theorem cr_sumT {X : Cx} (hc : X.calm = true) : CallR X (.builtin "sum") (rSumT X.K) := by
  intro pins s σ H vs us Q I r h
  obtain ⟨a, ns, rfl, hs, q⟩ := h
  obtain ⟨its, rv, hl, _⟩ := I.tuple hs
  rw [Vals.ref1 r]
  have hi := rv.ints
  obtain ⟨xs, e⟩ := hi.allInts.items
  have hn : numsOf (intItems xs).toList = ns := by rw [← e]; exact hi.numsOf
  rw [nums_intItems] at hn
  have hl' : s.heap.IsTuple a (intItems xs) := e ▸ (show s.heap.IsTuple a its.toArray from hl)
  refine PySem.W.ktm_sumG (I.ok.hd hc) hl' fun h' tk t' hk => ?_
  rw [preSum_eq, List.take_of_length_le (by simp), hn]
  exact ⟨.int _, H, I.kept hk, ⟨_, rfl⟩, q⟩
end SI
set_option maxRecDepth 100000
set_option maxHeartbeats 4000000
/-! defs, methods, classes under their names; what they let out is wished for at the caller's slots -/
namespace SI
open PySem PySem.Spec PyProof.Rows L2
/-- a def that lets nothing out, as one that may -/
theorem ok0X {P : Program} {w : World} {K : PySem.W.Frag} {mg : Str → Option Value} {base : Heap} {k : Nat} {f : Addr} {fd : FuncData} {ps : List Str} {sp : Sp} (F : FnOk P w K mg base CX0 k f fd ps sp) : FnOk P w K mg base (L2.CX P w) k f fd ps sp :=
  ⟨F.len, fun A outer s H args us vs Q E hr e0 hb r h => codeAny_mono (F.run A outer s H args us vs Q E hr e0 hb r h) fun res s' z => match res, z with
    | .ok (.ret _), z => z
    | .ok .next, z => z
    | .ok .brk, z => z
    | .ok .cont, z => z
    | .error _, z => False.elim z⟩
structure Cl (P : Program) (w : World) (K : PySem.W.Frag) (mg : Str → Option Value) (base : Heap) (k : Nat) (x : Str) (sp : Sp) (dvs : List V) : Prop where
  ex : ∃ (f : Addr) (fd : FuncData) (ps : List Str) (ds : List Value), FnOk P w K mg base (L2.CX P w) k f fd ps sp ∧ mg x = some (.ref f) ∧ PySem.W.keepIn K (.ref f) = true ∧ Binds K fd ps ds ∧ Vals dvs ds
structure Mt (P : Program) (w : World) (K : PySem.W.Frag) (mg : Str → Option Value) (base : Heap) (k : Nat) (C : Addr) (m : Str) (sp : Sp) (dvs : List V) : Prop where
  ex : ∃ (f : Addr) (fd : FuncData) (ps : List Str) (ds : List Value), Cls K C ∧ Meth K C m f ∧ FnOk P w K mg base (L2.CX P w) k f fd ps sp ∧ Binds K fd ps ds ∧ Vals dvs ds
structure Mkr (P : Program) (w : World) (K : PySem.W.Frag) (mg : Str → Option Value) (base : Heap) (k : Nat) (x : Str) (C : Addr) (sp : Sp) (dvs : List V) : Prop where
  ex : ∃ (f : Addr) (fd : FuncData) (ps : List Str) (ds : List Value), Mk K C f ∧ FnOk P w K mg base (L2.CX P w) k f fd ps sp ∧ mg x = some (.ref C) ∧ Binds K fd ps ds ∧ Vals dvs ds
def tMethS (C : Addr) (m : Str) (sp : Sp) (dvs : List V) (E : L2.St → XK) (ta : TE) (t : TA) : TE := fun σ H Q => ta σ H fun x H1 => ∃ a dx fs, x = .ref a ∧ H1 a = some (.ins C dx fs) ∧ fs.lookup m = none ∧
  t σ H1 fun vs H2 => sp (x :: (vs ++ dvs)) H2 Q (E σ)
def tMakeS (C : Addr) (sp : Sp) (dvs : List V) (E : L2.St → XK) (t : TA) : TE := fun σ H Q => t σ H fun vs H1 => ∀ x dx, H1 x = none → H1 dx = none → dx ≠ x →
  sp (.ref x :: (vs ++ dvs)) (upd (upd H1 dx (.own x)) x (.ins C dx [])) (fun v H2 => v = .non ∧ Q (.ref x) H2) (E σ)
section
variable {X : Cx} {k j : Nat} {f C : Addr} {x m : Str} {sp : Sp} {dvs : List V} {p pos apos : Pos} {e o : Expr} {es : List Expr} {ta : TE} {t : TA} {W : WX}
/-! nothing comes out here -/
theorem pe_c (c : Cl X.prog X.w X.K X.mg X.base k x sp dvs) (hr : Room j X.A) (hk : k ≤ j) (hg : Gl X x) (ha : PA X (e :: es) t)
    (hdb : (x == ("__debug__" : Str)) = false := by decide) (he : starEach (e :: es) X.env = (false, eval e X.env) :: starEach es X.env := by rfl) (hpl : (backTo pos (starEach es X.env)).any (·.1) = false := by rfl) :
    PE X (.Call (.Name x p) (e :: es) [] pos) (tCall sp dvs E0 t) := by
  obtain ⟨f, fd, ps, ds, F, hm, kp, b, d⟩ := c.ex
  exact pe_call F (hr.mono hk) hg hm kp b d passL ha hdb he hpl
theorem pe_c0 (c : Cl X.prog X.w X.K X.mg X.base k x sp dvs) (hr : Room j X.A) (hk : k ≤ j) (hg : Gl X x) (hdb : (x == ("__debug__" : Str)) = false := by decide) : PE X (.Call (.Name x p) [] [] pos) (tCall sp dvs E0 tNil) := by
  obtain ⟨f, fd, ps, ds, F, hm, kp, b, d⟩ := c.ex
  exact pe_call0 F (hr.mono hk) hg hm kp b d passL hdb
theorem pe_mk (c : Mkr X.prog X.w X.K X.mg X.base k x C sp dvs) (hr : Room j X.A) (hk : k + 1 ≤ j) (hg : Gl X x) (ha : PA X (e :: es) t)
    (hdb : (x == ("__debug__" : Str)) = false := by decide) (he : starEach (e :: es) X.env = (false, eval e X.env) :: starEach es X.env := by rfl) (hpl : (backTo pos (starEach es X.env)).any (·.1) = false := by rfl) :
    PE X (.Call (.Name x p) (e :: es) [] pos) (tMake C sp dvs E0 t) := by
  obtain ⟨f, fd, ps, ds, M, F, hm, b, d⟩ := c.ex
  exact pe_make M F (hr.mono hk) hg hm b d passL ha hdb he hpl
theorem pe_mt {pl : Sem Bool} (c : Mt X.prog X.w X.K X.mg X.base k C m sp dvs) (hr : Room j X.A) (hk : k ≤ j) (he : PE X o ta) (ha : PA X (e :: es) t)
    (hst : starEach (e :: es) X.env = (false, eval e X.env) :: starEach es X.env := by rfl) (hpl : (backTo pos (starEach es X.env)).any (·.1) = false := by rfl)
    (ht : eval (.Call (.Attribute o m apos) (e :: es) [] pos) X.env = (do
      let ov ← eval o X.env
      standAt apos.atName
      let (f, first) ← holding [ov] (getMethod ov m pl)
      callWith pos f first (backTo pos (starEach (e :: es) X.env)) (backToKw pos (keywordEach [] X.env))) := by rfl) :
    PE X (.Call (.Attribute o m apos) (e :: es) [] pos) (tMeth C m sp dvs E0 ta t) := by
  obtain ⟨f, fd, ps, ds, hc, hm, F, b, d⟩ := c.ex
  exact pe_meth (pl := pl) he hc hm F (hr.mono hk) b d passL ha hst hpl ht
theorem pe_mt0 {pl : Sem Bool} (c : Mt X.prog X.w X.K X.mg X.base k C m sp dvs) (hr : Room j X.A) (hk : k ≤ j) (he : PE X o ta)
    (ht : eval (.Call (.Attribute o m apos) [] [] pos) X.env = (do
      let ov ← eval o X.env
      standAt apos.atName
      let (f, first) ← holding [ov] (getMethod ov m pl)
      callWith pos f first (backTo pos (starEach [] X.env)) (backToKw pos (keywordEach [] X.env))) := by rfl) :
    PE X (.Call (.Attribute o m apos) [] [] pos) (tMeth C m sp dvs E0 ta tNil) := by
  obtain ⟨f, fd, ps, ds, hc, hm, F, b, d⟩ := c.ex
  exact pe_meth0 (pl := pl) he hc hm F (hr.mono hk) b d passL ht
/-- int(i), i an int -/
theorem call_intI : CallR X (.type "int") (fun xs H Q => ∃ i, xs = [.int i] ∧ Q (.int i) H) := fun pins s σ H xs us Q I r h => call_int1 pins s σ H xs us Q I r (.inl h)
/-! errors come out: W is wished -/
theorem pe_cX (tk : Takes X W) (c : Cl X.prog X.w X.K X.mg X.base k x sp dvs) (hr : Room j X.A) (hk : k ≤ j) (hg : Gl X x) (ha : PA X (e :: es) t)
    (hdb : (x == ("__debug__" : Str)) = false := by decide) (he : starEach (e :: es) X.env = (false, eval e X.env) :: starEach es X.env := by rfl) (hpl : (backTo pos (starEach es X.env)).any (·.1) = false := by rfl) :
    PE X (.Call (.Name x p) (e :: es) [] pos) (tCallSD sp dvs (WE W) t) := by
  obtain ⟨f, fd, ps, ds, F, hm, kp, b, d⟩ := c.ex
  exact pe_callSD F (hr.mono hk) hg hm kp b d (fun σ => passAt tk σ) ha hdb he hpl
theorem run_mkS {pins : List (Addr × Obj)} {σ : L2.St} {H : Hp} {s : Shared} {Q : VK} {us : List Value} {vs : List V} {fd : FuncData} {ps : List Str} {ds : List Value} {E : XK} (M : Mk X.K C f) (F : FnOk X.prog X.w X.K X.mg X.base (L2.CX X.prog X.w) k f fd ps sp) (hr : Room (k + 1) X.A) (hb : Binds X.K fd ps ds) (hd : Vals dvs ds)
    (hx : PassesAt (L2.CX X.prog X.w) X σ E) (I : Inv X pins σ H s) (r : Vals vs us)
    (h : ∀ x dx, H x = none → H dx = none → dx ≠ x → sp (.ref x :: (vs ++ dvs)) (upd (upd H dx (.own x)) x (.ins C dx [])) (fun v H2 => v = .non ∧ Q (.ref x) H2) E) :
    wpAny (model X.prog X.w) X.A (call (.ref C) us) (EP X pins σ Q) X.xe s := by
  have hq := h (s.heap.objs.size + 1) s.heap.objs.size (I.hok.fresh (Nat.le_succ _)) (I.hok.fresh (Nat.le_refl _)) (Nat.ne_of_lt (Nat.lt_succ_self _))
  have I2 := Inv.made (C := C) I
  have r2 : Vals (V.ref (s.heap.objs.size + 1) :: (vs ++ dvs)) (Value.ref (s.heap.objs.size + 1) :: (us ++ ds)) := .cons rfl (r.append hd)
  have hl : (Value.ref (s.heap.objs.size + 1) :: us ++ ds).length = ps.length := (r2.length.symm.trans (F.len _ _ _ _ hq) : _)
  refine wpAny_call (make_map (f := f) I.kIn M.makes M.init (beq_iff_eq.mp M.fn) (codeAny_mono (F.run _ X.stack _ _ ⟨Value.ref (s.heap.objs.size + 1) :: us, []⟩ (Value.ref (s.heap.objs.size + 1) :: (us ++ ds)) _ _ E (hr.make C us [])
    (I2.env0.make C us []) (hb _ (Value.ref (s.heap.objs.size + 1) :: us) I2.kIn hl) r2 hq) fun r s' hq' => ?_))
  match r, hq' with
  | .error e, hq' => exact hx pins _ _ e s' I2 hq'
  | .ok (.ret u), hq' =>
    obtain ⟨v, H', I3, rv, ev, q3⟩ := I2.after hq'
    subst ev
    exact ⟨rv, ⟨V.ref (s.heap.objs.size + 1), H', I3, rfl, q3⟩⟩
  | .ok .next, hq' => exact False.elim hq'
  | .ok .brk, hq' => exact False.elim hq'
  | .ok .cont, hq' => exact False.elim hq'
theorem pe_mkX (tk : Takes X W) (c : Mkr X.prog X.w X.K X.mg X.base k x C sp dvs) (hr : Room j X.A) (hk : k + 1 ≤ j) (hg : Gl X x) (ha : PA X (e :: es) t)
    (hdb : (x == ("__debug__" : Str)) = false := by decide) (he : starEach (e :: es) X.env = (false, eval e X.env) :: starEach es X.env := by rfl) (hpl : (backTo pos (starEach es X.env)).any (·.1) = false := by rfl) :
    PE X (.Call (.Name x p) (e :: es) [] pos) (tMakeS C sp dvs (WE W) t) := by
  obtain ⟨f, fd, ps, ds, M, F, hm, b, d⟩ := c.ex
  exact ⟨fun pins s σ H Q I h => wpAny_Call_Name_kw (ld_glob I hg hm (PySem.W.callWith_K (h₀ := X.base) I.ok.mod.kin M.kp (thn (ha.run pos pins s σ H _ I h) fun us s1 ⟨vs, H1, I1, r, q⟩ => ⟨I1.kIn, run_mkS M F (hr.mono hk) b d (passAt tk σ) I1 r q⟩) he hpl) hdb)⟩
theorem pe_mtX {pl : Sem Bool} (tk : Takes X W) (c : Mt X.prog X.w X.K X.mg X.base k C m sp dvs) (hr : Room j X.A) (hk : k ≤ j) (he : PE X o ta) (ha : PA X (e :: es) t)
    (hst : starEach (e :: es) X.env = (false, eval e X.env) :: starEach es X.env := by rfl) (hpl : (backTo pos (starEach es X.env)).any (·.1) = false := by rfl)
    (ht : eval (.Call (.Attribute o m apos) (e :: es) [] pos) X.env = (do
      let ov ← eval o X.env
      standAt apos.atName
      let (f, first) ← holding [ov] (getMethod ov m pl)
      callWith pos f first (backTo pos (starEach (e :: es) X.env)) (backToKw pos (keywordEach [] X.env))) := by rfl) :
    PE X (.Call (.Attribute o m apos) (e :: es) [] pos) (tMethS C m sp dvs (WE W) ta t) := by
  obtain ⟨f, fd, ps, ds, hc, hm, F, b, d⟩ := c.ex
  refine ⟨fun pins s σ H Q I h => PySem.W.methodCall_KW (pl := pl) (thn (he.run pins s σ H _ I h) fun u s1 ⟨x, H1, I1, rx, a, dx, fs, ex, ea, l, q⟩ => ?_) ht⟩
  subst ex
  obtain rfl : u = Value.ref a := rx
  exact getmeth_ok I1 ea hc hm l (PySem.W.callWith_K (first := [.ref a]) (h₀ := X.base) I.ok.mod.kin hm.kp (thn (ha.run pos pins s1 σ H1 _ I1 q) fun us s2 ⟨vs, H2, I2, r, q2⟩ => ⟨I2.kIn, run_fnSD (us := .ref a :: us) (vs := .ref a :: vs) F (hr.mono hk) b d (passAt tk σ) I2 (.cons rfl r) q2⟩) hst hpl)
end
end SI
set_option maxRecDepth 100000
set_option maxHeartbeats 4000000
/-! what the top has written, a thing at a time -/
namespace SI
open PySem PySem.Spec PyProof.Rows L2 NdefX
section
variable {P : Program} {w : World} {K : PySem.W.Frag} {mg : Str → Option Value} {base : Heap}
structure DefAt (K : PySem.W.Frag) (mg : Str → Option Value) (x : Str) (st : Stmt) (ps : List Str) : Prop where
  ex : ∃ (f : Addr) (fd : FuncData), Fun K x x st f fd ∧ mg x = some (.ref f) ∧ Binds K fd ps []
structure MetAt (K : PySem.W.Frag) (C : Addr) (m qual : Str) (st : Stmt) (ps : List Str) : Prop where
  ex : ∃ (f : Addr) (fd : FuncData), Cls K C ∧ Meth K C m f ∧ Fun K m qual st f fd ∧ Binds K fd ps []
structure MakAt (K : PySem.W.Frag) (mg : Str → Option Value) (x : Str) (C : Addr) (qual : Str) (st : Stmt) (ps : List Str) : Prop where
  ex : ∃ (f : Addr) (fd : FuncData), Mk K C f ∧ Fun K "__init__" qual st f fd ∧ mg x = some (.ref C) ∧ Binds K fd ps []
theorem cl_of {x : Str} {st : Stmt} {N ps : List Str} {k : Nat} {sp : Sp} (D : DefAt K mg x st ps) (S : FnScope N ps (defScope st)) (len : ∀ vs H Q E, sp vs H Q E → vs.length = ps.length)
    (hbody : ∀ (f : Addr) (cdv : Value) (A : Around) (outer : List Env) (s : Shared) (H : Hp) (vs : List V) (Q : VK) (E : XK), Room k (A.deeper (envOfC x (defScope st) s.heap.objs.size f cdv)) → sp vs H Q E →
      ∃ t, PSs (cxOf (L2.CX P w) P w K mg base N x (defScope st) f cdv A outer s H E) (defBody st) t ∧ t { nx := fun _ H' => Q .non H', rt := Q } (L2.start N vs) H) : Cl P w K mg base (k + 1) x sp [] := by
  obtain ⟨f, fd, F, hm, b⟩ := D.ex
  exact ⟨f, fd, ps, [], F.okX S len (hbody f), hm, F.kp, b, .nil⟩
theorem mt_of {m qual : Str} {C : Addr} {st : Stmt} {N ps : List Str} {k : Nat} {sp : Sp} (D : MetAt K C m qual st ps) (S : FnScope N ps (defScope st)) (len : ∀ vs H Q E, sp vs H Q E → vs.length = ps.length)
    (hbody : ∀ (f : Addr) (cdv : Value) (A : Around) (outer : List Env) (s : Shared) (H : Hp) (vs : List V) (Q : VK) (E : XK), Room k (A.deeper (envOfC qual (defScope st) s.heap.objs.size f cdv)) → sp vs H Q E →
      ∃ t, PSs (cxOf (L2.CX P w) P w K mg base N qual (defScope st) f cdv A outer s H E) (defBody st) t ∧ t { nx := fun _ H' => Q .non H', rt := Q } (L2.start N vs) H) : Mt P w K mg base (k + 1) C m sp [] := by
  obtain ⟨f, fd, c, me, F, b⟩ := D.ex
  exact ⟨f, fd, ps, [], c, me, F.okX S len (hbody f), b, .nil⟩
theorem mkr_of {x qual : Str} {C : Addr} {st : Stmt} {N ps : List Str} {k : Nat} {sp : Sp} (D : MakAt K mg x C qual st ps) (S : FnScope N ps (defScope st)) (len : ∀ vs H Q E, sp vs H Q E → vs.length = ps.length)
    (hbody : ∀ (f : Addr) (cdv : Value) (A : Around) (outer : List Env) (s : Shared) (H : Hp) (vs : List V) (Q : VK) (E : XK), Room k (A.deeper (envOfC qual (defScope st) s.heap.objs.size f cdv)) → sp vs H Q E →
      ∃ t, PSs (cxOf (L2.CX P w) P w K mg base N qual (defScope st) f cdv A outer s H E) (defBody st) t ∧ t { nx := fun _ H' => Q .non H', rt := Q } (L2.start N vs) H) : Mkr P w K mg base (k + 1) x C sp [] := by
  obtain ⟨f, fd, M, F, hm, b⟩ := D.ex
  exact ⟨f, fd, ps, [], M, F.okX S len (hbody f), hm, b, .nil⟩
/-- a def that is called by keywords, too -/
structure Cd (P : Program) (w : World) (K : PySem.W.Frag) (mg : Str → Option Value) (base : Heap) (k : Nat) (x : Str) (st : Stmt) (ps : List Str) (sp : Sp) : Prop where
  ex : ∃ (f : Addr) (fd : FuncData), FnOk P w K mg base (L2.CX P w) k f fd ps sp ∧ Fun K x x st f fd ∧ mg x = some (.ref f) ∧ Binds K fd ps []
theorem Cd.cl {k : Nat} {x : Str} {st : Stmt} {ps : List Str} {sp : Sp} (c : Cd P w K mg base k x st ps sp) : Cl P w K mg base k x sp [] := by
  obtain ⟨f, fd, F, Fn, hm, b⟩ := c.ex
  exact ⟨f, fd, ps, [], F, hm, Fn.kp, b, .nil⟩
theorem cd_of {x : Str} {st : Stmt} {N ps : List Str} {k : Nat} {sp : Sp} (D : DefAt K mg x st ps) (S : FnScope N ps (defScope st)) (len : ∀ vs H Q E, sp vs H Q E → vs.length = ps.length)
    (hbody : ∀ (f : Addr) (cdv : Value) (A : Around) (outer : List Env) (s : Shared) (H : Hp) (vs : List V) (Q : VK) (E : XK), Room k (A.deeper (envOfC x (defScope st) s.heap.objs.size f cdv)) → sp vs H Q E →
      ∃ t, PSs (cxOf (L2.CX P w) P w K mg base N x (defScope st) f cdv A outer s H E) (defBody st) t ∧ t { nx := fun _ H' => Q .non H', rt := Q } (L2.start N vs) H) : Cd P w K mg base (k + 1) x st ps sp := by
  obtain ⟨f, fd, F, hm, b⟩ := D.ex
  exact ⟨f, fd, F.okX S len (hbody f), F, hm, b⟩
/-- f(k = v, ..): ks the keywords in the call's order, gV puts their values in the parameters' order -/
def tK0 (m : Nat) (sp : Sp) (gV : List V → List V) (tk : TA) : TE := fun σ H Q => tk σ H fun zs H1 => zs.length = m ∧ sp (gV zs) H1 Q E0
theorem pe_cK0 {X : Cx} {k j : Nat} {x : Str} {st : Stmt} {ps ks : List Str} {sp : Sp} {p pos : Pos} {kws : List Keyword} {tk : TA} {g : {α : Type} → List α → List α} (c : Cd X.prog X.w X.K X.mg X.base k x st ps sp) (hr : Room j X.A) (hk : k ≤ j) (hg : Gl X x) (hkw : PK X kws tk)
    (hb : ∀ (kV doc pm : Value) (an : Option Addr) (cdv ct : Value) (ws : List Value), ws.length = ks.length → bindArgs (PySem.W.fnOf x x (defArgs st) (defBody st) (defScope st) .none kV doc pm an cdv ct) ⟨[], ks.zip ws⟩ = pure (ps.zip (g ws)))
    (hrel : ∀ {zs : List V} {ws : List Value}, Vals zs ws → Vals (g zs) (g ws))
    (hall : (backToKw pos (keywordEach kws X.env)).all (·.1.isSome) = true := by rfl) (hks : (backToKw pos (keywordEach kws X.env)).filterMap (·.1) = ks := by rfl)
    (hdb : (x == ("__debug__" : Str)) = false := by decide) (hpl : ((backTo pos (starEach [] X.env)).any (·.1) || (backToKw pos (keywordEach kws X.env)).any (·.1.isNone)) = false := by rfl) :
    PE X (.Call (.Name x p) [] kws pos) (tK0 ks.length sp g tk) := by
  obtain ⟨f, fd, F, Fn, hm, _⟩ := c.ex
  refine ⟨fun pins s σ H Q I h => wpAny_Call_Name_kw (ld_glob I hg hm ?_ hdb)⟩
  refine PySem.W.callWith_KW0 (h₀ := X.base) I.ok.mod.kin Fn.kp hall (thn (hkw.run pos pins s σ H _ I h) fun ws s2 ⟨zs, H2, I2, rz, l2, q2⟩ => ⟨I2.kIn, ?_⟩) hpl
  rw [hks]
  obtain ⟨oc, od, kV, doc, pm, an, cdv, ct, osl, rfl, lk, hcd⟩ := Fn.ex
  have b : KBn X.K (PySem.W.fnOf x x (defArgs st) (defBody st) (defScope st) .none kV doc pm an cdv ct) ps 0 ks (fun _ ws => g ws) (fun _ zs => g zs) :=
    ⟨fun s us ws _ l1 l2 => by
      have e : us = [] := List.eq_nil_of_length_eq_zero l1
      subst e
      exact BindsTo.of_eq (hb kV doc pm an cdv ct ws l2), fun _ r => hrel r⟩
  exact run_fnN (F.mono hk) hr b passL I2 .nil rz rfl l2 q2
/-- a def within an except suite -/
structure ClW (P : Program) (w : World) (K : PySem.W.Frag) (mg : Str → Option Value) (base : Heap) (k : Nat) (x : Str) (sp : Addr × Obj → Sp) : Prop where
  ex : ∃ (f : Addr) (fd : FuncData) (ps : List Str), FnW P w K mg base CX0 k f fd ps sp ∧ mg x = some (.ref f) ∧ PySem.W.keepIn K (.ref f) = true ∧ Binds K fd ps []
theorem clW_of {x : Str} {st : Stmt} {N ps : List Str} {k : Nat} {sp : Addr × Obj → Sp} (D : DefAt K mg x st ps) (S : FnScope N ps (defScope st)) (len : ∀ p vs H Q E, sp p vs H Q E → vs.length = ps.length)
    (hbody : ∀ (f : Addr) (cdv : Value) (A : Around) (outer : List Env) (s : Shared) (H : Hp) (vs : List V) (Q : VK) (E : XK) (p : Addr × Obj), L2H.RoomH k (A.deeper (envOfC x (defScope st) s.heap.objs.size f cdv)) → sp p vs H Q E →
      ∃ t, PSs (L2H.cxH CX0 P w K mg base N x (defScope st) f cdv A outer s H E p).nox (defBody st) t ∧ t { nx := fun _ H' => Q .non H', rt := Q } (L2.start N vs) H) : ClW P w K mg base (k + 1) x sp := by
  obtain ⟨f, fd, F, hm, b⟩ := D.ex
  exact ⟨f, fd, ps, Fun_okW F S len (hbody f), hm, F.kp, b⟩
theorem room_mark {k : Nat} {A : Around} (r : Room k A) (v : Option Value) : L2H.RoomH k (A.mark v) := ⟨r.dp, r.un⟩
theorem pe_cW {X : Cx} {k j : Nat} {x : Str} {sp : Addr × Obj → Sp} {q pos : Pos} {e : Expr} {es : List Expr} {t : TA} {p : Addr × Obj} (c : ClW X.prog X.w X.K X.mg X.base k x sp) (hr : L2H.RoomH j X.A) (hk : k ≤ j) (hp : p ∈ X.pn) (hg : Gl X x) (ha : PA X (e :: es) t)
    (hdb : (x == ("__debug__" : Str)) = false := by decide) (he : starEach (e :: es) X.env = (false, eval e X.env) :: starEach es X.env := by rfl) (hpl : (backTo pos (starEach es X.env)).any (·.1) = false := by rfl) :
    PE X (.Call (.Name x q) (e :: es) [] pos) (tCallS (sp p) (fun _ => E0) t) := by
  obtain ⟨f, fd, ps, F, hm, kp, b⟩ := c.ex
  exact pe_callW F (hr.mono hk) hp hg hm kp b (fun _ => passA0) ha hdb he hpl
abbrev cxd (P : Program) (w : World) (K : PySem.W.Frag) (mg : Str → Option Value) (base : Heap) (N : List Str) (x : Str) (st : Stmt) (f : Addr) (cdv : Value) (A : Around) (outer : List Env) (s : Shared) (H : Hp) (E : XK) : Cx := cxOf (L2.CX P w) P w K mg base N x (defScope st) f cdv A outer s H E
/-! in a suite -/
theorem call_isS {X : Cx} {a : Addr} {oe : Obj} {cls : Value} {d : Option Addr} {pn : List (Addr × Obj)} (EK : ErrK X.K) (hz : Zc cls d oe) (hf : ∃ vs, oe.data = .fields vs) : CallR (X.suite a ((a, oe) :: pn)) (.builtin "isinstance") (rIsX X.K a cls d) :=
  call_isX (X := X.suite a ((a, oe) :: pn)) EK List.mem_cons_self hz hf
theorem pe_errS {X : Cx} {a : Addr} {oe : Obj} {cls : Value} {d : Option Addr} {pn : List (Addr × Obj)} {e : Expr} {te : TE} {pos : Pos} {n : Str} (hz : Zc cls d oe) (hf : ∃ vs, oe.data = .fields vs) (he : PE (X.suite a ((a, oe) :: pn)) e te)
    (hb : attributeBase e n (X.suite a ((a, oe) :: pn)).env (eval e (X.suite a ((a, oe) :: pn)).env) = eval e (X.suite a ((a, oe) :: pn)).env := by rfl) : PE (X.suite a ((a, oe) :: pn)) (.Attribute e n pos) (tErrF X.K a cls d n te) :=
  pe_errF (X := X.suite a ((a, oe) :: pn)) List.mem_cons_self hz hf he hb
theorem pe_cWS {X : Cx} {a : Addr} {oe : Obj} {pn : List (Addr × Obj)} {k j : Nat} {x : Str} {sp : Addr × Obj → Sp} {q pos : Pos} {e : Expr} {es : List Expr} {t : TA} (c : ClW X.prog X.w X.K X.mg X.base k x sp) (hr : Room j X.A) (hk : k ≤ j) (hg : Gl X x) (ha : PA (X.suite a ((a, oe) :: pn)) (e :: es) t)
    (hdb : (x == ("__debug__" : Str)) = false := by decide) (he : starEach (e :: es) X.env = (false, eval e X.env) :: starEach es X.env := by rfl) (hpl : (backTo pos (starEach es X.env)).any (·.1) = false := by rfl) :
    PE (X.suite a ((a, oe) :: pn)) (.Call (.Name x q) (e :: es) [] pos) (tCallS (sp (a, oe)) (fun _ => E0) t) :=
  pe_cW (X := X.suite a ((a, oe) :: pn)) c (room_mark hr _) hk List.mem_cons_self hg ha hdb he hpl
/-! constants -/
theorem pe_const {X : Cx} {x : Str} {i : Int} {pos : Pos} (hg : Gl X x) (hm : ∃ t, X.mg x = some (.int i t)) (hd : (x == ("__debug__" : Str)) = false := by decide) : PE X (.Name x pos) (tC (.int i)) :=
  ⟨fun _ _ _ H _ I h => hm.elim fun t ht => ld_glob I hg ht ⟨.int i, H, I, ⟨t, rfl⟩, h⟩ hd⟩
/-! errors -/
structure Rs (P : Program) (w : World) (K : PySem.W.Frag) (mg : Str → Option Value) (base : Heap) (x : Str) (C : Addr) (mk : List V → List (Str × V) → Prop) : Prop where
  run : ∀ {X : Cx} {e : Expr} {es : List Expr} {ta : TA} {p pos : Pos}, X.prog = P → X.w = w → X.K = K → X.mg = mg → X.base = base → Room 2 X.A → Gl X x → PA X (e :: es) ta →
    starEach (e :: es) X.env = (false, eval e X.env) :: starEach es X.env → (backTo pos (starEach es X.env)).any (·.1) = false → PMk X (.Call (.Name x p) (e :: es) [] pos) (tErr C mk ta)
theorem pmk_rs {X : Cx} {j : Nat} {x : Str} {C : Addr} {mk : List V → List (Str × V) → Prop} {e : Expr} {es : List Expr} {ta : TA} {p pos : Pos} (c : Rs X.prog X.w X.K X.mg X.base x C mk) (hr : Room j X.A) (hk : 2 ≤ j) (hg : Gl X x) (ha : PA X (e :: es) ta)
    (he : starEach (e :: es) X.env = (false, eval e X.env) :: starEach es X.env := by rfl) (hpl : (backTo pos (starEach es X.env)).any (·.1) = false := by rfl) : PMk X (.Call (.Name x p) (e :: es) [] pos) (tErr C mk ta) :=
  c.run rfl rfl rfl rfl rfl (hr.mono hk) hg ha he hpl
theorem rs1 {x y f : Str} {C fI : Addr} {fd : FuncData} (T : OexC K C) (hm : mg x = some (.ref C)) (iC : PySem.W.findIn K (.ref C) "__init__" = some (some (.ref fI)))
    (tI : PySem.W.typeIn K (.ref fI) = some (.type "function")) (F : FnOk P w K mg base CX0 1 fI fd ["self", y] (spE1 C f)) (b : Binds K fd ["self", y] []) (hdb : (x == ("__debug__" : Str)) = false) : Rs P w K mg base x C (mk1 f) :=
  ⟨fun h1 h2 h3 h4 h5 hr hg ha he hpl => by subst h1 h2 h3 h4 h5; exact pmk_e1 T iC tI F hr b pass0 hg hm ha hdb he hpl⟩
theorem rs2 {x y z f g : Str} {C fI : Addr} {ok : V → Prop} {fd : FuncData} (T : OexC K C) (hm : mg x = some (.ref C)) (iC : PySem.W.findIn K (.ref C) "__init__" = some (some (.ref fI)))
    (tI : PySem.W.typeIn K (.ref fI) = some (.type "function")) (F : FnOk P w K mg base CX0 1 fI fd ["self", y, z] (spE2 C f g ok)) (b : Binds K fd ["self", y, z] []) (hdb : (x == ("__debug__" : Str)) = false) : Rs P w K mg base x C (mk2 f g ok) :=
  ⟨fun h1 h2 h3 h4 h5 hr hg ha he hpl => by subst h1 h2 h3 h4 h5; exact pmk_e2 T iC tI F hr b pass0 hg hm ha hdb he hpl⟩
end

/-! tests -/
section
variable {A B : Prop}
theorem ifT {c : Bool} (h : c = true) (a : A) : if c = true then A else B := by rw [if_pos h]; exact a
theorem ifF {c : Bool} (h : c = false) (b : B) : if c = true then A else B := by rw [h, if_neg Bool.false_ne_true]; exact b
theorem ifB {c : Bool} (h1 : c = true → A) (h2 : c = false → B) : if c = true then A else B := by
  cases c with
  | true => exact ifT rfl (h1 rfl)
  | false => exact ifF rfl (h2 rfl)
theorem ifD {p : Prop} [Decidable p] (h1 : p → A) (h2 : ¬ p → B) : if decide p = true then A else B := ifB (fun h => h1 (of_decide_eq_true h)) fun h => h2 (of_decide_eq_false h)
theorem ifN {p : Prop} [Decidable p] (h1 : ¬ p → A) (h2 : p → B) : if (!decide p) = true then A else B := ifB (fun h => h1 (by simpa using h)) fun h => h2 (by simpa using h)
theorem ifI {i j : Int} (h1 : i = j → A) (h2 : i ≠ j → B) : if decide (V.int i = V.int j) = true then A else B := ifD (fun h => h1 (V.int.inj h)) fun h => h2 fun e => h (by rw [e])
theorem ifIN {i j : Int} (h1 : i ≠ j → A) (h2 : i = j → B) : if (!decide (V.int i = V.int j)) = true then A else B := ifN (fun h => h1 fun e => h (by rw [e])) fun h => h2 (V.int.inj h)
end
theorem atI0 {x : V} {xs : List V} : atI (x :: xs) 0 = some x := at_of (j := 0) rfl rfl
theorem atI1 {x y : V} {xs : List V} : atI (x :: y :: xs) 1 = some y := at_of (j := 1) rfl rfl
theorem ixN_of {n j : Nat} {i : Int} (e : i = (j : Int)) (h : j < n) : ixN n i = some j := by
  unfold ixN
  rw [e, if_pos (Int.natCast_nonneg j), if_pos (by omega)]
  simp
theorem seqIx_of {n j : Nat} {i : Int} (e : i = (j : Int)) (h : j < n) : seqIndex? i n = some j := by
  rw [e, PySem.seqIndex_of (Int.natCast_nonneg j) (by omega)]
  simp
theorem len1 {x : V} {xs : List V} : 0 < (x :: xs).length := Nat.succ_pos _
theorem len2 {x y : V} {xs : List V} : 1 < (x :: y :: xs).length := Nat.succ_lt_succ (Nat.succ_pos _)

/-! heaps -/
theorem smN {H H' : Hp} {q : Addr} {o : HO} (s : Same H H') (h : H' q = none) : Same H (upd H' q o) := fun b u e => by rw [upd_ne (ne_of_none (s b u e) h)]; exact s b u e
theorem smM {H H' : Hp} {q : Addr} {o : HO} (s : Same H H') (h : H q = none) : Same H (upd H' q o) := fun b u e => by rw [upd_ne (ne_of_none e h)]; exact s b u e
theorem sm0 {H : Hp} {q : Addr} {o : HO} (h : H q = none) : Same H (upd H q o) := smN (Same.refl H) h
theorem smT {K : PySem.W.Frag} {H H' : Hp} {a : Addr} {xs : List V} (e : Same H H') (h : SqT K H a xs) : SqT K H' a xs := Evl.ex_t e h
/-- a value is read behind a new object -/
theorem atN {H : Hp} {q b : Addr} {o u : HO} (h : H b = some u) (n : H q = none) : upd H q o b = some u := by rw [upd_ne (ne_of_none h n)]; exact h
theorem ints_at {ns : List Int} {i : Nat} {x : V} (h : (ns.map V.int)[i]? = some x) : ∃ z, ns[i]? = some z ∧ x = V.int z := by
  rw [List.getElem?_map] at h
  cases e : ns[i]? with
  | none => rw [e] at h; cases h
  | some z => rw [e] at h; exact ⟨z, rfl, (Option.some.inj h).symm⟩
theorem at_ints {ns : List Int} {i : Nat} {z : Int} (h : ns[i]? = some z) : (ns.map V.int)[i]? = some (V.int z) := by rw [List.getElem?_map, h]; rfl
theorem sz_small {n : Nat} (h : n ≤ 100000) : n ≤ sizeLine := Nat.le_trans h (by decide)
theorem sz_lt {n : Nat} (h : n ≤ 100000) : n < sizeLine := Nat.lt_of_le_of_lt h (by decide)
theorem cut_map {α : Type} (F : α → V) (ns : List α) (lo hi : Option Int) : ∃ ms : List α, cutV (ns.map F) lo hi = ms.map F ∧ ms.length ≤ ns.length ∧ ms = (ns.drop (HT.sIx ns.length 0 lo)).take (HT.sIx ns.length ns.length hi - HT.sIx ns.length 0 lo) :=
  ⟨_, by unfold cutV; rw [List.length_map, List.map_take, List.map_drop], by rw [List.length_take, List.length_drop]; omega, rfl⟩
theorem pow10 {j : Int} (h0 : 0 ≤ j) (h1 : j ≤ 1000000) : CPow 10 j := ⟨h0, h1, by decide⟩
/-! attributes -/
theorem putF_new {f : Str} {v : V} : ∀ {fs : List (Str × V)}, fs.lookup f = none → putF f v fs = fs ++ [(f, v)]
  | [], _ => rfl
  | (g, y) :: fs, h => by
    have hne : ¬ g = f := fun e => by
      subst e
      simp [List.lookup] at h
    have h2 : fs.lookup f = none := by
      rw [lookup_put, if_neg (Ne.symm hne)] at h
      exact h
    show (if g = f then (g, v) :: fs else (g, y) :: putF f v fs) = _
    rw [if_neg hne, putF_new h2]
    rfl
theorem lk_hit {f : Str} {v : V} {fs : List (Str × V)} : ((f, v) :: fs).lookup f = some v := by rw [lookup_put, if_pos rfl]
theorem lk_next {f g : Str} {v : V} {fs : List (Str × V)} {o : Option V} (h : ¬ f = g) (k : fs.lookup f = o) : ((g, v) :: fs).lookup f = o := by rw [lookup_put, if_neg h]; exact k
theorem lk_nil {f : Str} : ([] : List (Str × V)).lookup f = none := rfl
end SI
set_option maxRecDepth 100000
set_option maxHeartbeats 4000000
/-! == of rows of ints; values by a measure of depth -/
namespace SI
open PySem PySem.Spec PyProof.Rows L2
theorem dpAll_map {α : Type} {K : PySem.W.Frag} {H : Hp} {F : α → V} {G : α → PyData} : ∀ {l : List α}, (∀ x ∈ l, Dp K H (F x) (G x)) → DpAll K H (l.map F) (l.map G)
  | [], _ => .nil
  | x :: l, h => .cons (h x List.mem_cons_self) (dpAll_map fun y hy => h y (List.mem_cons_of_mem _ hy))
theorem dpL {K : PySem.W.Frag} {H : Hp} {a : Addr} {ns : List Int} (h : SqL K H a (ns.map V.int)) : Dp K H (.ref a) (.list (ns.map PyData.int)) := .lst h (dpAll_map fun x _ => .int x)
theorem dpT {K : PySem.W.Frag} {H : Hp} {a : Addr} {ns : List Int} (h : SqT K H a (ns.map V.int)) : Dp K H (.ref a) (.tuple (ns.map PyData.int)) := .tup h (dpAll_map fun x _ => .int x)
theorem lay_ints : ∀ ns : List Int, PyData.canLayAll0 (ns.map PyData.int) = true ∧ PyData.depthAll (ns.map PyData.int) = 0
  | [] => ⟨rfl, rfl⟩
  | n :: ns => by
    obtain ⟨h1, h2⟩ := lay_ints ns
    refine ⟨?_, ?_⟩
    · show (PyData.canLay0 (.int n) && PyData.canLayAll0 (ns.map PyData.int)) = true
      rw [h1]
      rfl
    · show max (PyData.depth (.int n)) (PyData.depthAll (ns.map PyData.int)) = 0
      rw [h2]
      rfl
theorem shL (ns : List Int) : SeqAt.shaped (.list (ns.map PyData.int)) = true := by
  obtain ⟨h1, h2⟩ := lay_ints ns
  show (PyData.canLayAll0 (ns.map PyData.int) && decide (PyData.depthAll (ns.map PyData.int) + 1 ≤ 64)) = true
  rw [h1, h2]
  rfl
theorem shT (ns : List Int) : SeqAt.shaped (.tuple (ns.map PyData.int)) = true := by
  obtain ⟨h1, h2⟩ := lay_ints ns
  show (PyData.canLayAll0 (ns.map PyData.int) && decide (PyData.depthAll (ns.map PyData.int) + 1 ≤ 64)) = true
  rw [h1, h2]
  rfl
theorem eqv_all : ∀ xs ys : List Int, PyData.eqvAll (xs.map PyData.int) (ys.map PyData.int) = decide (xs = ys)
  | [], [] => rfl
  | [], _ :: _ => rfl
  | _ :: _, [] => rfl
  | x :: xs, y :: ys => by
    show ((x == y) && PyData.eqvAll (xs.map PyData.int) (ys.map PyData.int)) = _
    rw [eqv_all xs ys]
    by_cases h : x = y
    · subst h
      by_cases h2 : xs = ys
      · subst h2; simp
      · simp [h2]
    · simp [h]
theorem eqvL (xs ys : List Int) : PyData.eqv (.list (xs.map PyData.int)) (.list (ys.map PyData.int)) = decide (xs = ys) := eqv_all xs ys
theorem eqvT (xs ys : List Int) : PyData.eqv (.tuple (xs.map PyData.int)) (.tuple (ys.map PyData.int)) = decide (xs = ys) := eqv_all xs ys
end SI
set_option maxRecDepth 100000
set_option maxHeartbeats 4000000
/-! from what k_is finds to what the walks take -/
namespace SI
open PySem PySem.Spec PyProof.Rows L2 NdefX
section
variable {P : Program} {w : World} {K : PySem.W.Frag} {mg : Str → Option Value} {base h : Heap}
abbrev BindOk (x qual : Str) (st : Stmt) (ps : List Str) : Prop := ∀ (kV doc pm : Value) (an : Option Addr) (cdv ct : Value) (us : List Value), us.length = ps.length →
  bindArgs (PySem.W.fnOf x qual (defArgs st) (defBody st) (defScope st) .none kV doc pm an cdv ct) ⟨us, []⟩ = pure (ps.zip us)
theorem def_at {x : Str} {st : Stmt} {ps : List Str} {f : Addr} {oc kV doc pm cdv ct : Value} {od an : Option Addr} {osl : Array (Option Value)} (X : K.In h) (G : h.Ns mainGlobals mg) (hb : BindOk x x st ps)
    (a : PySem.W.nsIn K mainGlobals x = some (some (.ref f))) (l : K.lookup f = some ⟨oc, od, .func (PySem.W.fnOf x x (defArgs st) (defBody st) (defScope st) .none kV doc pm an cdv ct), osl⟩)
    (c : PySem.W.codeIn K cdv x = true) (k : PySem.W.keepIn K (.ref f) = true) {R : Prop} (r : DefAt K mg x st ps → R) : R :=
  r ⟨f, _, fun_mk l c k, PySem.W.mg_of X G a, (fun_mk l c k).binds hb⟩
theorem cls_at {C : Addr} (pg : PySem.W.plainGet K C Str.empty = true) (hd : PySem.W.hasDictIn K C = true) (po : PySem.W.plainOver K C = true) (sa : PySem.W.findIn K (.ref C) "__setattr__" = some (some (.builtin "object.__setattr__")))
    {R : Prop} (r : Cls K C → R) : R := r ⟨pg, hd, po, sa⟩
theorem mak_at {x qual : Str} {C : Addr} {st : Stmt} {ps : List Str} {f : Addr} {oc kV doc pm cdv ct : Value} {od an : Option Addr} {osl : Array (Option Value)} (X : K.In h) (G : h.Ns mainGlobals mg) (hb : BindOk "__init__" qual st ps)
    (a : PySem.W.nsIn K mainGlobals x = some (some (.ref C))) (mk : PySem.W.makesIn K C = true) (i : PySem.W.findIn K (.ref C) "__init__" = some (some (.ref f))) (n : PySem.W.isFn K (.ref f) = true) (kc : PySem.W.keepIn K (.ref C) = true)
    (l : K.lookup f = some ⟨oc, od, .func (PySem.W.fnOf "__init__" qual (defArgs st) (defBody st) (defScope st) .none kV doc pm an cdv ct), osl⟩)
    (c : PySem.W.codeIn K cdv qual = true) (k : PySem.W.keepIn K (.ref f) = true) {R : Prop} (r : MakAt K mg x C qual st ps → R) : R :=
  r ⟨f, _, ⟨mk, i, n, kc⟩, fun_mk l c k, PySem.W.mg_of X G a, (fun_mk l c k).binds hb⟩
theorem met_at {m qual : Str} {C : Addr} {st : Stmt} {ps : List Str} {f : Addr} {oc kV doc pm cdv ct : Value} {od an : Option Addr} {osl : Array (Option Value)} (hC : Cls K C) (hb : BindOk m qual st ps)
    (i : PySem.W.findIn K (.ref C) m = some (some (.ref f))) (n : PySem.W.isFn K (.ref f) = true)
    (l : K.lookup f = some ⟨oc, od, .func (PySem.W.fnOf m qual (defArgs st) (defBody st) (defScope st) .none kV doc pm an cdv ct), osl⟩)
    (c : PySem.W.codeIn K cdv qual = true) (k : PySem.W.keepIn K (.ref f) = true) {R : Prop} (r : MetAt K C m qual st ps → R) : R :=
  r ⟨f, _, hC, ⟨i, n, k⟩, fun_mk l c k, (fun_mk l c k).binds hb⟩
/-- a class of errors: at its name, what isinstance and except read of it -/
theorem exc_at {x : Str} {C : Addr} {nm q : Str} {N : Addr} {bs bm : List Value} {sn : List Str} {sub : List Value} {ab : Bool} {col : Option Bool} {dd : Option Addr} {k0 k1 k2 k3 k5 : Option Value} (X : K.In h) (G : h.Ns mainGlobals mg)
    (a : PySem.W.nsIn K mainGlobals x = some (some (.ref C))) (l : K.lookup C = some (excClassObj nm q C N bs bm true sn sub ab col dd k0 k1 k2 k3 k5 "ValueError.__new__")) (rf : PySem.HandSPX.refsVE bm = true)
    (sa : PySem.W.findIn K (.ref C) "__setattr__" = some (some (.builtin "object.__setattr__"))) (exC : PySem.W.subIn K (.ref C) (.type "BaseException") = some true) (tyC : PySem.W.typeIn K (.ref C) = some (.type "type")) (kC : PySem.W.keepIn K (.ref C) = true)
    (ga : PySem.W.findIn K (.ref C) "__getattribute__" = some (some (.builtin "BaseException.__getattribute__"))) (gg : PySem.W.findIn K (.ref C) "__getattr__" = some none) (hd : PySem.W.hasDictIn K C = true)
    (ac : PySem.W.findIn K (.ref C) "__class__" = some (some (.builtin "object.__class__"))) (mo : PySem.W.mroIn K C (.type "object") = some true)
    {R : Prop} (r : mg x = some (.ref C) → OexC K C → ErrC K C → R) : R :=
  r (PySem.W.mg_of X G a) ⟨⟨nm, q, N, bs, bm, sn, sub, ab, col, dd, k0, k1, k2, k3, k5, l, rf⟩, sa, exC, tyC, kC⟩
    ⟨by unfold PySem.W.clsIn; rw [l] <;> rfl, ga, gg, exC, hd, ac, mo⟩
/-- what an own __init__ with super() is -/
theorem sup_at {C fI : Addr} {qual : Str} {st : Stmt} {e0 : Expr} {rest : List Stmt} {p0 p1 p2 p3 p4 : Pos} {oc : Value} {od : Option Addr} {kV doc pm : Value} {an : Option Addr} {ct : Value} {osl : Array (Option Value)} {cc cda : Addr}
      {q1 : Value} {q2 : Option Addr} {q3 : Array (Option Value)} {r1 : Value} {r2 : Option Addr} {vs : Array Value} {r3 : Array (Option Value)} {file : Str} {tf : Tok} (X : K.In h) (G : h.Ns mainGlobals mg) (O : OexC K C)
    (hbody : defBody st = .Expr (.Call (.Attribute (.Call (.Name "super" p0) [] [] p1) "__init__" p2) [e0] [] p3) p4 :: rest)
    (i : PySem.W.findIn K (.ref C) "__init__" = some (some (.ref fI))) (t : PySem.W.typeIn K (.ref fI) = some (.type "function"))
    (l : K.lookup fI = some ⟨oc, od, .func (PySem.W.fnX "__init__" qual (defArgs st) (defBody st) (defScope st) [("__class__", cc)] .none kV doc pm an (.ref cda) ct), osl⟩)
    (c : PySem.W.codeIn K (.ref cda) qual = true) (lc : K.lookup cda = some ⟨r1, r2, .fields vs, r3⟩) (hf : vs[2]? = some (.str file tf)) (hm : (P.main.file == file) = true) (lcc : K.lookup cc = some ⟨q1, q2, .cell (some (.ref C)), q3⟩)
    (self : PySem.W.mroIn K C (.ref C) = some true) (sup : PySem.W.ks_superIn K C C "__init__" = some (some (.builtin "ValueError.__init__"))) (sub : PySem.W.subIn K (.ref C) (.type "ValueError") = some true)
    (z : PySem.W.nsIn K mainGlobals "super" = some none) (any : PySem.W.nsIn K cStatics "thirdparty.any" = some none) (top : (P.main.scope.names.lookup ("super" : Str)).isSome = false)
    {R : Prop} (r : ∀ fd, SupF P K mg C fI qual (defArgs st) e0 rest (defScope st) p0 p1 p2 p3 p4 fd → PySem.W.findIn K (.ref C) "__init__" = some (some (.ref fI)) → PySem.W.typeIn K (.ref fI) = some (.type "function") → 
      (∃ (kV doc pm : Value) (an : Option Addr) (cc : Addr) (cdv ct : Value), fd = PySem.W.fnX "__init__" qual (defArgs st) (defBody st) (defScope st) [("__class__", cc)] .none kV doc pm an cdv ct) → R) : R :=
  r _ ⟨⟨oc, od, kV, doc, pm, an, ct, osl, cc, cda, q1, q2, q3, r1, r2, vs, r3, file, tf, by rw [hbody], l, c, lc, hf, hm, lcc⟩, O, self, sup, sub, PySem.W.mg_none_of X G z, any, top⟩ i t ⟨kV, doc, pm, an, cc, .ref cda, ct, rfl⟩
abbrev BindX (qual : Str) (st : Stmt) (ps : List Str) : Prop := ∀ (kV doc pm : Value) (an : Option Addr) (cc : Addr) (cdv ct : Value) (us : List Value), us.length = ps.length →
  bindArgs (PySem.W.fnX "__init__" qual (defArgs st) (defBody st) (defScope st) [("__class__", cc)] .none kV doc pm an cdv ct) ⟨us, []⟩ = pure (ps.zip us)
theorem bindX {qual : Str} {st : Stmt} {ps : List Str} {fd : FuncData} (hb : BindX qual st ps) (e : ∃ (kV doc pm : Value) (an : Option Addr) (cc : Addr) (cdv ct : Value), fd = PySem.W.fnX "__init__" qual (defArgs st) (defBody st) (defScope st) [("__class__", cc)] .none kV doc pm an cdv ct) : Binds K fd ps [] := by
  obtain ⟨kV, doc, pm, an, cc, cdv, ct, rfl⟩ := e
  exact .all (hb kV doc pm an cc cdv ct)
theorem xm_at {C D : Addr} {b : Bool} (e : ErrC K D) (o : OexC K D) (s : PySem.W.subIn K (.ref C) (.ref D) = some b) : PySem.W.exmOne K (.ref C) (.ref D) = some b := PySem.W.exm_ref e.exC e.hd o.tyC s
theorem kit_ref {C D : Addr} {b : Bool} (e : ErrC K D) (o : OexC K D) (n : C ≠ D) (s : PySem.W.subIn K (.ref C) (.ref D) = some b) : PySem.W.kitOne K (.ref C) (.ref D) = some b := by
  unfold PySem.W.kitOne
  rw [if_neg (by intro z; exact n (by have := eq_of_beq z; cases this; rfl))]
  show (if ((PySem.W.clsIn K D).isSome && PySem.W.typeIn K (.ref D) == some (.type "type")) = true then _ else none) = _
  rw [if_pos (by rw [e.cl, o.tyC] <;> rfl)]
  exact s
theorem kit_self {C : Addr} : PySem.W.kitOne K (.ref C) (.ref C) = some true := by
  unfold PySem.W.kitOne
  rw [if_pos (by simp)]
theorem kit_VE {C : Addr} (s : PySem.W.subIn K (.ref C) (.type "ValueError") = some true) : PySem.W.kitOne K (.ref C) (.type "ValueError") = some true := by
  unfold PySem.W.kitOne
  rw [if_neg (by intro z; have := eq_of_beq z; cases this)]
  show (if PySem.W.kitMeta "ValueError" = true then _ else none) = _
  rw [if_pos (by decide +kernel)]
  exact s
theorem int_at {x : Str} {i : Int} {t : Tok} (X : K.In h) (G : h.Ns mainGlobals mg) (a : PySem.W.nsIn K mainGlobals x = some (some (.int i t))) : ∃ t, mg x = some (.int i t) := ⟨t, PySem.W.mg_of X G a⟩
theorem int_is {x : Str} {i : Int} {t : Tok} (X : K.In h) (G : h.Ns mainGlobals mg) (a : PySem.W.nsIn K mainGlobals x = some (some (.int i t))) {R : Prop} (r : (∃ t, mg x = some (.int i t)) → R) : R := r ⟨t, PySem.W.mg_of X G a⟩
theorem int_as {x : Str} {i j : Int} (e : i = j) (h : ∃ t, mg x = some (.int i t)) : ∃ t, mg x = some (.int j t) := e ▸ h
theorem law_at {l : PySem.W.OpenLaw} {k : Nat} {fa : Addr} {x y : Str} {st : Stmt} {sp : Sp} {oc kV doc pm cdv ct : Value} {f : Addr} {od an : Option Addr} {osl : Array (Option Value)} (X : K.In h) (G : h.Ns mainGlobals mg) (hfa : mg x = some (.ref fa)) (hb : BindOk x x st [y])
    (hl : K.lookup f = some ⟨oc, od, .func (PySem.W.fnOf x x (defArgs st) (defBody st) (defScope st) .none kV doc pm an cdv ct), osl⟩) (a : PySem.W.nsIn K mainGlobals x = some (some (.ref f)))
    (c : ∀ base, Cd l.prog w K mg base k x st [y] sp) :
    ∃ fd : FuncData, (∀ (s : Shared) (v : Value), BindsTo s fd ⟨[v], []⟩ [(y, v)]) ∧ ∀ base : Heap, K.In base → base.Ns mainGlobals mg → FnOk l.prog w K mg base (L2.CX l.prog w) k fa fd [y] sp := by
  have e := hfa.symm.trans (PySem.W.mg_of X G a)
  cases e
  refine ⟨_, fun s v => .of_eq (hb kV doc pm an cdv ct [v] rfl), fun base _ _ => ?_⟩
  obtain ⟨f', fd', F, Fn, hm, b⟩ := (c base).ex
  have e2 := hm.symm.trans hfa
  cases e2
  obtain ⟨oc', od', kV', doc', pm', an', cdv', ct', osl', rfl, lk, hcd⟩ := Fn.ex
  have e3 := lk.symm.trans hl
  injection e3 with e3
  injection e3 with _ _ e3 _
  injection e3 with e3
  rw [← e3]
  exact F
end
theorem walkK {l : PySem.W.OpenLaw} {n k : Nat} {q : Program} {loose : List Str} {XP : (Str → Option Value) → Heap → Prop} {YP : World → Heap → Prop} {d : DefRec} {K : Params → PySem.W.Frag} {sp : PySem.W.Frag → Sp} {x : Str}
    (hn : l.most = some n) (hn2 : n ≤ sizeLine) (hdf : d.params.defaults = []) (hr : Room k callerA) (hsp : ∀ (K : PySem.W.Frag) (H : Hp) (a : Addr) (ns : List Int), ns.length ≤ n → SqL K H a (ns.map V.int) → sp K [.ref a] H (fun v _ => v = .bl true) fun _ _ _ => False)
    (hY : ∀ (w : World) (h : Heap), YP w h → (K w.params).In h)
    (F : ∀ (w : World) (mg : Str → Option Value) (fa : Addr) (h : Heap), (K w.params).In h → h.Ns mainGlobals mg → mg d.name = some (.ref fa) →
      ∃ fd : FuncData, (∀ (s : Shared) (u : Value), BindsTo s fd ⟨[u], []⟩ [(x, u)]) ∧
        ∀ base : Heap, (K w.params).In base → base.Ns mainGlobals mg → FnOk l.prog w (K w.params) mg base (L2.CX l.prog w) k fa fd [x] (sp (K w.params))) :
    PySem.W.WalkO q loose XP YP l.row.toRowW d [] (fun f vs => PySem.call f vs) :=
  L2.walk_of (CX := fun w => L2.CX l.prog w) (sp := fun w => sp (K w.params)) hn hn2 hdf hr hY F (fun w H a ns hl _ hS => hsp _ H a ns hl hS) fun w H s e s' h => by
    obtain ⟨_, _, _, _, _, _, _, _, _, _, _, _, hE⟩ := h
    exact hE
end SI
namespace K39
/-! the arithmetic: plain -/
def fs (p : Int) (ns : List Int) : Int := (ns.map fun c => c - c / p).sum
theorem one_up (c z : Int) (h : 1 ≤ c) : (z * (c - 1) + c - 1) / c = z - z / c := by
  have e : z * (c - 1) + c - 1 = (c - 1 - z % c) + c * (z - z / c) := by
    have d := Int.mul_ediv_add_emod z c
    have m : c * (z - z / c) = c * z - c * (z / c) := Int.mul_sub c z (z / c)
    have m2 : z * (c - 1) = z * c - z := by rw [Int.mul_sub, Int.mul_one]
    have m3 : z * c = c * z := Int.mul_comm z c
    omega
  have h0 := Int.emod_nonneg z (show c ≠ 0 by omega)
  have h1 := Int.emod_lt_of_pos z (show 0 < c by omega)
  rw [e, Int.add_mul_ediv_left _ _ (show c ≠ 0 by omega), Int.ediv_eq_zero_of_lt (by omega) (by omega)]
  omega
theorem fold_from (c : Int) (h : 1 ≤ c) : ∀ (ns : List Int) (t : Int), ns.foldl (fun t z => t + (z * (c - 1) + c - 1) / c) t = t + fs c ns
  | [], t => by unfold fs; simp
  | z :: ns, t => by
    show ns.foldl _ (t + (z * (c - 1) + c - 1) / c) = _
    rw [fold_from c h ns, one_up c z h]
    unfold fs
    rw [List.map_cons, List.sum_cons]
    omega
theorem sumset (f : Int → Int) : ∀ (l : List Int) (j : Nat) (z y : Int), l[j]? = some z → ((l.set j y).map f).sum = (l.map f).sum - f z + f y
  | [], j, z, y, h => by simp at h
  | a :: r, 0, z, y, h => by
    have e : a = z := by simpa using h
    subst e
    show ((y :: r).map f).sum = ((a :: r).map f).sum - f a + f y
    rw [List.map_cons, List.map_cons, List.sum_cons, List.sum_cons]
    omega
  | a :: r, j + 1, z, y, h => by
    have ih := sumset f r j z y (by simpa using h)
    show ((a :: r.set j y).map f).sum = ((a :: r).map f).sum - f z + f y
    rw [List.map_cons, List.map_cons, List.sum_cons, List.sum_cons, ih]
    omega
theorem less_one (c z : Int) (h : 1 ≤ c) : (z - 1) - (z - 1) / c = (z - z / c) - (if z % c = 0 then 0 else 1) := by
  have d := Int.mul_ediv_add_emod z c
  have h0 := Int.emod_nonneg z (show c ≠ 0 by omega)
  have h1 := Int.emod_lt_of_pos z (show 0 < c by omega)
  split
  · rename_i e
    have e1 : z - 1 = (c - 1) + c * (z / c - 1) := by
      have m : c * (z / c - 1) = c * (z / c) - c := by rw [Int.mul_sub, Int.mul_one]
      omega
    have e2 : (z - 1) / c = z / c - 1 := by
      rw [e1, Int.add_mul_ediv_left _ _ (show c ≠ 0 by omega), Int.ediv_eq_zero_of_lt (show 0 ≤ c - 1 by omega) (show c - 1 < c by omega)]
      omega
    omega
  · rename_i e
    have e1 : z - 1 = (z % c - 1) + c * (z / c) := by omega
    have e2 : (z - 1) / c = z / c := by
      rw [e1, Int.add_mul_ediv_left _ _ (show c ≠ 0 by omega), Int.ediv_eq_zero_of_lt (show 0 ≤ z % c - 1 by omega) (show z % c - 1 < c by omega)]
      omega
    omega
theorem more_c (c z : Int) (h : 1 ≤ c) : (z + c) - (z + c) / c = (z - z / c) + (c - 1) := by
  have e : (z + c) / c = z / c + 1 := by
    have := Int.add_mul_ediv_left z 1 (show c ≠ 0 by omega)
    rw [Int.mul_one] at this
    exact this
  rw [e]
  omega
end K39
set_option maxRecDepth 100000
set_option maxHeartbeats 4000000
namespace K39
open PySem L2 SI
def top (i : Nat) : Stmt := PySem.Challenge.pw_pebblesreach_k39_fold_sums.main.body.getD i (.Pass ⟨0, 0, 0, 0⟩)
abbrev sCheckCounts : Stmt := top 11
abbrev sCheckEntries : Stmt := top 12
abbrev sPebblesInit : Stmt := inClass (top 14) 0
abbrev sFoldSum : Stmt := top 19
abbrev sLStart : Stmt := top 21
abbrev sLDraw : Stmt := top 22
abbrev sLCount : Stmt := top 23
abbrev sLRounded : Stmt := top 24
abbrev sLIs : Stmt := top 25
abbrev sLRefused : Stmt := top 26
abbrev sLaw : Stmt := top 27
def MOST : Int := 10 ^ 120
structure Txt (P : Program) (w : World) (K : PySem.W.Frag) (mg : Str → Option Value) (base : Heap) (CPebbleError CBadCount CNotPebbles CWrongWidth CBadPrice CPebbles : Addr) : Prop where
  b_len : mg "len" = none
  b_int : mg "int" = none
  b_enumerate : mg "enumerate" = none
  b_tuple : mg "tuple" = none
  b_sum : mg "sum" = none
  b_list : mg "list" = none
  b_isinstance : mg "isinstance" = none
  b_bool : mg "bool" = none
  b_range : mg "range" = none
  b_ValueError : mg "ValueError" = none
  c_MOST : ∃ t, mg "MOST" = some (.int MOST t)
  c_MOST_NODES : ∃ t, mg "MOST_NODES" = some (.int 64 t)
  c_MOST_PRICE : ∃ t, mg "MOST_PRICE" = some (.int 31 t)
  c_LEAST_PRICE : ∃ t, mg "LEAST_PRICE" = some (.int 2 t)
  rBadCount : Rs P w K mg base "BadCount" CBadCount (mk2 "what" "many" fun v => ∃ t : Str, v = .str t ∧ t.length ≤ 1000)
  rNotPebbles : Rs P w K mg base "NotPebbles" CNotPebbles (mk1 "at")
  d_check_counts : DefAt K mg "check_counts" sCheckCounts ["many"]
  d_check_entries : DefAt K mg "check_entries" sCheckEntries ["counts"]
  d_fold_sum : DefAt K mg "fold_sum" sFoldSum ["price", "placing"]
  d__law_start : DefAt K mg "_law_start" sLStart ["script"]
  d__law_draw : DefAt K mg "_law_draw" sLDraw ["pool", "size"]
  d__law_count : DefAt K mg "_law_count" sLCount ["pool", "cost"]
  d__law_rounded : DefAt K mg "_law_rounded" sLRounded ["cost", "counts"]
  d__law_is : DefAt K mg "_law_is" sLIs ["told", "due"]
  d__law_refused : DefAt K mg "_law_refused" sLRefused ["wrong", "heap"]
  d_law : DefAt K mg "law" sLaw ["script"]
  m_Pebbles : MakAt K mg "Pebbles" CPebbles "Pebbles.__init__" sPebblesInit ["self", "counts"]
  lPebbles : Cls K CPebbles
  nPebbles_counts : NoAttr K CPebbles "counts"
  nPebbles_nodes : NoAttr K CPebbles "nodes"
  nPebbles_size : NoAttr K CPebbles "size"
  gPebbleError : mg "PebbleError" = some (.ref CPebbleError)
  gBadCount : mg "BadCount" = some (.ref CBadCount)
  gNotPebbles : mg "NotPebbles" = some (.ref CNotPebbles)
  gWrongWidth : mg "WrongWidth" = some (.ref CWrongWidth)
  gBadPrice : mg "BadPrice" = some (.ref CBadPrice)
  ek : ErrK K
  eBadCount : ErrC K CBadCount
  fBadCount_what : PySem.W.findIn K (.ref CBadCount) "what" = some none
  fBadCount_many : PySem.W.findIn K (.ref CBadCount) "many" = some none
  xBadCount_PebbleError : PySem.W.exmOne K (.ref CBadCount) (.ref CPebbleError) = some true
  tBadCount_ValueError : PySem.W.kitOne K (.ref CBadCount) (.type "ValueError") = some true
  tBadCount_BadCount : PySem.W.kitOne K (.ref CBadCount) (.ref CBadCount) = some true
  tBadCount_NotPebbles : PySem.W.kitOne K (.ref CBadCount) (.ref CNotPebbles) = some false
  tBadCount_WrongWidth : PySem.W.kitOne K (.ref CBadCount) (.ref CWrongWidth) = some false
  tBadCount_BadPrice : PySem.W.kitOne K (.ref CBadCount) (.ref CBadPrice) = some false
end K39
set_option maxRecDepth 100000
set_option maxHeartbeats 4000000
namespace K39
open PySem L2 SI
/-! ### the pool of the law's draws -/
def spDraw : Sp := fun vs H Q _ => ∃ (a : Addr) (ns : List Int) (n : Int), vs = [.ref a, .int n] ∧ H a = some (.lst (ns.map V.int)) ∧ 0 < ns.length ∧ ns.length ≤ 64 ∧ CDivW 0 n ∧
  ∀ (d : Int) (ns' : List Int), 0 ≤ d → d < n → 0 < ns'.length → ns'.length ≤ 64 → Q (.int d) (upd H a (.lst (ns'.map V.int)))
section
variable {P : Program} {w : World} {K : PySem.W.Frag} {mg : Str → Option Value} {base : Heap} {C1 C2 C3 C4 C5 C6 : Addr}
theorem scLDraw : FnScope ["pool", "size", "digit"] ["pool", "size"] (defScope sLDraw) := ⟨rfl, rfl, rfl, by decide +kernel, rfl, by decide +kernel, by decide +kernel⟩
theorem ok_LDraw (T : Txt P w K mg base C1 C2 C3 C4 C5 C6) : Cl P w K mg base 1 "_law_draw" spDraw [] := by
  refine cl_of T.d__law_draw scLDraw (fun vs H Q E h => ?_) fun f cdv A outer s H vs Q E hr h => ?_
  · obtain ⟨a, ns, n, rfl, _⟩ := h
    rfl
  · obtain ⟨a, ns, n, rfl, ha, hl, hl2, hn, k⟩ := h
    refine ⟨_, (pss_cons (ps_if (pt_cmpR op_eq (pe_callB call_len_seq (by rfl) T.b_len (by decide +kernel) (pa_cons (pv 0) pa_nil)) pe_int (nomark _))
    (pss_cons (ps_asg (pe_op op_add (pe_ix ix_list (pv 0) pe_int (fun _ _ => rfl)) pe_int) (pg_sub (pv 0) pe_int set_list))
    (pss_one (ps_ret (pe_op op_mod (pe_callTy call_intI (by rfl) T.b_int (by decide +kernel) (pa_cons (pe_op op_sub (pe_ix ix_list (pv 0) pe_int (fun _ _ => rfl)) pe_int) pa_nil)) (pv 1)))))
    pss_nil)
  (pss_cons (ps_set (i := 2) scLDraw.nd rfl (by first | exact Or.inl rfl | exact Or.inr rfl) (pe_op op_mod (pe_callTy call_intI (by rfl) T.b_int (by decide +kernel) (pa_cons (pe_ix ix_list (pv 0) pe_int (fun _ _ => rfl)) pa_nil)) (pv 1)))
  (pss_cons (ps_asg (pe_op op_fdivW (pe_ix ix_list (pv 0) pe_int (fun _ _ => rfl)) (pv 1)) (pg_sub (pv 0) pe_int set_list))
  (pss_cons (ps_if (pt_cmpR op_eq (pe_ix ix_list (pv 0) pe_int (fun _ _ => rfl)) pe_int (nomark _))
    (pss_one (ps_expr (pe_bm PySem.F.plainAttrs_list PySem.F.slot_list_pop PySem.F.type_list_pop mt_popAt (pv 0) (pa_cons pe_int pa_nil))))
    pss_nil)
  (pss_one (ps_ret (pv 2))))))), ?_⟩
    have hn0 : 0 < n := hn.1
    -- if len(pool) == 1
    refine ⟨_, rfl, a, _, rfl, .inl (SqL.of ha), rfl, _, rfl, ?_⟩
    match ns, ha, hl, hl2, k with
    | [x], ha, _, _, k =>
      refine iteT ?_
      refine ⟨_, rfl, a, _, _, _, rfl, rfl, SqL.of ha, atI0, _, _, rfl, rfl, _, rfl, a, _, _, 0, rfl, rfl, ha, rfl, ?_⟩
      refine ⟨_, rfl, a, _, _, _, rfl, rfl, SqL.of upd_same, atI0, _, _, rfl, rfl, _, rfl, _, rfl, _, _, rfl, rfl, hn0, ?_⟩
      exact k _ [x + 1] (Int.emod_nonneg _ (by omega)) (Int.emod_lt_of_pos _ hn0) (by simp) (by simp)
    | x :: y :: r, ha, _, hl2, k =>
      refine ifI (fun h => absurd h (by simp only [List.length_map, List.length_cons]; omega)) fun _ => ?_
      -- digit = int(pool[1]) % size; pool[1] = pool[1] // size
      refine ⟨_, rfl, a, _, _, _, rfl, rfl, SqL.of ha, atI1, _, rfl, _, rfl, _, _, rfl, rfl, hn0, ?_⟩
      refine ⟨_, rfl, a, _, _, _, rfl, rfl, SqL.of ha, atI1, _, rfl, _, _, rfl, rfl, hn, _, rfl, a, _, _, 1, rfl, rfl, ha, ixN_of rfl len2, ?_⟩
      -- if pool[1] == 0: pool.pop(1)
      refine ⟨_, rfl, a, _, _, _, rfl, rfl, SqL.of upd_same, atI1, rfl, _, rfl, ?_⟩
      have h0 := Int.emod_nonneg y (show n ≠ 0 by omega)
      have h1 := Int.emod_lt_of_pos y hn0
      refine ifI (fun _ => ?_) fun _ => ?_
      · refine ⟨_, rfl, .inl ⟨rfl, _, SqL.of upd_same⟩, a, _, _, 1, _, rfl, rfl, upd_same, by decide, by decide, seqIx_of rfl len2, rfl, ?_⟩
        refine ⟨_, rfl, ?_⟩
        rw [upd_upd]
        have q := k (y % n) (x :: r) h0 h1 (by simp) (by simp only [List.length_cons] at hl2 ⊢; omega)
        exact q
      · refine ⟨_, rfl, ?_⟩
        have q := k (y % n) (x :: y / n :: r) h0 h1 (by simp) (by simpa using hl2)
        exact q
end
end K39
set_option maxRecDepth 100000
set_option maxHeartbeats 4000000
namespace K39
open PySem L2 SI
def spStart (K : PySem.W.Frag) : Sp := fun vs H Q _ => ∃ (a : Addr) (ns : List Int), vs = [.ref a] ∧ SqL K H a (ns.map V.int) ∧ ns.length ≤ 63 ∧
  ∀ (p : Addr) (H' : Hp) (ns' : List Int), Same H H' → H p = none → H' p = some (.lst (ns'.map V.int)) → 0 < ns'.length → ns'.length ≤ 64 → Q (.ref p) H'
section
variable {P : Program} {w : World} {K : PySem.W.Frag} {mg : Str → Option Value} {base : Heap} {C1 C2 C3 C4 C5 C6 : Addr}
theorem scLStart : FnScope ["script", "cell"] ["script"] (defScope sLStart) := ⟨rfl, rfl, rfl, by decide +kernel, rfl, by decide +kernel, by decide +kernel⟩
theorem ok_LStart (T : Txt P w K mg base C1 C2 C3 C4 C5 C6) : Cl P w K mg base 1 "_law_start" (spStart K) [] := by
  refine cl_of T.d__law_start scLStart (fun vs H Q E h => ?_) fun f cdv A outer s H vs Q E hr h => ?_
  · obtain ⟨a, ns, rfl, _⟩ := h
    rfl
  · obtain ⟨a, ns, rfl, ha, hl, k⟩ := h
    refine ⟨_, (pss_one (ps_ret (pe_op op_cat (pe_lst (pa_cons pe_int pa_nil)) (pe_lc (own := [(("cell" : Str), 1)]) (g := gName 1) (by rfl) scLStart.nd (pi_list (pe_slice sl_list (pv 0) po_none (po_some pe_int))) (blkOk_by (own := [(("cell" : Str), 1)]) (N := ["script", "cell"]) (sc := defScope sLStart) (by decide +kernel)) (fun _ _ _ _ _ => (pg_name (i := 1) scLStart.nd rfl (by first | exact Or.inl rfl | exact Or.inr rfl))) (fun _ _ _ _ _ => pts_nil) (fun _ _ _ _ _ => (pe_op op_mod (pe_callTy call_intI (by rfl) T.b_int (by decide +kernel) (pa_cons (pv 1) pa_nil)) (pe_op op_pow pe_int pe_int))))))), ?_⟩
    obtain ⟨ms, ecut, hms, _⟩ := cut_map V.int ns none (some 63)
    refine ⟨by show 1 ≤ sizeLine; decide, fun l1 h1 => ?_⟩
    have s1 : Same H (upd H l1 (.lst [.int 0])) := sm0 h1
    refine ⟨_, rfl, _, rfl, a, _, rfl, s1.seq ha, ?_⟩
    rw [ecut]
    intro p hp
    refine ⟨p, rfl, ⟨_, SqL.of upd_same⟩, fun D hD => lc_list (K := K) (a := p) (xs := ms.map V.int)
      (fun i H' => Same (upd (upd H l1 (.lst [.int 0])) p (.lst (ms.map V.int))) H' ∧ ∃ acc : List Int, H' D = some (.lst (acc.map V.int)) ∧ acc.length = i)
      ⟨sm0 hD, [], upd_same, rfl⟩ (fun i H' _ h => h.1.seq (SqL.of upd_same)) (fun i x H' hx h => ?_) fun H' h => ?_⟩
    · obtain ⟨sh, acc, hacc, hlen⟩ := h
      obtain ⟨z, hz, rfl⟩ := ints_at hx
      have hi : i < ms.length := (List.getElem?_eq_some_iff.mp hz).1
      refine ⟨rfl, ?_⟩
      refine ⟨_, rfl, _, rfl, _, _, rfl, rfl, pow10 (by decide) (by decide), _, _, rfl, rfl, (by show (0 : Int) < 10 ^ 60; decide), _, hacc, by rw [List.length_map]; exact sz_lt (by omega), smM sh hD, acc ++ [z % 10 ^ 60], ?_, by simp [hlen]⟩
      rw [upd_same, List.map_append]
      rfl
    · obtain ⟨sh, acc, hacc, hlen⟩ := h
      rw [List.length_map] at hlen
      have e1 := sh _ _ (atN upd_same hp)
      refine ⟨l1, D, _, _, rfl, rfl, e1, hacc, (by rw [List.length_map]; exact sz_small (by show 1 + acc.length ≤ _; omega)), fun q hq => ?_⟩
      refine k q _ (0 :: acc) ?_ ?_ (by rw [upd_same]; rfl) (by simp) (by simp; omega)
      · exact smN (s1.trans ((sm0 hp).trans sh)) hq
      · exact (s1.trans ((sm0 hp).trans sh)).free hq
end
end K39
set_option maxRecDepth 100000
set_option maxHeartbeats 4000000
namespace K39
open PySem L2 SI
local macro_rules | `(tactic| walk_at "lk") => `(tactic| first | exact lk_hit | exact lk_nil | (refine lk_next (by decide +kernel) ?_; walk_at "lk"))
def spCheckCounts (CB : Addr) : Sp := fun vs H Q E => ∃ m : Int, vs = [.int m] ∧ (1 ≤ m → m ≤ 64 → Q .non H) ∧ ((m < 1 ∨ 64 < m) → ∀ d, H d = none → E (.ref CB) (some d) (upd H d (.xd [("many", .int m), ("what", .str "counts")])))
/-- the first entry below 0 or above MOST -/
def firstBad (ns : List Int) (i : Nat) : Prop := (∃ z, ns[i]? = some z ∧ (z < 0 ∨ MOST < z)) ∧ ∀ (j : Nat) z, j < i → ns[j]? = some z → 0 ≤ z ∧ z ≤ MOST
def spCheckEntries (K : PySem.W.Frag) (CN : Addr) : Sp := fun vs H Q E => ∃ (a : Addr) (ns : List Int), vs = [.ref a] ∧ SqT K H a (ns.map V.int) ∧
  ((∀ z ∈ ns, 0 ≤ z ∧ z ≤ MOST) → ∀ H', Same H H' → Q .non H') ∧ (∀ i, firstBad ns i → ∀ d H', Same H H' → H' d = none → E (.ref CN) (some d) (upd H' d (.xd [("at", .int (i : Nat))])))
def pebF (q : Addr) (ns : List Int) : List (Str × V) := [("counts", .ref q), ("nodes", .int (ns.length : Nat)), ("size", .int ns.sum)]
def PebAt (C : Addr) (H : Hp) (h : Addr) (ns : List Int) : Prop := ∃ dx q, H h = some (.ins C dx (pebF q ns)) ∧ H q = some (.tup (ns.map V.int))
def okNs (ns : List Int) : Prop := 1 ≤ ns.length ∧ ns.length ≤ 64 ∧ ∀ z ∈ ns, 0 ≤ z ∧ z ≤ MOST
/-- Pebbles(counts): counts a list or a tuple -/
def spPebInit (K : PySem.W.Frag) (C : Addr) : Sp := fun vs H Q E => ∃ (p dx a : Addr) (ns : List Int), vs = [.ref p, .ref a] ∧ H p = some (.ins C dx []) ∧ (SqL K H a (ns.map V.int) ∨ H a = some (.tup (ns.map V.int))) ∧ okNs ns ∧
  ∀ H', (∀ b o, H b = some o → b ≠ p → H' b = some o) → PebAt C H' p ns → Q .non H'
section
variable {P : Program} {w : World} {K : PySem.W.Frag} {mg : Str → Option Value} {base : Heap} {C1 C2 C3 C4 C5 C6 : Addr}
theorem scCheckCounts : FnScope ["many"] ["many"] (defScope sCheckCounts) := ⟨rfl, rfl, rfl, by decide +kernel, rfl, by decide +kernel, by decide +kernel⟩
theorem ok_CheckCounts (T : Txt P w K mg base C1 C2 C3 C4 C5 C6) : Cl P w K mg base 3 "check_counts" (spCheckCounts C2) [] := by
  refine cl_of T.d_check_counts scCheckCounts (fun vs H Q E h => ?_) fun f cdv A outer s H vs Q E hr h => ?_
  · obtain ⟨m, rfl, _⟩ := h
    rfl
  · obtain ⟨m, rfl, h1, h2⟩ := h
    refine ⟨_, (pss_one (ps_if (PW.pt (pw_or (pt_cmpR op_lt (pv 0) pe_int (nomark _)) (pw_or1 (pt_cmpR op_gt (pv 0) (pe_const rfl T.c_MOST_NODES) (nomark _)))))
    (pss_one (ps_raise rfl (takes_of rfl rfl rfl rfl) (pmk_rs T.rBadCount hr (by decide) rfl (pa_cons pe_str (pa_cons (pv 0) pa_nil)))))
    pss_nil)), ?_⟩
    have bad : (m < 1 ∨ 64 < m) → _ := h2
    refine ⟨_, rfl, _, _, rfl, rfl, _, rfl, ?_⟩
    refine ifD (fun c => ?_) fun c => ?_
    · exact ⟨_, rfl, _, ⟨_, _, rfl, ⟨_, rfl, by decide +kernel⟩, rfl⟩, h2 (.inl c)⟩
    · refine ⟨_, rfl, _, _, rfl, rfl, _, rfl, ?_⟩
      refine ifD (fun c' => ?_) fun c' => ?_
      · exact ⟨_, rfl, _, ⟨_, _, rfl, ⟨_, rfl, by decide +kernel⟩, rfl⟩, h2 (.inr c')⟩
      · exact h1 (by omega) (by omega)
theorem scCheckEntries : FnScope ["counts", "at", "count"] ["counts"] (defScope sCheckEntries) := ⟨rfl, rfl, rfl, by decide +kernel, rfl, by decide +kernel, by decide +kernel⟩
theorem ok_CheckEntries (T : Txt P w K mg base C1 C2 C3 C4 C5 C6) : Cl P w K mg base 3 "check_entries" (spCheckEntries K C3) [] := by
  refine cl_of T.d_check_entries scCheckEntries (fun vs H Q E h => ?_) fun f cdv A outer s H vs Q E hr h => ?_
  · obtain ⟨a, ns, rfl, _⟩ := h
    rfl
  · obtain ⟨a, ns, rfl, ha, h1, h2⟩ := h
    refine ⟨_, (pss_one (ps_for (passes_of rfl) rfl (pi_enumT (by rfl) T.b_enumerate (pa_cons (pv 0) pa_nil)) (pg_tup rfl (pgs_cons (pg_name (i := 1) scCheckEntries.nd rfl (by first | exact Or.inl rfl | exact Or.inr rfl)) (pgs_cons (pg_name (i := 2) scCheckEntries.nd rfl (by first | exact Or.inl rfl | exact Or.inr rfl)) pgs_nil)))
    (pss_one (ps_if (PW.pt (pw_or (pt_cmpR op_lt (pv 2) pe_int (nomark _)) (pw_or1 (pt_cmpR op_gt (pv 2) (pe_const rfl T.c_MOST) (nomark _)))))
      (pss_one (ps_raise rfl (takes_of rfl rfl rfl rfl) (pmk_rs T.rNotPebbles hr (by decide) rfl (pa_cons (pv 1) pa_nil))))
      pss_nil)))), ?_⟩
    refine ⟨_, rfl, a, _, rfl, ha, for_enumT (K := K) (a := a) (xs := ns.map V.int) (fun i σ H' => ∃ v1 v2 : Option V, σ = [some (.ref a), v1, v2] ∧ Same H H' ∧ ∀ (j : Nat) z, j < i → ns[j]? = some z → 0 ≤ z ∧ z ≤ MOST)
      ⟨none, none, rfl, Same.refl H, fun j z hj => by omega⟩ (fun i σ H' h => by obtain ⟨_, _, _, sh, _⟩ := h; exact smT sh ha) (fun i x Tq σ H' hx h hT => ?_) fun σ H' h => ?_⟩
    · obtain ⟨v1, v2, rfl, sh, hb⟩ := h
      obtain ⟨z, hz, rfl⟩ := ints_at hx
      refine ⟨Tq, _, rfl, .inl (.inl upd_same), rfl, ?_⟩
      have st : Same H (upd H' Tq (.tup [.int (i : Nat), .int z])) := smN sh hT
      refine ⟨_, _, rfl, _, _, rfl, rfl, _, rfl, _, _, rfl, rfl, _, rfl, ?_⟩
      refine ifD (fun c => ?_) fun c => ?_
      · exact ⟨_, rfl, _, ⟨_, rfl, rfl⟩, fun d hd => h2 i ⟨⟨z, hz, .inl c⟩, hb⟩ d _ st hd⟩
      · refine ⟨_, rfl, _, _, rfl, rfl, _, rfl, ?_⟩
        refine ifD (fun c' => ?_) fun c' => ?_
        · exact ⟨_, rfl, _, ⟨_, rfl, rfl⟩, fun d hd => h2 i ⟨⟨z, hz, .inr c'⟩, hb⟩ d _ st hd⟩
        · refine ⟨_, _, rfl, st, fun j y hj hy => ?_⟩
          by_cases e : j < i
          · exact hb j y e hy
          · obtain rfl : j = i := by omega
            rw [hz] at hy
            cases hy
            exact ⟨by omega, by omega⟩
    · obtain ⟨v1, v2, rfl, sh, hb⟩ := h
      refine h1 (fun z hz => ?_) H' sh
      obtain ⟨j, hj⟩ := List.mem_iff_getElem?.mp hz
      exact hb j z (by rw [List.length_map]; exact (List.getElem?_eq_some_iff.mp hj).1) hj
theorem scPebblesInit : FnScope ["self", "counts", "kept"] ["self", "counts"] (defScope sPebblesInit) := ⟨rfl, rfl, rfl, by decide +kernel, rfl, by decide +kernel, by decide +kernel⟩
theorem ok_Pebbles (T : Txt P w K mg base C1 C2 C3 C4 C5 C6) : Mkr P w K mg base 4 "Pebbles" C6 (spPebInit K C6) [] := by
  have c_CheckCounts := ok_CheckCounts T
  have c_CheckEntries := ok_CheckEntries T
  refine mkr_of T.m_Pebbles scPebblesInit (fun vs H Q E h => ?_) fun f cdv A outer s H vs Q E hr h => ?_
  · obtain ⟨p, dx, a, ns, rfl, _⟩ := h
    rfl
  · obtain ⟨p, dx, a, ns, rfl, hp, ha, ⟨ok1, ok2, ok3⟩, k⟩ := h
    refine ⟨_, (pss_cons (ps_set (i := 2) scPebblesInit.nd rfl (by first | exact Or.inl rfl | exact Or.inr rfl) (pe_callTy call_tuple_of (by rfl) T.b_tuple (by decide +kernel) (pa_cons (pv 1) pa_nil)))
  (pss_cons (ps_expr (pe_c c_CheckCounts hr (by decide) rfl (pa_cons (pe_callB call_len_seq (by rfl) T.b_len (by decide +kernel) (pa_cons (pv 2) pa_nil)) pa_nil)))
  (pss_cons (ps_expr (pe_c c_CheckEntries hr (by decide) rfl (pa_cons (pv 2) pa_nil)))
  (pss_cons (ps_fld (pv 0) (pv 2) rfl)
  (pss_cons (ps_fld (pv 0) (pe_callB call_len_seq (by rfl) T.b_len (by decide +kernel) (pa_cons (pv 2) pa_nil)) rfl)
  (pss_one (ps_fld (pv 0) (pe_callB (cr_sumT rfl) (by rfl) T.b_sum (by decide +kernel) (pa_cons (pv 2) pa_nil)) rfl))))))), ?_⟩
    have notBad : ∀ i, firstBad ns i → False := fun i hb => by
      obtain ⟨⟨z, hz, h1⟩, _⟩ := hb
      have := ok3 z (List.mem_of_getElem? hz)
      omega
    have fin : ∀ (q : Addr) (H2 : Hp) (o1 o2 : HO), Same H H2 → q ≠ p → H2 q = some (.tup (ns.map V.int)) → Q .non (upd (upd (upd H2 p o1) p o2) p (.ins C6 dx (putF "size" (.int ns.sum) (putF "nodes" (.int ((ns.map V.int).length : Nat)) (putF "counts" (.ref q) []))))) := fun q H2 o1 o2 sh npq hq => by
      rw [upd_upd, upd_upd]
      refine k _ (fun b o e hb => ?_) ⟨dx, q, ?_, ?_⟩
      · rw [upd_ne hb]
        exact sh b o e
      · rw [upd_same, List.length_map, putF_new (f := "counts") (by walk_at "lk"), putF_new (f := "nodes") (by walk_at "lk"), putF_new (f := "size") (by walk_at "lk")]
        rfl
      · rw [upd_ne npq]
        exact hq
    rcases ha with ha | ha
    · refine ⟨_, rfl, a, _, rfl, .inl ⟨ha, fun q hq0 => ?_⟩⟩
      have sh : Same H (upd H q (.tup (ns.map V.int))) := sm0 hq0
      have hq : upd H q (.tup (ns.map V.int)) q = some (.tup (ns.map V.int)) := upd_same
      generalize upd H q (.tup (ns.map V.int)) = H1 at sh hq ⊢
      refine ⟨_, rfl, q, _, rfl, .inr (SqT.of hq), _, rfl, fun _ _ => ?_, fun h => absurd h (by rw [List.length_map]; omega)⟩
      refine ⟨_, rfl, q, ns, rfl, SqT.of hq, fun _ H2 sh2 => ?_, fun i hb => (notBad i hb).elim⟩
      have hp2 := sh2 _ _ (sh _ _ hp)
      have hq2 := sh2 _ _ hq
      have npq : q ≠ p := ne_of hq2 hp2 (by intro z; cases z)
      refine ⟨_, rfl, _, rfl, p, C6, dx, _, rfl, hp2, T.lPebbles, T.nPebbles_counts, (by decide), ?_⟩
      refine ⟨_, rfl, q, _, rfl, .inr (SqT.of (by rw [upd_ne npq]; exact hq2)), _, rfl, p, C6, dx, _, rfl, upd_same, T.lPebbles, T.nPebbles_nodes, (by show 1 < 1000; decide), ?_⟩
      refine ⟨_, rfl, q, ns, rfl, SqT.of (by rw [upd_ne npq, upd_ne npq]; exact hq2), _, rfl, p, C6, dx, _, rfl, upd_same, T.lPebbles, T.nPebbles_size, (by show 2 < 1000; decide), ?_⟩
      exact fin q H2 _ _ (sh.trans sh2) npq hq2
    · refine ⟨_, rfl, a, _, rfl, .inr ⟨SqT.of ha, ?_⟩⟩
      have sh : Same H H := Same.refl H
      obtain ⟨q, eqa⟩ : ∃ q, q = a := ⟨a, rfl⟩
      subst eqa
      have hq := ha
      refine ⟨_, rfl, q, _, rfl, .inr (SqT.of hq), _, rfl, fun _ _ => ?_, fun h => absurd h (by rw [List.length_map]; omega)⟩
      refine ⟨_, rfl, q, ns, rfl, SqT.of hq, fun _ H2 sh2 => ?_, fun i hb => (notBad i hb).elim⟩
      have hp2 := sh2 _ _ (sh _ _ hp)
      have hq2 := sh2 _ _ hq
      have npq : q ≠ p := ne_of hq2 hp2 (by intro z; cases z)
      refine ⟨_, rfl, _, rfl, p, C6, dx, _, rfl, hp2, T.lPebbles, T.nPebbles_counts, (by decide), ?_⟩
      refine ⟨_, rfl, q, _, rfl, .inr (SqT.of (by rw [upd_ne npq]; exact hq2)), _, rfl, p, C6, dx, _, rfl, upd_same, T.lPebbles, T.nPebbles_nodes, (by show 1 < 1000; decide), ?_⟩
      refine ⟨_, rfl, q, ns, rfl, SqT.of (by rw [upd_ne npq, upd_ne npq]; exact hq2), _, rfl, p, C6, dx, _, rfl, upd_same, T.lPebbles, T.nPebbles_size, (by show 2 < 1000; decide), ?_⟩
      exact fin q H2 _ _ (sh.trans sh2) npq hq2
end
end K39
set_option maxRecDepth 100000
set_option maxHeartbeats 4000000
set_option exponentiation.threshold 20000
namespace K39
open PySem L2 SI
local macro_rules | `(tactic| walk_at "lk") => `(tactic| first | exact lk_hit | exact lk_nil | (refine lk_next (by decide +kernel) ?_; walk_at "lk"))
def foldSum (p : Int) (ns : List Int) : Int := (ns.map fun c => c - c / p).sum
def okP (p : Int) : Prop := 2 ≤ p ∧ p ≤ 31
def spFoldSum (CB C : Addr) : Sp := fun vs H Q E => ∃ (p : Int) (h : Addr) (ns : List Int), vs = [.int p, .ref h] ∧ PebAt C H h ns ∧ ns.length ≤ 64 ∧
  (okP p → ∀ H', Same H H' → Q (.int (foldSum p ns)) H') ∧ (¬ okP p → ∀ d, H d = none → E (.ref CB) (some d) (upd H d (.xd [("many", .int p), ("what", .str "price")])))
def rounded (c : Int) (ns : List Int) : Int := ns.foldl (fun t z => t + (z * (c - 1) + c - 1) / c) 0
def spRounded (K : PySem.W.Frag) : Sp := fun vs H Q _ => ∃ (c : Int) (a : Addr) (ns : List Int), vs = [.int c, .ref a] ∧ SqL K H a (ns.map V.int) ∧ okP c ∧ (∀ z ∈ ns, 0 ≤ z ∧ z ≤ MOST) ∧ ns.length ≤ 64 ∧ Q (.int (rounded c ns)) H
def spIs : Sp := fun vs H Q _ => ∃ (x y : Int), vs = [.int x, .int y] ∧ Q (.bl (decide (x = y))) H
def spCount : Sp := fun vs H Q _ => ∃ (a : Addr) (ns : List Int) (c : Int), vs = [.ref a, .int c] ∧ H a = some (.lst (ns.map V.int)) ∧ 0 < ns.length ∧ ns.length ≤ 64 ∧ okP c ∧
  ∀ (d : Int) (ns' : List Int), 0 ≤ d → d ≤ MOST - 40 → 0 < ns'.length → ns'.length ≤ 64 → Q (.int d) (upd H a (.lst (ns'.map V.int)))
theorem cdiv_small {n : Int} (h0 : 0 < n) (h1 : n ≤ 10 ^ 130) : CDivW 0 n := ⟨h0, by
  have e : n.natAbs < 2 ^ 500 := by
    have : (10 : Int) ^ 130 < 2 ^ 500 := by decide +kernel
    omega
  exact Nat.lt_of_lt_of_le (PySem.Flt.log2_lt_of (by decide) e) (by decide)⟩
theorem cmul_small {i j : Int} (h0 : i.natAbs < 2 ^ 10000) (h1 : j.natAbs < 2 ^ 10000) : CMulW i j := wide_mul h0 h1 (by decide) (by decide) (by decide)
theorem abs_small {n : Int} (h0 : -(10 ^ 200) ≤ n) (h1 : n ≤ 10 ^ 200) : n.natAbs < 2 ^ 10000 := by
  have h : (10 : Int) ^ 200 < 2 ^ 700 := by decide +kernel
  have h2 : (2 : Nat) ^ 700 ≤ 2 ^ 10000 := Nat.pow_le_pow_right (by decide) (by decide)
  refine Nat.lt_of_lt_of_le ?_ h2
  omega
section
variable {P : Program} {w : World} {K : PySem.W.Frag} {mg : Str → Option Value} {base : Heap} {C1 C2 C3 C4 C5 C6 : Addr}
theorem scFoldSum : FnScope ["price", "placing", "count"] ["price", "placing"] (defScope sFoldSum) := ⟨rfl, rfl, rfl, by decide +kernel, rfl, by decide +kernel, by decide +kernel⟩
theorem ok_FoldSum (T : Txt P w K mg base C1 C2 C3 C4 C5 C6) : Cd P w K mg base 3 "fold_sum" sFoldSum ["price", "placing"] (spFoldSum C2 C6) := by
  refine cd_of T.d_fold_sum scFoldSum (fun vs H Q E h => ?_) fun f cdv A outer s H vs Q E hr h => ?_
  · obtain ⟨p, h, ns, rfl, _⟩ := h
    rfl
  · obtain ⟨p, h, ns, rfl, ⟨dx, q, hh, hq⟩, hl, h1, h2⟩ := h
    refine ⟨_, (pss_cons (ps_if (PW.pt (pw_or (pt_cmpR op_lt (pv 0) (pe_const rfl T.c_LEAST_PRICE) (nomark _)) (pw_or1 (pt_cmpR op_gt (pv 0) (pe_const rfl T.c_MOST_PRICE) (nomark _)))))
    (pss_one (ps_raise rfl (takes_of rfl rfl rfl rfl) (pmk_rs T.rBadCount hr (by decide) rfl (pa_cons pe_str (pa_cons (pv 0) pa_nil)))))
    pss_nil)
  (pss_one (ps_ret (pe_callB (cr_sum rfl) (by rfl) T.b_sum (by decide +kernel) (pa_cons (pe_lc (own := [(("count" : Str), 2)]) (g := gName 2) (by rfl) scFoldSum.nd (pi_tup (pe_fld (pv 1) rfl)) (blkOk_by (own := [(("count" : Str), 2)]) (N := ["price", "placing", "count"]) (sc := defScope sFoldSum) (by decide +kernel)) (fun _ _ _ _ _ => (pg_name (i := 2) scFoldSum.nd rfl (by first | exact Or.inl rfl | exact Or.inr rfl))) (fun _ _ _ _ _ => pts_nil) (fun _ _ _ _ _ => (pe_op op_sub (pv 2) (pe_op op_fdivW (pv 2) (pv 0))))) pa_nil))))), ?_⟩
    refine ⟨_, rfl, _, _, rfl, rfl, _, rfl, ?_⟩
    refine ifD (fun c => ?_) fun c => ?_
    · exact ⟨_, rfl, _, ⟨_, _, rfl, ⟨_, rfl, by decide +kernel⟩, rfl⟩, h2 fun z => by have := z.1; omega⟩
    refine ⟨_, rfl, _, _, rfl, rfl, _, rfl, ?_⟩
    refine ifD (fun c' => ?_) fun c' => ?_
    · exact ⟨_, rfl, _, ⟨_, _, rfl, ⟨_, rfl, by decide +kernel⟩, rfl⟩, h2 fun z => by have := z.2; omega⟩
    have ok : okP p := ⟨by omega, by omega⟩
    have lc : (pebF q ns).lookup ("counts" : Str) = some (V.ref q) := by walk_at "lk"
    refine ⟨_, rfl, h, C6, dx, _, _, rfl, hh, T.lPebbles, T.nPebbles_counts, lc, q, rfl, ⟨_, SqT.of hq⟩, fun D hD => ?_⟩
    refine lc_tup (K := K) (a := q) (xs := ns.map V.int) (fun i H' => Same H H' ∧ H' D = some (.lst (((ns.take i).map fun c => c - c / p).map V.int)))
      ⟨sm0 hD, upd_same⟩ (fun i H' _ z => smT z.1 (SqT.of hq)) (fun i x H' hx z => ?_) fun H' z => ?_
    · obtain ⟨sh, hacc⟩ := z
      obtain ⟨y, hy, rfl⟩ := ints_at hx
      refine ⟨rfl, _, rfl, _, rfl, _, rfl, _, _, rfl, rfl, cdiv_small (by have := ok.1; omega) (by have := ok.2; omega), _, _, rfl, rfl, _, hacc, ?_, smM sh hD, ?_⟩
      · rw [List.length_map, List.length_map, List.length_take]
        exact sz_lt (by omega)
      · rw [upd_same, List.take_add_one, hy, List.map_append, List.map_append]
        rfl
    · obtain ⟨sh, hacc⟩ := z
      rw [List.length_map, List.take_length] at hacc
      exact ⟨D, _, rfl, SqL.of hacc, h1 ok H' sh⟩
theorem scLRounded : FnScope ["cost", "counts", "total", "count"] ["cost", "counts"] (defScope sLRounded) := ⟨rfl, rfl, rfl, by decide +kernel, rfl, by decide +kernel, by decide +kernel⟩
theorem ok_LRounded (T : Txt P w K mg base C1 C2 C3 C4 C5 C6) : Cl P w K mg base 1 "_law_rounded" (spRounded K) [] := by
  refine cl_of T.d__law_rounded scLRounded (fun vs H Q E h => ?_) fun f cdv A outer s H vs Q E hr h => ?_
  · obtain ⟨c, a, ns, rfl, _⟩ := h
    rfl
  · obtain ⟨c, a, ns, rfl, ha, hc, hns, hl, k⟩ := h
    refine ⟨_, (pss_cons (ps_set (i := 2) scLRounded.nd rfl (by first | exact Or.inl rfl | exact Or.inr rfl) pe_int)
  (pss_cons (ps_for (passes_of rfl) rfl (pi_list (pv 1)) (pg_name (i := 3) scLRounded.nd rfl (by first | exact Or.inl rfl | exact Or.inr rfl))
    (pss_one (ps_set (i := 2) scLRounded.nd rfl (by first | exact Or.inl rfl | exact Or.inr rfl) (pe_op op_add (pv 2) (pe_op op_fdivW (pe_op op_sub (pe_op op_add (pe_op op_mulW (pv 3) (pe_op op_sub (pv 0) pe_int)) (pv 0)) pe_int) (pv 0))))))
  (pss_one (ps_ret (pv 2))))), ?_⟩
    refine ⟨_, rfl, a, rfl, ⟨_, ha⟩, for_list (K := K) (a := a) (xs := ns.map V.int) (fun i σ H' => H' = H ∧ ∃ v, σ = [some (.int c), some (.ref a), some (.int (rounded c (ns.take i))), v]) ⟨rfl, none, rfl⟩ (fun i σ H' _ z => by rw [z.1]; exact ha) (fun i x σ H' hx z => ?_) fun σ H' z => ?_⟩
    · obtain ⟨rfl, v, rfl⟩ := z
      obtain ⟨y, hy, rfl⟩ := ints_at hx
      have by1 := hns y (List.mem_of_getElem? hy)
      have c1 := hc.1
      have c2 := hc.2
      have bM : y.natAbs < 2 ^ 10000 := abs_small (by have := by1.1; omega) (Int.le_trans by1.2 (by decide +kernel))
      have bc : (c - 1).natAbs < 2 ^ 10000 := abs_small (by omega) (by omega)
      refine ⟨_, rfl, _, rfl, _, rfl, _, _, rfl, rfl, _, _, rfl, rfl, cmul_small bM bc, _, rfl, _, _, rfl, rfl, _, _, rfl, rfl, _, rfl, _, _, rfl, rfl, cdiv_small (by omega) (by omega), _, _, rfl, rfl, rfl, some (.int y), ?_⟩
      have e : rounded c (ns.take (i + 1)) = rounded c (ns.take i) + (y * (c - 1) + c - 1) / c := by
        unfold rounded
        rw [List.take_add_one, hy, List.foldl_append]
        rfl
      rw [e]
      rfl
    · obtain ⟨rfl, v, rfl⟩ := z
      rw [List.length_map, List.take_length]
      exact ⟨_, rfl, k⟩
theorem scLIs : FnScope ["told", "due"] ["told", "due"] (defScope sLIs) := ⟨rfl, rfl, rfl, by decide +kernel, rfl, by decide +kernel, by decide +kernel⟩
theorem is_int : PySem.W.kitOne K (.type "int") (.type "int") = some true := kit_ty (by decide +kernel)
theorem is_bool : PySem.W.kitOne K (.type "int") (.type "bool") = some false := kit_ty (by decide +kernel)
theorem ok_LIs (T : Txt P w K mg base C1 C2 C3 C4 C5 C6) : Cl P w K mg base 1 "_law_is" spIs [] := by
  refine cl_of T.d__law_is scLIs (fun vs H Q E h => ?_) fun f cdv A outer s H vs Q E hr h => ?_
  · obtain ⟨x, y, rfl, _⟩ := h
    rfl
  · obtain ⟨x, y, rfl, k⟩ := h
    refine ⟨_, (pss_one (ps_ret (pe_and (pe_callB call_isi (by rfl) T.b_isinstance (by decide +kernel) (pa_cons (pv 0) (pa_cons (pe_bltn (v := .ty "int") (u := .type "int") (by rfl) T.b_int (by decide +kernel) rfl) pa_nil))) (pe_and (pe_not (pe_callB call_isi (by rfl) T.b_isinstance (by decide +kernel) (pa_cons (pv 0) (pa_cons (pe_bltn (v := .ty "bool") (u := .type "bool") (by rfl) T.b_bool (by decide +kernel) rfl) pa_nil)))) (pe_one (pe_cmpR op_eq (pv 0) (pv 1) (nomark _))))))), ?_⟩
    refine ⟨_, rfl, _, _, _, _, _, rfl, .ty "int", .base (.int x), is_int, _, rfl, iteT ?_⟩
    refine ⟨_, rfl, _, _, _, _, _, rfl, .ty "bool", .base (.int x), is_bool, _, rfl, _, rfl, iteT ?_⟩
    refine ⟨_, rfl, _, rfl, rfl, ?_⟩
    have e : decide (V.int x = V.int y) = decide (x = y) := by
      by_cases c : x = y
      · subst c; simp
      · rw [decide_eq_false c, decide_eq_false fun z => c (V.int.inj z)]
    rw [e]
    exact k
theorem ok_LIsW (T : Txt P w K mg base C1 C2 C3 C4 C5 C6) : ClW P w K mg base 1 "_law_is" (fun _ => spIs) := by
  refine clW_of T.d__law_is scLIs (fun p vs H Q E h => ?_) fun f cdv A outer s H vs Q E p hr h => ?_
  · obtain ⟨x, y, rfl, _⟩ := h
    rfl
  · obtain ⟨x, y, rfl, k⟩ := h
    refine ⟨_, (pss_one (ps_ret (pe_and (pe_callB call_isi (by rfl) T.b_isinstance (by decide +kernel) (pa_cons (pv 0) (pa_cons (pe_bltn (v := .ty "int") (u := .type "int") (by rfl) T.b_int (by decide +kernel) rfl) pa_nil))) (pe_and (pe_not (pe_callB call_isi (by rfl) T.b_isinstance (by decide +kernel) (pa_cons (pv 0) (pa_cons (pe_bltn (v := .ty "bool") (u := .type "bool") (by rfl) T.b_bool (by decide +kernel) rfl) pa_nil)))) (pe_one (pe_cmpR op_eq (pv 0) (pv 1) (nomark _))))))), ?_⟩
    refine ⟨_, rfl, _, _, _, _, _, rfl, .ty "int", .base (.int x), is_int, _, rfl, iteT ?_⟩
    refine ⟨_, rfl, _, _, _, _, _, rfl, .ty "bool", .base (.int x), is_bool, _, rfl, _, rfl, iteT ?_⟩
    refine ⟨_, rfl, _, rfl, rfl, ?_⟩
    have e : decide (V.int x = V.int y) = decide (x = y) := by
      by_cases c : x = y
      · subst c; simp
      · rw [decide_eq_false c, decide_eq_false fun z => c (V.int.inj z)]
    rw [e]
    exact k
theorem scLCount : FnScope ["pool", "cost", "kind"] ["pool", "cost"] (defScope sLCount) := ⟨rfl, rfl, rfl, by decide +kernel, rfl, by decide +kernel, by decide +kernel⟩
theorem ok_LCount (T : Txt P w K mg base C1 C2 C3 C4 C5 C6) : Cl P w K mg base 2 "_law_count" spCount [] := by
  have c_LDraw := ok_LDraw T
  refine cl_of T.d__law_count scLCount (fun vs H Q E h => ?_) fun f cdv A outer s H vs Q E hr h => ?_
  · obtain ⟨a, ns, c, rfl, _⟩ := h
    rfl
  · obtain ⟨a, ns, c, rfl, ha, hl, hl2, hc, k⟩ := h
    have c1 := hc.1
    have c2 := hc.2
    have hM : MOST = 10 ^ 120 := rfl
    refine ⟨_, (pss_cons (ps_set (i := 2) scLCount.nd rfl (by first | exact Or.inl rfl | exact Or.inr rfl) (pe_c c_LDraw hr (by decide) rfl (pa_cons (pv 0) (pa_cons pe_int pa_nil))))
  (pss_cons (ps_if (pt_cmpR op_eq (pv 2) pe_int (nomark _))
    (pss_one (ps_ret pe_int))
    pss_nil)
  (pss_cons (ps_if (pt_cmpR op_lt (pv 2) pe_int (nomark _))
    (pss_one (ps_ret (pe_c c_LDraw hr (by decide) rfl (pa_cons (pv 0) (pa_cons pe_int pa_nil)))))
    pss_nil)
  (pss_cons (ps_if (pt_cmpR op_lt (pv 2) pe_int (nomark _))
    (pss_one (ps_ret (pe_op op_sub (pe_op op_add (pe_op op_mulW (pv 1) (pe_op op_add pe_int (pe_c c_LDraw hr (by decide) rfl (pa_cons (pv 0) (pa_cons pe_int pa_nil))))) (pv 2)) pe_int)))
    pss_nil)
  (pss_cons (ps_if (pt_cmpR op_eq (pv 2) pe_int (nomark _))
    (pss_one (ps_ret (pe_c c_LDraw hr (by decide) rfl (pa_cons (pv 0) (pa_cons (pe_op op_pow pe_int pe_int) pa_nil)))))
    pss_nil)
  (pss_one (ps_ret (pe_op op_sub (pe_op op_sub (pe_op op_mulW (pe_op op_pow pe_int pe_int) (pe_op op_pow pe_int pe_int)) pe_int) (pe_c c_LDraw hr (by decide) rfl (pa_cons (pv 0) (pa_cons pe_int pa_nil))))))))))), ?_⟩
    refine ⟨_, rfl, a, ns, 8, rfl, ha, hl, hl2, cdiv_small (by decide) (by decide), fun kind ns1 k0 k1 hl3 hl4 => ?_⟩
    have kk : ∀ (d : Int) (ns' : List Int), 0 ≤ d → d ≤ MOST - 40 → 0 < ns'.length → ns'.length ≤ 64 → Q (.int d) (upd (upd H a (.lst (ns1.map V.int))) a (.lst (ns'.map V.int))) := fun d ns' h1 h2 h3 h4 => by
      rw [upd_upd]
      exact k d ns' h1 h2 h3 h4
    refine ⟨_, rfl, rfl, _, rfl, ifI (fun _ => ?_) fun _ => ?_⟩
    · exact k 0 ns1 (by decide) (by decide +kernel) hl3 hl4
    refine ⟨_, rfl, _, _, rfl, rfl, _, rfl, ifD (fun _ => ?_) fun _ => ?_⟩
    · exact ⟨_, rfl, a, ns1, 8, rfl, upd_same, hl3, hl4, cdiv_small (by decide) (by decide), fun d ns2 d0 d1 h3 h4 => kk d ns2 d0 (Int.le_trans (Int.le_of_lt d1) (by decide +kernel)) h3 h4⟩
    refine ⟨_, rfl, _, _, rfl, rfl, _, rfl, ifD (fun _ => ?_) fun _ => ?_⟩
    · refine ⟨_, rfl, _, rfl, a, ns1, 9, rfl, upd_same, hl3, hl4, cdiv_small (by decide) (by decide), fun d ns2 d0 d1 h3 h4 => ?_⟩
      refine ⟨_, _, rfl, rfl, _, _, rfl, rfl, cmul_small (abs_small (by omega) (by omega)) (abs_small (by omega) (by omega)), _, rfl, _, _, rfl, rfl, _, _, rfl, rfl, ?_⟩
      have m1 : c * (1 + d) ≤ 31 * 9 := Int.mul_le_mul (by omega) (by omega) (by omega) (by omega)
      have m2 : 2 * 1 ≤ c * (1 + d) := Int.mul_le_mul (by omega) (by omega) (by omega) (by omega)
      exact kk _ ns2 (by omega) (by omega) h3 h4
    refine ⟨_, rfl, rfl, _, rfl, ifI (fun _ => ?_) fun _ => ?_⟩
    · refine ⟨_, rfl, _, _, rfl, rfl, pow10 (by decide) (by decide), a, ns1, _, rfl, upd_same, hl3, hl4, cdiv_small (by decide +kernel) (by decide +kernel), fun d ns2 d0 d1 h3 h4 => kk d ns2 d0 (Int.le_trans (Int.le_of_lt d1) (by decide +kernel)) h3 h4⟩
    refine ⟨_, _, rfl, rfl, pow10 (by decide) (by decide), _, _, rfl, rfl, pow10 (by decide) (by decide), _, _, rfl, rfl, cmul_small (abs_small (by decide +kernel) (by decide +kernel)) (abs_small (by decide +kernel) (by decide +kernel)), _, _, rfl, rfl, _, rfl, a, ns1, 1000, rfl, upd_same, hl3, hl4, cdiv_small (by decide) (by decide), fun d ns2 d0 d1 h3 h4 => ?_⟩
    refine ⟨_, _, rfl, rfl, ?_⟩
    have e : (10 : Int) ^ (60 : Int).toNat * 10 ^ (60 : Int).toNat = MOST := by decide +kernel
    have q := kk (MOST - 40 - d) ns2 (by omega) (by omega) h3 h4
    rw [← e] at q
    exact q
end
end K39
set_option maxRecDepth 100000
set_option maxHeartbeats 4000000
namespace K39
open PySem L2 SI
local macro_rules | `(tactic| walk_at "lk") => `(tactic| first | exact lk_hit | exact lk_nil | (refine lk_next (by decide +kernel) ?_; walk_at "lk"))
def spRefused (C : Addr) : Sp := fun vs H Q _ => ∃ (p : Int) (h : Addr) (ns : List Int), vs = [.int p, .ref h] ∧ PebAt C H h ns ∧ ns.length ≤ 64 ∧ ¬ okP p ∧ ∀ H', Same H H' → Q (.bl true) H'
section
variable {P : Program} {w : World} {K : PySem.W.Frag} {mg : Str → Option Value} {base : Heap} {C1 C2 C3 C4 C5 C6 : Addr}
theorem scLRefused : FnScope ["wrong", "heap", "e"] ["wrong", "heap"] (defScope sLRefused) := ⟨rfl, rfl, rfl, by decide +kernel, rfl, by decide +kernel, by decide +kernel⟩
theorem ok_LRefused (T : Txt P w K mg base C1 C2 C3 C4 C5 C6) : Cl P w K mg base 4 "_law_refused" (spRefused C6) [] := by
  have c_FoldSum := (ok_FoldSum T).cl
  have w_LIs := ok_LIsW T
  refine cl_of T.d__law_refused scLRefused (fun vs H Q E h => ?_) fun f cdv A outer s H vs Q E hr h => ?_
  · obtain ⟨p, h, ns, rfl, _⟩ := h
    rfl
  · obtain ⟨p, h, ns, rfl, hh, hl, hp, k⟩ := h
    refine ⟨_, (pss_cons (ps_try_as (i := 2) rfl rfl scLRefused.nd rfl rfl ⟨rfl, by decide, Or.inl T.gPebbleError⟩ takes0
    (fun W pn xe tk po => (pss_one (ps_expr (pe_cX tk c_FoldSum hr (by decide) rfl (pa_cons (pv 0) (pa_cons (pv 1) pa_nil))))))
    (fun a oe cls d pn hz hf => (pss_cons (ps_if (PW.pt (pw_or (pt_not (pt_val (pe_callB (call_isS T.ek hz hf) (by rfl) T.b_isinstance (by decide +kernel) (pa_cons (pv 2) (pa_cons (pe_bltn (v := .ty "ValueError") (u := .type "ValueError") (by rfl) T.b_ValueError (by decide +kernel) rfl) pa_nil))))) (pw_or1 (pt_not (pt_val (pe_callB (call_isS T.ek hz hf) (by rfl) T.b_isinstance (by decide +kernel) (pa_cons (pv 2) (pa_cons (pe_glob (v := .ref C2) rfl T.gBadCount rfl) pa_nil))))))))
      (pss_one (ps_ret pe_bl))
      pss_nil)
    (pss_cons (ps_if (PW.pt (pw_or (pt_val (pe_callB (call_isS T.ek hz hf) (by rfl) T.b_isinstance (by decide +kernel) (pa_cons (pv 2) (pa_cons (pe_glob (v := .ref C3) rfl T.gNotPebbles rfl) pa_nil)))) (pw_or (pt_val (pe_callB (call_isS T.ek hz hf) (by rfl) T.b_isinstance (by decide +kernel) (pa_cons (pv 2) (pa_cons (pe_glob (v := .ref C4) rfl T.gWrongWidth rfl) pa_nil)))) (pw_or1 (pt_val (pe_callB (call_isS T.ek hz hf) (by rfl) T.b_isinstance (by decide +kernel) (pa_cons (pv 2) (pa_cons (pe_glob (v := .ref C5) rfl T.gBadPrice rfl) pa_nil))))))))
      (pss_one (ps_ret pe_bl))
      pss_nil)
    (pss_one (ps_ret (pe_and (pe_cmpR op_eq (pe_errS hz hf (pv 2)) pe_str (nomark _)) (pe_one (pe_cWS (X := cxd P w K mg base ["wrong", "heap", "e"] "_law_refused" sLRefused f cdv A outer s H E) w_LIs hr (by decide) rfl (pa_cons (pe_errS hz hf (pv 2)) (pa_cons (pv 0) pa_nil)))))))))))
  (pss_one (ps_ret pe_bl))), ?_⟩
    refine ⟨_, rfl, _, rfl, p, h, ns, rfl, hh, hl, fun z => absurd z hp, fun _ d hd => ?_⟩
    refine ⟨true, T.xBadCount_PebbleError, fun _ a na => ?_, fun z => nomatch z⟩
    have tr : ∀ dd, some d = some dd → ∃ fs, (upd H d (.xd [("many", .int p), ("what", .str "price")])) dd = some (.xd fs) := fun dd e => by cases e; exact ⟨_, upd_same⟩
    refine ⟨_, rfl, C2, _, _, true, rfl, T.eBadCount, rfl, .ty "ValueError", T.tBadCount_ValueError, tr, _, rfl, iteF ?_⟩
    refine ⟨_, rfl, C2, _, _, true, rfl, T.eBadCount, rfl, .own C2, T.tBadCount_BadCount, tr, _, rfl, iteF ?_⟩
    refine ⟨_, rfl, C2, _, _, false, rfl, T.eBadCount, rfl, .own C3, T.tBadCount_NotPebbles, tr, _, rfl, iteF ?_⟩
    refine ⟨_, rfl, C2, _, _, false, rfl, T.eBadCount, rfl, .own C4, T.tBadCount_WrongWidth, tr, _, rfl, iteF ?_⟩
    refine ⟨_, rfl, C2, _, _, false, rfl, T.eBadCount, rfl, .own C5, T.tBadCount_BadPrice, tr, _, rfl, iteF ?_⟩
    refine ⟨C2, d, rfl, T.eBadCount, T.fBadCount_what, rfl, _, rfl, rfl, _, _, upd_same, by walk_at "lk", rfl, _, rfl, ?_⟩
    refine ifT (by decide +kernel) ?_
    refine ⟨C2, d, rfl, T.eBadCount, T.fBadCount_many, rfl, _, rfl, rfl, _, _, upd_same, by walk_at "lk", _, rfl, p, p, rfl, ?_⟩
    rw [decide_eq_true rfl]
    exact k _ (sm0 hd)
end
end K39
set_option maxRecDepth 100000
set_option maxHeartbeats 4000000
set_option exponentiation.threshold 20000
namespace K39
open PySem L2 SI
local macro_rules | `(tactic| walk_at "lk") => `(tactic| first | exact lk_hit | exact lk_nil | (refine lk_next (by decide +kernel) ?_; walk_at "lk"))
def spLaw (K : PySem.W.Frag) : Sp := fun vs H Q _ => ∃ (a : Addr) (ns : List Int), vs = [.ref a] ∧ SqL K H a (ns.map V.int) ∧ ns.length ≤ 63 ∧ ∀ H', Q (.bl true) H'
section
variable {P : Program} {w : World} {K : PySem.W.Frag} {mg : Str → Option Value} {base : Heap} {C1 C2 C3 C4 C5 C6 : Addr}
theorem scLaw : FnScope ["script", "pool", "cost", "other", "nodes", "counts", "k", "at", "wrongs", "lesser", "wider", "due", "fall", "given", "heap", "wrong", "right"] ["script"] (defScope sLaw) := ⟨rfl, rfl, rfl, by decide +kernel, rfl, by decide +kernel, by decide +kernel⟩
theorem rounded_eq (c : Int) (ns : List Int) (h : 1 ≤ c) : rounded c ns = foldSum c ns := by
  have e := fold_from c h ns 0
  unfold rounded foldSum
  rw [e, Int.zero_add]
  rfl
theorem pebMk {K : PySem.W.Frag} {C h dh a : Addr} {H : Hp} {ns : List Int} {Q : Hp → Prop} {E : XK} (hh : H h = none) (hd : H dh = none) (ne : dh ≠ h) (ha : H a = some (.lst (ns.map V.int)) ∨ H a = some (.tup (ns.map V.int))) (ok : okNs ns)
    (k : ∀ H', Same H H' → PebAt C H' h ns → Q H') : spPebInit K C (V.ref h :: ([V.ref a] ++ [])) (upd (upd H dh (.own h)) h (.ins C dh [])) (fun v H2 => v = .non ∧ Q H2) E := by
  have st : Same H (upd (upd H dh (.own h)) h (.ins C dh [])) := smM (sm0 hd) hh
  have nah : a ≠ h := by
    rcases ha with e | e
    · exact ne_of_none e hh
    · exact ne_of_none e hh
  refine ⟨h, dh, a, ns, rfl, upd_same, ?_, ok, fun H' hs hp => ⟨rfl, k H' (fun b o e => hs b o (st b o e) (ne_of_none e hh)) hp⟩⟩
  rcases ha with e | e
  · exact .inl (SqL.of (st _ _ e))
  · exact .inr (st _ _ e)
theorem PebAt.same {C h : Addr} {H H' : Hp} {ns : List Int} (s : Same H H') (p : PebAt C H h ns) : PebAt C H' h ns := by
  obtain ⟨dx, q, h1, h2⟩ := p
  exact ⟨dx, q, s _ _ h1, s _ _ h2⟩
theorem PebAt.upd {C h b : Addr} {H : Hp} {o o' : HO} {ns : List Int} (p : PebAt C H h ns) (hb : H b = some o) (h1 : ∀ C dx fs, o ≠ .ins C dx fs) (h2 : ∀ xs, o ≠ .tup xs) : PebAt C (L2.upd H b o') h ns := by
  obtain ⟨dx, q, e1, e2⟩ := p
  refine ⟨dx, q, ?_, ?_⟩
  · rw [upd_ne (ne_of e1 hb fun z => h1 _ _ _ z.symm)]; exact e1
  · rw [upd_ne (ne_of e2 hb fun z => h2 _ z.symm)]; exact e2
theorem okset {ns : List Int} {j : Nat} {y : Int} (h : okNs ns) (h0 : 0 ≤ y) (h1 : y ≤ MOST) : okNs (ns.set j y) := by
  refine ⟨by rw [List.length_set]; exact h.1, by rw [List.length_set]; exact h.2.1, fun z hz => ?_⟩
  rcases List.mem_or_eq_of_mem_set hz with q | q
  · exact h.2.2 z q
  · rw [q]
    exact ⟨h0, h1⟩
theorem ok_Law (T : Txt P w K mg base C1 C2 C3 C4 C5 C6) : Cd P w K mg base 6 "law" sLaw ["script"] (spLaw K) := by
  have c_LStart := ok_LStart T
  have c_LDraw := ok_LDraw T
  have c_LCount := ok_LCount T
  have c_LRounded := ok_LRounded T
  have c_LIs := ok_LIs T
  have c_LRefused := ok_LRefused T
  have d_FoldSum := ok_FoldSum T
  have c_FoldSum := d_FoldSum.cl
  have k_Pebbles := ok_Pebbles T
  refine cd_of T.d_law scLaw (fun vs H Q E h => ?_) fun f cdv A outer s H vs Q E hr h => ?_
  · obtain ⟨a, ns, rfl, _⟩ := h
    rfl
  · obtain ⟨a, ns, rfl, ha, hl, k⟩ := h
    refine ⟨_, (pss_cons (ps_set (i := 1) scLaw.nd rfl (by first | exact Or.inl rfl | exact Or.inr rfl) (pe_c c_LStart hr (by decide) rfl (pa_cons (pv 0) pa_nil)))
  (pss_cons (ps_set (i := 2) scLaw.nd rfl (by first | exact Or.inl rfl | exact Or.inr rfl) (pe_op op_add pe_int (pe_c c_LDraw hr (by decide) rfl (pa_cons (pv 1) (pa_cons pe_int pa_nil)))))
  (pss_cons (ps_set (i := 3) scLaw.nd rfl (by first | exact Or.inl rfl | exact Or.inr rfl) (pe_op op_add pe_int (pe_op op_mod (pe_callTy call_intI (by rfl) T.b_int (by decide +kernel) (pa_cons (pe_op op_add (pe_op op_sub (pv 2) pe_int) (pe_c c_LDraw hr (by decide) rfl (pa_cons (pv 1) (pa_cons pe_int pa_nil)))) pa_nil)) pe_int)))
  (pss_cons (ps_set (i := 4) scLaw.nd rfl (by first | exact Or.inl rfl | exact Or.inr rfl) (pe_op op_add pe_int (pe_c c_LDraw hr (by decide) rfl (pa_cons (pv 1) (pa_cons pe_int pa_nil)))))
  (C8.pss_cut (ps_if (pt_cmpR op_eq (pe_c c_LDraw hr (by decide) rfl (pa_cons (pv 1) (pa_cons pe_int pa_nil))) pe_int (nomark _))
    (pss_one (ps_set (i := 4) scLaw.nd rfl (by first | exact Or.inl rfl | exact Or.inr rfl) (pe_op op_add pe_int (pe_c c_LDraw hr (by decide) rfl (pa_cons (pv 1) (pa_cons pe_int pa_nil))))))
    pss_nil)
  (pss_cons (ps_setLc (i := 5) (own := [(("k" : Str), 6)]) (g := gName 6) (by rfl) scLaw.nd rfl rfl (sw_true rfl rfl rfl (by decide +kernel)) (pi_range1 (by rfl) T.b_range (pa_cons (pv 4) pa_nil)) (blkOk_by (own := [(("k" : Str), 6)]) (N := ["script", "pool", "cost", "other", "nodes", "counts", "k", "at", "wrongs", "lesser", "wider", "due", "fall", "given", "heap", "wrong", "right"]) (sc := defScope sLaw) (by decide +kernel)) (fun _ _ _ _ _ => (pg_name (i := 6) scLaw.nd rfl (by first | exact Or.inl rfl | exact Or.inr rfl))) (fun _ _ _ _ _ => pts_nil) (fun _ _ _ _ _ => (pe_c c_LCount hr (by decide) rfl (pa_cons (pv 1) (pa_cons (pv 2) pa_nil)))))
  (pss_cons (ps_set (i := 7) scLaw.nd rfl (by first | exact Or.inl rfl | exact Or.inr rfl) (pe_c c_LDraw hr (by decide) rfl (pa_cons (pv 1) (pa_cons (pv 4) pa_nil))))
  (C8.pss_cut (ps_if (pt_cmpR op_eq (pe_ix ix_list (pv 5) (pv 7) (fun _ _ => rfl)) pe_int (nomark _))
    (pss_one (ps_asg pe_int (pg_sub (pv 5) (pv 7) set_list)))
    pss_nil)
  (pss_cons (ps_set (i := 8) scLaw.nd rfl (by first | exact Or.inl rfl | exact Or.inr rfl) (pe_lst (pa_cons pe_int (pa_cons pe_int (pa_cons pe_int (pa_cons (pe_op op_sub (pe_un un_neg pe_int) (pe_c c_LDraw hr (by decide) rfl (pa_cons (pv 1) (pa_cons pe_int pa_nil)))) (pa_cons (pe_op op_add pe_int (pe_c c_LDraw hr (by decide) rfl (pa_cons (pv 1) (pa_cons pe_int pa_nil)))) (pa_cons (pe_op op_mulW (pe_op op_pow pe_int pe_int) (pe_op op_pow pe_int pe_int)) pa_nil))))))))
  (pss_cons (ps_set (i := 9) scLaw.nd rfl (by first | exact Or.inl rfl | exact Or.inr rfl) (pe_callTy call_list_of (by rfl) T.b_list (by decide +kernel) (pa_cons (pv 5) pa_nil)))
  (pss_cons (ps_asg (pe_op op_sub (pe_ix ix_list (pv 9) (pv 7) (fun _ _ => rfl)) pe_int) (pg_sub (pv 9) (pv 7) set_list))
  (pss_cons (ps_set (i := 10) scLaw.nd rfl (by first | exact Or.inl rfl | exact Or.inr rfl) (pe_callTy call_list_of (by rfl) T.b_list (by decide +kernel) (pa_cons (pv 5) pa_nil)))
  (pss_cons (ps_asg (pe_op op_add (pe_ix ix_list (pv 10) (pv 7) (fun _ _ => rfl)) (pv 2)) (pg_sub (pv 10) (pv 7) set_list))
  (pss_cons (ps_set (i := 11) scLaw.nd rfl (by first | exact Or.inl rfl | exact Or.inr rfl) (pe_c c_LRounded hr (by decide) rfl (pa_cons (pv 2) (pa_cons (pv 5) pa_nil))))
  (pss_cons (ps_set (i := 12) scLaw.nd rfl (by first | exact Or.inl rfl | exact Or.inr rfl) pe_int)
  (C8.pss_cut (ps_if (pt_cmpR op_eq (pe_op op_mod (pe_callTy call_intI (by rfl) T.b_int (by decide +kernel) (pa_cons (pe_ix ix_list (pv 5) (pv 7) (fun _ _ => rfl)) pa_nil)) (pv 2)) pe_int (nomark _))
    (pss_one (ps_set (i := 12) scLaw.nd rfl (by first | exact Or.inl rfl | exact Or.inr rfl) pe_int))
    pss_nil)
  (pss_cons (ps_set (i := 13) scLaw.nd rfl (by first | exact Or.inl rfl | exact Or.inr rfl) (pe_callTy call_list_of (by rfl) T.b_list (by decide +kernel) (pa_cons (pv 5) pa_nil)))
  (pss_cons (ps_set (i := 14) scLaw.nd rfl (by first | exact Or.inl rfl | exact Or.inr rfl) (pe_mk k_Pebbles hr (by decide) rfl (pa_cons (pv 13) pa_nil)))
  (pss_cons (ps_if (pt_cmpR (op_neD hr.units) (pv 13) (pv 5) (nomark _))
    (pss_one (ps_ret pe_bl))
    pss_nil)
  (pss_cons (ps_asg (pe_op op_add (pe_ix ix_list (pv 13) (pv 7) (fun _ _ => rfl)) pe_int) (pg_sub (pv 13) (pv 7) set_list))
  (pss_cons (ps_if (pt_not (pt_val (pe_c c_LIs hr (by decide) rfl (pa_cons (pe_c c_FoldSum hr (by decide) rfl (pa_cons (pv 2) (pa_cons (pv 14) pa_nil))) (pa_cons (pv 11) pa_nil)))))
    (pss_one (ps_ret pe_bl))
    pss_nil)
  (pss_cons (ps_if (pt_not (pt_val (pe_c c_LIs hr (by decide) rfl (pa_cons (pe_c c_FoldSum hr (by decide) rfl (pa_cons (pv 3) (pa_cons (pv 14) pa_nil))) (pa_cons (pe_c c_LRounded hr (by decide) rfl (pa_cons (pv 3) (pa_cons (pv 5) pa_nil))) pa_nil)))))
    (pss_one (ps_ret pe_bl))
    pss_nil)
  (pss_cons (ps_if (pt_not (pt_val (pe_c c_LIs hr (by decide) rfl (pa_cons (pe_c c_FoldSum hr (by decide) rfl (pa_cons (pv 2) (pa_cons (pe_mk k_Pebbles hr (by decide) rfl (pa_cons (pe_callTy call_list_of (by rfl) T.b_list (by decide +kernel) (pa_cons (pv 9) pa_nil)) pa_nil)) pa_nil))) (pa_cons (pe_op op_sub (pv 11) (pv 12)) pa_nil)))))
    (pss_one (ps_ret pe_bl))
    pss_nil)
  (pss_cons (ps_if (pt_not (pt_val (pe_c c_LIs hr (by decide) rfl (pa_cons (pe_c c_FoldSum hr (by decide) rfl (pa_cons (pv 2) (pa_cons (pe_mk k_Pebbles hr (by decide) rfl (pa_cons (pe_callTy call_tuple_of (by rfl) T.b_tuple (by decide +kernel) (pa_cons (pv 10) pa_nil)) pa_nil)) pa_nil))) (pa_cons (pe_op op_sub (pe_op op_add (pv 11) (pv 2)) pe_int) pa_nil)))))
    (pss_one (ps_ret pe_bl))
    pss_nil)
  (pss_cons (ps_for (passes_of rfl) rfl (pi_list (pv 8)) (pg_name (i := 15) scLaw.nd rfl (by first | exact Or.inl rfl | exact Or.inr rfl))
    (pss_one (ps_if (pt_not (pt_val (pe_c c_LRefused hr (by decide) rfl (pa_cons (pv 15) (pa_cons (pv 14) pa_nil)))))
      (pss_one (ps_ret pe_bl))
      pss_nil)))
  (pss_cons (ps_for (passes_of rfl) rfl (pi_list (pe_lst (pa_cons pe_int (pa_cons pe_int (pa_cons (pv 2) pa_nil))))) (pg_name (i := 16) scLaw.nd rfl (by first | exact Or.inl rfl | exact Or.inr rfl))
    (pss_one (ps_if (pt_not (pt_val (pe_c c_LIs hr (by decide) rfl (pa_cons (pe_cK0 (ks := ["price", "placing"]) (g := fun l => l) d_FoldSum hr (by decide) rfl (pk_cons (pv 16) (pk_cons (pv 14) pk_nil)) (fun _ _ _ _ _ _ ws hl => match ws, hl with | [_, _], _ => rfl) (fun r => r)) (pa_cons (pe_c c_LRounded hr (by decide) rfl (pa_cons (pv 16) (pa_cons (pv 5) pa_nil))) pa_nil)))))
      (pss_one (ps_ret pe_bl))
      pss_nil)))
  (pss_one (ps_ret (pe_cmpR (op_eqD hr.units) (pe_fld (pv 14) rfl) (pe_callTy call_tuple_of (by rfl) T.b_tuple (by decide +kernel) (pa_cons (pv 5) pa_nil)) (nomark _)))))))))))))))))))))))))))))), ?_⟩
    -- pool
    refine ⟨_, rfl, a, ns, rfl, ha, hl, fun p H1 n1 _ _ hp1 l1 m1 => ?_⟩
    -- cost
    refine ⟨_, rfl, p, n1, 30, rfl, hp1, l1, m1, cdiv_small (by decide) (by decide), fun d1 n2 a1 b1 l2 m2 => ?_⟩
    have hp2 : upd H1 p (.lst (n2.map V.int)) p = some (.lst (n2.map V.int)) := upd_same
    generalize upd H1 p (.lst (n2.map V.int)) = H2 at hp2 ⊢
    refine ⟨_, _, rfl, rfl, ?_⟩
    have hcost : okP (2 + d1) := ⟨by omega, by omega⟩
    -- other
    refine ⟨_, rfl, _, _, rfl, rfl, _, rfl, p, n2, 29, rfl, hp2, l2, m2, cdiv_small (by decide) (by decide), fun d2 n3 a2 b2 l3 m3 => ?_⟩
    have hp3 : upd H2 p (.lst (n3.map V.int)) p = some (.lst (n3.map V.int)) := upd_same
    generalize upd H2 p (.lst (n3.map V.int)) = H3 at hp3 ⊢
    refine ⟨_, _, rfl, rfl, _, rfl, _, _, rfl, rfl, (by show (0 : Int) < 30; decide), _, _, rfl, rfl, ?_⟩
    have hother : okP (2 + (2 + d1 - 1 + d2) % 30) := ⟨by omega, by omega⟩
    -- nodes
    refine ⟨_, rfl, p, n3, 8, rfl, hp3, l3, m3, cdiv_small (by decide) (by decide), fun d3 n4 a3 b3 l4 m4 => ?_⟩
    have hp4 : upd H3 p (.lst (n4.map V.int)) p = some (.lst (n4.map V.int)) := upd_same
    generalize upd H3 p (.lst (n4.map V.int)) = H4 at hp4 ⊢
    refine ⟨_, _, rfl, rfl, ?_⟩
    -- if draw(8) == 7
    refine ⟨fun σ' H' => ∃ (cost other nodes : Int) (n5 : List Int), okP cost ∧ okP other ∧ 1 ≤ nodes ∧ nodes ≤ 64 ∧ H' p = some (.lst (n5.map V.int)) ∧ 0 < n5.length ∧ n5.length ≤ 64 ∧
      σ' = [some (.ref a), some (.ref p), some (.int cost), some (.int other), some (.int nodes), none, none, none, none, none, none, none, none, none, none, none, none], ?_, ?_⟩
    · refine ⟨_, rfl, p, n4, 8, rfl, hp4, l4, m4, cdiv_small (by decide) (by decide), fun d4 n5 a4 b4 l5 m5 => ?_⟩
      refine ⟨rfl, _, rfl, ifI (fun _ => ?_) fun _ => ?_⟩
      · refine ⟨_, rfl, p, n5, 56, rfl, upd_same, l5, m5, cdiv_small (by decide) (by decide), fun d5 n6 a5 b5 l6 m6 => ?_⟩
        exact ⟨_, _, rfl, rfl, _, _, 9 + d5, n6, hcost, hother, by omega, by omega, upd_same, l6, m6, rfl⟩
      · exact ⟨_, _, 1 + d3, n5, hcost, hother, by omega, by omega, upd_same, l5, m5, rfl⟩
    clear hcost hother
    rintro _ H5 ⟨cost, other, nodes, n5, hcost, hother, hn1, hn2, hp5, l5, m5, rfl⟩
    -- counts
    refine ⟨_, rfl, nodes, rfl, (by omega), (by omega), fun D hD => ?_⟩
    have npD : p ≠ D := ne_of_none hp5 hD
    refine lc_range (lo := 0) (n := nodes.toNat) (fun i H' => ∃ (n6 : List Int) (acc : List Int), H' p = some (.lst (n6.map V.int)) ∧ 0 < n6.length ∧ n6.length ≤ 64 ∧ H' D = some (.lst (acc.map V.int)) ∧ acc.length = i ∧ ∀ z ∈ acc, 0 ≤ z ∧ z ≤ MOST - 40)
      ⟨n5, [], by rw [upd_ne npD]; exact hp5, l5, m5, upd_same, rfl, fun z hz => by cases hz⟩ (fun i H' hi h => ?_) fun H' h => ?_
    · obtain ⟨n6, acc, hp6, l6, m6, hacc, hlen, hz⟩ := h
      refine ⟨rfl, _, rfl, _, rfl, p, n6, cost, rfl, hp6, l6, m6, hcost, fun d n7 d0 d1 l7 m7 => ⟨_, by rw [upd_ne npD.symm]; exact hacc, by rw [List.length_map]; exact sz_lt (by omega), n7, acc ++ [d], by rw [upd_ne npD, upd_same], l7, m7, by rw [upd_same, List.map_append] <;> rfl, by simp [hlen], fun z hz2 => ?_⟩⟩
      rcases List.mem_append.mp hz2 with q | q
      · exact hz z q
      · have e : z = d := by simpa using q
        rw [e]
        exact ⟨d0, d1⟩
    obtain ⟨n6, counts, hp6, l6, m6, hD6, hlen, hz⟩ := h
    -- at
    refine ⟨_, rfl, _, rfl, p, n6, nodes, rfl, hp6, l6, m6, cdiv_small (by omega) (by omega), fun at' n7 at0 at1 l7 m7 => ?_⟩
    have hp7 : upd H' p (.lst (n7.map V.int)) p = some (.lst (n7.map V.int)) := upd_same
    have hD7 : upd H' p (.lst (n7.map V.int)) D = some (.lst (counts.map V.int)) := by rw [upd_ne npD.symm]; exact hD6
    generalize upd H' p (.lst (n7.map V.int)) = H7 at hp7 hD7 ⊢
    obtain ⟨j, rfl⟩ : ∃ j : Nat, at' = (j : Int) := ⟨at'.toNat, by omega⟩
    have hj : j < counts.length := by omega
    obtain ⟨c0, hc0⟩ : ∃ c, counts[j]? = some c := ⟨_, List.getElem?_eq_getElem hj⟩
    -- if counts[at] == 0
    refine ⟨fun σ' H' => ∃ (cs : List Int) (z : Int), cs.length = counts.length ∧ (∀ z ∈ cs, 0 ≤ z ∧ z ≤ MOST - 40) ∧ cs[j]? = some z ∧ 1 ≤ z ∧ H' p = some (.lst (n7.map V.int)) ∧ H' D = some (.lst (cs.map V.int)) ∧
      σ' = [some (.ref a), some (.ref p), some (.int cost), some (.int other), some (.int nodes), some (.ref D), none, some (.int (j : Int)), none, none, none, none, none, none, none, none, none], ?_, ?_⟩
    · refine ⟨_, rfl, _, rfl, D, _, _, _, rfl, rfl, SqL.of hD7, atI_nat (at_ints hc0), rfl, _, rfl, ifI (fun c => ?_) fun c => ?_⟩
      · refine ⟨_, rfl, _, rfl, D, _, _, j, rfl, rfl, hD7, ixN_of rfl (by rw [List.length_map]; exact hj), counts.set j 1, 1, by simp, fun z hz2 => ?_, by rw [List.getElem?_set_self hj], by decide, by rw [upd_ne npD]; exact hp7, by rw [upd_same, List.map_set], rfl⟩
        rcases List.mem_or_eq_of_mem_set hz2 with q | q
        · exact hz z q
        · rw [q]
          exact ⟨by decide, by decide +kernel⟩
      · have b := hz c0 (List.mem_of_getElem? hc0)
        exact ⟨counts, c0, rfl, hz, hc0, by omega, hp7, hD7, rfl⟩
    rintro _ H8 ⟨cs, z, hlen2, hzs, hcs, hz1, hp8, hD8, rfl⟩
    have hjl : j < cs.length := by omega
    have hcl : cs.length ≤ 64 := by omega
    have hM : MOST = 10 ^ 120 := rfl
    -- wrongs
    refine ⟨_, rfl, _, rfl, p, n7, 40, rfl, hp8, l7, m7, cdiv_small (by decide) (by decide), fun d8 n9 a8 b8 l9 m9 => ?_⟩
    refine ⟨_, _, rfl, rfl, _, rfl, p, n9, 40, rfl, upd_same, l9, m9, cdiv_small (by decide) (by decide), fun d9 n10 a9 b9 l10 m10 => ?_⟩
    have hD10 : upd (upd H8 p (.lst (n9.map V.int))) p (.lst (n10.map V.int)) D = some (.lst (cs.map V.int)) := by rw [upd_ne npD.symm, upd_ne npD.symm]; exact hD8
    generalize upd (upd H8 p (.lst (n9.map V.int))) p (.lst (n10.map V.int)) = H10 at hD10 ⊢
    refine ⟨_, _, rfl, rfl, _, _, rfl, rfl, pow10 (by decide) (by decide), _, _, rfl, rfl, pow10 (by decide) (by decide), _, _, rfl, rfl, cmul_small (abs_small (by decide +kernel) (by decide +kernel)) (abs_small (by decide +kernel) (by decide +kernel)), by show 6 ≤ sizeLine; decide, fun W hW => ?_⟩
    have ews : ([V.int 0, V.int 1, V.int 32, V.int (-1 - d8), V.int (33 + d9), V.int (10 ^ Int.toNat 60 * 10 ^ Int.toNat 60)] : List V) = [0, 1, 32, -1 - d8, 33 + d9, 10 ^ Int.toNat 60 * 10 ^ Int.toNat 60].map V.int := rfl
    have hbad : ∀ x ∈ ([0, 1, 32, -1 - d8, 33 + d9, 10 ^ Int.toNat 60 * 10 ^ Int.toNat 60] : List Int), ¬ okP x := by
      intro x hx ok
      have o1 := ok.1
      have o2 := ok.2
      have hbig : (31 : Int) < 10 ^ Int.toNat 60 * 10 ^ Int.toNat 60 := by decide +kernel
      simp only [List.mem_cons, List.not_mem_nil, or_false] at hx
      omega
    have hD11 : upd H10 W (.lst [V.int 0, V.int 1, V.int 32, V.int (-1 - d8), V.int (33 + d9), V.int (10 ^ Int.toNat 60 * 10 ^ Int.toNat 60)]) D = some (.lst (cs.map V.int)) := atN hD10 hW
    have hW11 : upd H10 W (.lst [V.int 0, V.int 1, V.int 32, V.int (-1 - d8), V.int (33 + d9), V.int (10 ^ Int.toNat 60 * 10 ^ Int.toNat 60)]) W = some (.lst ([0, 1, 32, -1 - d8, 33 + d9, 10 ^ Int.toNat 60 * 10 ^ Int.toNat 60].map V.int)) := upd_same
    generalize ([0, 1, 32, -1 - d8, 33 + d9, 10 ^ Int.toNat 60 * 10 ^ Int.toNat 60] : List Int) = ws at hbad hW11
    generalize upd H10 W (.lst [V.int 0, V.int 1, V.int 32, V.int (-1 - d8), V.int (33 + d9), V.int (10 ^ Int.toNat 60 * 10 ^ Int.toNat 60)]) = H11 at hD11 hW11 ⊢
    -- lesser
    refine ⟨_, rfl, D, _, rfl, .inl (SqL.of hD11), fun L hL => ?_⟩
    refine ⟨_, rfl, _, rfl, L, _, _, _, rfl, rfl, SqL.of upd_same, atI_nat (at_ints hcs), _, _, rfl, rfl, _, rfl, _, rfl, L, _, _, j, rfl, rfl, upd_same, ixN_of rfl (by rw [List.length_map]; exact hjl), ?_⟩
    rw [upd_upd]
    have hD12 : upd H11 L (.lst ((cs.map V.int).set j (V.int (z - 1)))) D = some (.lst (cs.map V.int)) := atN hD11 hL
    have hW12 : upd H11 L (.lst ((cs.map V.int).set j (V.int (z - 1)))) W = some (.lst (ws.map V.int)) := atN hW11 hL
    have hL12 : upd H11 L (.lst ((cs.map V.int).set j (V.int (z - 1)))) L = some (.lst ((cs.set j (z - 1)).map V.int)) := by rw [upd_same, List.map_set]
    have npDL : D ≠ L := ne_of_none hD11 hL
    generalize upd H11 L (.lst ((cs.map V.int).set j (V.int (z - 1)))) = H12 at hD12 hW12 hL12 ⊢
    -- wider
    refine ⟨_, rfl, D, _, rfl, .inl (SqL.of hD12), fun R hR => ?_⟩
    refine ⟨_, rfl, _, rfl, R, _, _, _, rfl, rfl, SqL.of upd_same, atI_nat (at_ints hcs), _, rfl, _, _, rfl, rfl, _, rfl, _, rfl, R, _, _, j, rfl, rfl, upd_same, ixN_of rfl (by rw [List.length_map]; exact hjl), ?_⟩
    rw [upd_upd]
    have hD13 : upd H12 R (.lst ((cs.map V.int).set j (V.int (z + cost)))) D = some (.lst (cs.map V.int)) := atN hD12 hR
    have hW13 : upd H12 R (.lst ((cs.map V.int).set j (V.int (z + cost)))) W = some (.lst (ws.map V.int)) := atN hW12 hR
    have hL13 : upd H12 R (.lst ((cs.map V.int).set j (V.int (z + cost)))) L = some (.lst ((cs.set j (z - 1)).map V.int)) := atN hL12 hR
    have hR13 : upd H12 R (.lst ((cs.map V.int).set j (V.int (z + cost)))) R = some (.lst ((cs.set j (z + cost)).map V.int)) := by rw [upd_same, List.map_set]
    generalize upd H12 R (.lst ((cs.map V.int).set j (V.int (z + cost)))) = H13 at hD13 hW13 hL13 hR13 ⊢
    have hzs2 : ∀ z ∈ cs, 0 ≤ z ∧ z ≤ MOST := fun z hz => ⟨(hzs z hz).1, by have := (hzs z hz).2; omega⟩
    -- due
    refine ⟨_, rfl, _, rfl, cost, D, cs, rfl, SqL.of hD13, hcost, hzs2, hcl, ?_⟩
    -- fall
    refine ⟨fun σ' H' => ∃ fall : Int, fall = (if z % cost = 0 then 0 else 1) ∧ H' = H13 ∧
      σ' = [some (.ref a), some (.ref p), some (.int cost), some (.int other), some (.int nodes), some (.ref D), none, some (.int (j : Int)), some (.ref W), some (.ref L), some (.ref R), some (.int (rounded cost cs)), some (.int fall), none, none, none, none], ?_, ?_⟩
    · refine ⟨_, rfl, _, rfl, D, _, _, _, rfl, rfl, SqL.of hD13, atI_nat (at_ints hcs), _, rfl, _, rfl, _, _, rfl, rfl, (by have := hcost.1; omega), rfl, _, rfl, ifI (fun c => ?_) fun c => ?_⟩
      · exact ⟨0, by rw [if_pos c], rfl, rfl⟩
      · exact ⟨1, by rw [if_neg c], rfl, rfl⟩
    rintro _ H' ⟨fall, hfall, rfl, rfl⟩
    -- given, heap
    refine ⟨_, rfl, D, _, rfl, .inl (SqL.of hD13), fun G hG => ?_⟩
    have stG : ∀ o, Same H' (upd H' G o) := fun o => sm0 hG
    refine ⟨_, rfl, fun h dh hh _ _ => ?_⟩
    have hG0 : upd H' G (.lst (cs.map V.int)) G = some (.lst (cs.map V.int)) := upd_same
    have okcs : okNs cs := ⟨by omega, hcl, hzs2⟩
    refine pebMk hh ‹_› ‹_› (.inl hG0) okcs fun H14 st14 hp14 => ?_
    have hG14 := st14 _ _ hG0
    have hD14 := st14 _ _ (stG _ _ _ hD13)
    have hW14 := st14 _ _ (stG _ _ _ hW13)
    have hL14 := st14 _ _ (stG _ _ _ hL13)
    have hR14 := st14 _ _ (stG _ _ _ hR13)
    have nGD := ne_of_none hD13 hG
    have nGW := ne_of_none hW13 hG
    have nGL := ne_of_none hL13 hG
    have nGR := ne_of_none hR13 hG
    -- given != counts
    refine ⟨_, rfl, _, rfl, _, _, dpL (SqL.of hG14), dpL (SqL.of hD14), shL _, shL _, ?_⟩
    rw [eqvL, decide_eq_true rfl]
    refine ⟨_, rfl, ifF rfl ?_⟩
    -- given[at]
    refine ⟨_, rfl, _, rfl, G, _, _, _, rfl, rfl, SqL.of hG14, atI_nat (at_ints hcs), _, _, rfl, rfl, _, rfl, _, rfl, G, _, _, j, rfl, rfl, hG14, ixN_of rfl (by rw [List.length_map]; exact hjl), ?_⟩
    have hp15 := hp14.upd (o' := .lst ((cs.map V.int).set j (V.int (z + 1)))) hG14 (fun _ _ _ z => by cases z) fun _ z => by cases z
    have hD15 : upd H14 G (.lst ((cs.map V.int).set j (V.int (z + 1)))) D = some (.lst (cs.map V.int)) := by rw [upd_ne nGD]; exact hD14
    have hW15 : upd H14 G (.lst ((cs.map V.int).set j (V.int (z + 1)))) W = some (.lst (ws.map V.int)) := by rw [upd_ne nGW]; exact hW14
    have hL15 : upd H14 G (.lst ((cs.map V.int).set j (V.int (z + 1)))) L = some (.lst ((cs.set j (z - 1)).map V.int)) := by rw [upd_ne nGL]; exact hL14
    have hR15 : upd H14 G (.lst ((cs.map V.int).set j (V.int (z + 1)))) R = some (.lst ((cs.set j (z + cost)).map V.int)) := by rw [upd_ne nGR]; exact hR14
    generalize upd H14 G (.lst ((cs.map V.int).set j (V.int (z + 1)))) = H15 at hp15 hD15 hW15 hL15 hR15 ⊢
    have hc1 : 1 ≤ cost := by have := hcost.1; omega
    -- fold_sum(cost, heap)
    refine ⟨_, rfl, _, rfl, cost, h, cs, rfl, hp15, hcl, fun _ H16 st16 => ?_, fun n => absurd hcost n⟩
    refine ⟨_, rfl, _, _, rfl, ?_⟩
    rw [decide_eq_true (rounded_eq cost cs hc1).symm]
    refine ⟨true, rfl, ifF rfl ?_⟩
    -- fold_sum(other, heap)
    have ho1 : 1 ≤ other := by have := hother.1; omega
    refine ⟨_, rfl, _, rfl, other, h, cs, rfl, hp15.same st16, hcl, fun _ H17 st17 => ?_, fun n => absurd hother n⟩
    have s17 := st16.trans st17
    refine ⟨_, rfl, _, rfl, other, D, cs, rfl, SqL.of (s17 _ _ hD15), hother, hzs2, hcl, _, _, rfl, ?_⟩
    rw [decide_eq_true (rounded_eq other cs ho1).symm]
    refine ⟨true, rfl, ifF rfl ?_⟩
    -- fold_sum(cost, Pebbles(list(lesser)))
    have okL : okNs (cs.set j (z - 1)) := okset okcs (by omega) (by have := (hzs2 z (List.mem_of_getElem? hcs)).2; omega)
    refine ⟨_, rfl, _, rfl, L, _, rfl, .inl (SqL.of (s17 _ _ hL15)), fun L2 hL2 => fun h2 dh2 hh2 hd2 ne2 => ?_⟩
    refine pebMk hh2 hd2 ne2 (.inl upd_same) okL fun H18 st18 hp18 => ?_
    have s18 := (s17.trans (sm0 hL2)).trans st18
    refine ⟨cost, h2, _, rfl, hp18, okL.2.1, fun _ H19 st19 => ?_, fun n => absurd hcost n⟩
    have s19 := s18.trans st19
    refine ⟨_, rfl, _, rfl, _, _, rfl, rfl, _, _, rfl, ?_⟩
    have eL : foldSum cost (cs.set j (z - 1)) = rounded cost cs - fall := by
      rw [rounded_eq cost cs hc1, hfall]
      unfold foldSum
      rw [sumset _ cs j z (z - 1) hcs, less_one cost z hc1]
      omega
    rw [decide_eq_true eL]
    refine ⟨true, rfl, ifF rfl ?_⟩
    -- fold_sum(cost, Pebbles(tuple(wider)))
    have okR : okNs (cs.set j (z + cost)) := okset okcs (by omega) (by have := (hzs z (List.mem_of_getElem? hcs)).2; have := hcost.2; omega)
    refine ⟨_, rfl, _, rfl, R, _, rfl, .inl ⟨SqL.of (s19 _ _ hR15), fun R2 hR2 => fun h3 dh3 hh3 hd3 ne3 => ?_⟩⟩
    refine pebMk hh3 hd3 ne3 (.inr upd_same) okR fun H20 st20 hp20 => ?_
    have s20 := (s19.trans (sm0 hR2)).trans st20
    refine ⟨cost, h3, _, rfl, hp20, okR.2.1, fun _ H21 st21 => ?_, fun n => absurd hcost n⟩
    have s21 := s20.trans st21
    refine ⟨_, rfl, _, rfl, _, _, rfl, rfl, _, _, rfl, rfl, _, _, rfl, ?_⟩
    have eR : foldSum cost (cs.set j (z + cost)) = rounded cost cs + cost - 1 := by
      rw [rounded_eq cost cs hc1]
      unfold foldSum
      rw [sumset _ cs j z (z + cost) hcs, more_c cost z hc1]
      omega
    rw [decide_eq_true eR]
    refine ⟨true, rfl, ifF rfl ?_⟩
    -- the wrongs
    refine ⟨_, rfl, W, rfl, ⟨_, SqL.of (s21 _ _ hW15)⟩, for_list (K := K) (a := W) (xs := ws.map V.int) (fun i σ H' => ∃ v : Option V, Same H15 H' ∧ σ = [some (.ref a), some (.ref p), some (.int cost), some (.int other), some (.int nodes), some (.ref D), none, some (.int (j : Int)), some (.ref W), some (.ref L), some (.ref R), some (.int (rounded cost cs)), some (.int fall), some (.ref G), some (.ref h), v, none])
      ⟨none, s21, rfl⟩ (fun i σ H' _ hq => by obtain ⟨_, sq, _⟩ := hq; exact SqL.of (sq _ _ hW15)) (fun i x σ H' hx hq => ?_) fun σ H' hq => ?_⟩
    · obtain ⟨v, sq, rfl⟩ := hq
      obtain ⟨y, hy, rfl⟩ := ints_at hx
      refine ⟨_, rfl, _, rfl, y, h, cs, rfl, hp15.same sq, hcl, hbad y (List.mem_of_getElem? hy), fun H'' sq2 => ?_⟩
      exact ⟨true, rfl, ifF rfl ⟨_, sq.trans sq2, rfl⟩⟩
    obtain ⟨v, sq, rfl⟩ := hq
    -- the rights
    refine ⟨_, rfl, (by show 3 ≤ sizeLine; decide), fun B hB => ?_⟩
    have sB : Same H15 (upd H' B (.lst (([31, 2, cost] : List Int).map V.int))) := sq.trans (sm0 hB)
    refine ⟨B, rfl, ⟨_, SqL.of upd_same⟩, for_list (K := K) (a := B) (xs := ([31, 2, cost] : List Int).map V.int) (fun i σ H'' => ∃ u : Option V, Same (upd H' B (.lst (([31, 2, cost] : List Int).map V.int))) H'' ∧ σ = [some (.ref a), some (.ref p), some (.int cost), some (.int other), some (.int nodes), some (.ref D), none, some (.int (j : Int)), some (.ref W), some (.ref L), some (.ref R), some (.int (rounded cost cs)), some (.int fall), some (.ref G), some (.ref h), v, u])
      ⟨none, Same.refl _, rfl⟩ (fun i σ H' _ hq => by obtain ⟨_, sq, _⟩ := hq; exact SqL.of (sq _ _ upd_same)) (fun i x σ H' hx hq => ?_) fun σ H' hq => ?_⟩
    · obtain ⟨u, sr, rfl⟩ := hq
      obtain ⟨y, hy, rfl⟩ := ints_at hx
      have oky : okP y := by
        have m := List.mem_of_getElem? hy
        simp only [List.mem_cons, List.not_mem_nil, or_false] at m
        rcases m with e | e | e
        · rw [e]; exact ⟨by decide, by decide⟩
        · rw [e]; exact ⟨by decide, by decide⟩
        · rw [e]; exact hcost
      have hy1 : 1 ≤ y := by have := oky.1; omega
      have s3 := sB.trans sr
      refine ⟨_, rfl, _, rfl, rfl, y, h, cs, rfl, hp15.same s3, hcl, fun _ H3 st3 => ?_, fun n => absurd oky n⟩
      refine ⟨_, rfl, _, rfl, y, D, cs, rfl, SqL.of ((s3.trans st3) _ _ hD15), oky, hzs2, hcl, _, _, rfl, ?_⟩
      rw [decide_eq_true (rounded_eq y cs hy1).symm]
      exact ⟨true, rfl, ifF rfl ⟨_, sr.trans st3, rfl⟩⟩
    obtain ⟨u, sr, rfl⟩ := hq
    have s4 := sB.trans sr
    obtain ⟨dx, q, hh4, hq4⟩ := hp15.same s4
    have lc : (pebF q cs).lookup ("counts" : Str) = some (V.ref q) := by walk_at "lk"
    refine ⟨_, rfl, h, C6, dx, _, _, rfl, hh4, T.lPebbles, T.nPebbles_counts, lc, _, rfl, D, _, rfl, .inl ⟨SqL.of (s4 _ _ hD15), fun q2 hq2 => ?_⟩⟩
    refine ⟨_, _, dpT (SqT.of (sm0 hq2 _ _ hq4)), dpT (SqT.of upd_same), shT _, shT _, ?_⟩
    rw [eqvT, decide_eq_true rfl]
    exact k _
end
end K39
set_option maxRecDepth 100000
set_option maxHeartbeats 4000000
namespace K39
open L2
abbrev sBadCount : PySem.Stmt := inClass (top 3) 0
abbrev sNotPebbles : PySem.Stmt := inClass (top 4) 0
end K39
open PySem PySem.W PyProof.Rows L2 SI K39 NdefX
set_option maxRecDepth 100000 in
set_option maxHeartbeats 0 in
theorem PySem.Challenge.cw_pebblesreach_k39_fold_sums_holds : PySem.Challenge.rw_pebblesreach_k39_fold_sums.Holds := by
  w_on; o_law; k_head; (case hw => w_witness2)
  k_fill
  refine walkK (l := PySem.Challenge.rw_pebblesreach_k39_fold_sums) (n := 63) (k := 6) (x := "script") (sp := spLaw) rfl (by decide) rfl ⟨rfl, by decide, by decide⟩ (fun K H a ns hl hS => ⟨a, ns, rfl, hS, hl, fun _ => rfl⟩) (fun w h Y => PySem.W.kIn_of Y) ?F
  case F =>
    intro w mg fa h KX G hmg
    refine' exc_at (x := "PebbleError") KX G ?h1a ?h1l ?h1rf ?h1sa ?h1exC ?h1tyC ?h1kC ?h1ga ?h1gg ?h1hd ?h1ac ?h1mo fun g_PebbleError o_PebbleError e_PebbleError => ?_
    (case h1a => k_is)
    (case h1l => k_is)
    (case h1rf => decide +kernel)
    (case h1sa => k_is)
    (case h1exC => k_is)
    (case h1tyC => k_is)
    (case h1kC => k_is)
    (case h1ga => k_is)
    (case h1gg => k_is)
    (case h1hd => k_is)
    (case h1ac => k_is)
    (case h1mo => k_is)
    refine' exc_at (x := "BadCount") KX G ?h2a ?h2l ?h2rf ?h2sa ?h2exC ?h2tyC ?h2kC ?h2ga ?h2gg ?h2hd ?h2ac ?h2mo fun g_BadCount o_BadCount e_BadCount => ?_
    (case h2a => k_is)
    (case h2l => k_is)
    (case h2rf => decide +kernel)
    (case h2sa => k_is)
    (case h2exC => k_is)
    (case h2tyC => k_is)
    (case h2kC => k_is)
    (case h2ga => k_is)
    (case h2gg => k_is)
    (case h2hd => k_is)
    (case h2ac => k_is)
    (case h2mo => k_is)
    refine' exc_at (x := "NotPebbles") KX G ?h3a ?h3l ?h3rf ?h3sa ?h3exC ?h3tyC ?h3kC ?h3ga ?h3gg ?h3hd ?h3ac ?h3mo fun g_NotPebbles o_NotPebbles e_NotPebbles => ?_
    (case h3a => k_is)
    (case h3l => k_is)
    (case h3rf => decide +kernel)
    (case h3sa => k_is)
    (case h3exC => k_is)
    (case h3tyC => k_is)
    (case h3kC => k_is)
    (case h3ga => k_is)
    (case h3gg => k_is)
    (case h3hd => k_is)
    (case h3ac => k_is)
    (case h3mo => k_is)
    refine' exc_at (x := "WrongWidth") KX G ?h4a ?h4l ?h4rf ?h4sa ?h4exC ?h4tyC ?h4kC ?h4ga ?h4gg ?h4hd ?h4ac ?h4mo fun g_WrongWidth o_WrongWidth e_WrongWidth => ?_
    (case h4a => k_is)
    (case h4l => k_is)
    (case h4rf => decide +kernel)
    (case h4sa => k_is)
    (case h4exC => k_is)
    (case h4tyC => k_is)
    (case h4kC => k_is)
    (case h4ga => k_is)
    (case h4gg => k_is)
    (case h4hd => k_is)
    (case h4ac => k_is)
    (case h4mo => k_is)
    refine' exc_at (x := "BadPrice") KX G ?h5a ?h5l ?h5rf ?h5sa ?h5exC ?h5tyC ?h5kC ?h5ga ?h5gg ?h5hd ?h5ac ?h5mo fun g_BadPrice o_BadPrice e_BadPrice => ?_
    (case h5a => k_is)
    (case h5l => k_is)
    (case h5rf => decide +kernel)
    (case h5sa => k_is)
    (case h5exC => k_is)
    (case h5tyC => k_is)
    (case h5kC => k_is)
    (case h5ga => k_is)
    (case h5gg => k_is)
    (case h5hd => k_is)
    (case h5ac => k_is)
    (case h5mo => k_is)
    refine' sup_at (P := PySem.Challenge.rw_pebblesreach_k39_fold_sums.prog) (qual := "BadCount.__init__") (st := sBadCount) KX G o_BadCount rfl ?h6i ?h6t ?h6l ?h6c ?h6lc ?h6hf ?h6hm ?h6lcc ?h6self ?h6sup ?h6sub ?h6z ?h6any ?h6top fun fd_BadCount s_BadCount i_BadCount t_BadCount x_BadCount => ?_
    (case h6i => k_is)
    (case h6t => k_is)
    (case h6l => k_is)
    (case h6c => k_is)
    (case h6lc => k_is)
    (case h6hf => rfl)
    (case h6hm => first | rfl | decide +kernel)
    (case h6lcc => k_is)
    (case h6self => k_is)
    (case h6sup => ks_is)
    (case h6sub => k_is)
    (case h6z => k_is)
    (case h6any => k_is)
    (case h6top => decide +kernel)
    refine' sup_at (P := PySem.Challenge.rw_pebblesreach_k39_fold_sums.prog) (qual := "NotPebbles.__init__") (st := sNotPebbles) KX G o_NotPebbles rfl ?h7i ?h7t ?h7l ?h7c ?h7lc ?h7hf ?h7hm ?h7lcc ?h7self ?h7sup ?h7sub ?h7z ?h7any ?h7top fun fd_NotPebbles s_NotPebbles i_NotPebbles t_NotPebbles x_NotPebbles => ?_
    (case h7i => k_is)
    (case h7t => k_is)
    (case h7l => k_is)
    (case h7c => k_is)
    (case h7lc => k_is)
    (case h7hf => rfl)
    (case h7hm => first | rfl | decide +kernel)
    (case h7lcc => k_is)
    (case h7self => k_is)
    (case h7sup => ks_is)
    (case h7sub => k_is)
    (case h7z => k_is)
    (case h7any => k_is)
    (case h7top => decide +kernel)
    refine' mak_at (x := "Pebbles") (qual := "Pebbles.__init__") (st := sPebblesInit) (ps := ["self", "counts"]) KX G (fun _ _ _ _ _ _ us hl => match us, hl with | [_, _], _ => rfl) ?h8a ?h8mk ?h8i ?h8n ?h8kc ?h8l ?h8c ?h8k fun m_Pebbles => ?_
    (case h8a => k_is)
    (case h8mk => k_is)
    (case h8i => k_is)
    (case h8n => k_is)
    (case h8kc => k_is)
    (case h8l => k_is)
    (case h8c => k_is)
    (case h8k => k_is)
    refine' def_at (x := "check_counts") (st := sCheckCounts) (ps := ["many"]) KX G (fun _ _ _ _ _ _ us hl => match us, hl with | [_], _ => rfl) ?h9a ?h9l ?h9c ?h9k fun d_check_counts => ?_
    (case h9a => k_is)
    (case h9l => k_is)
    (case h9c => k_is)
    (case h9k => k_is)
    refine' def_at (x := "check_entries") (st := sCheckEntries) (ps := ["counts"]) KX G (fun _ _ _ _ _ _ us hl => match us, hl with | [_], _ => rfl) ?h10a ?h10l ?h10c ?h10k fun d_check_entries => ?_
    (case h10a => k_is)
    (case h10l => k_is)
    (case h10c => k_is)
    (case h10k => k_is)
    refine' def_at (x := "fold_sum") (st := sFoldSum) (ps := ["price", "placing"]) KX G (fun _ _ _ _ _ _ us hl => match us, hl with | [_, _], _ => rfl) ?h11a ?h11l ?h11c ?h11k fun d_fold_sum => ?_
    (case h11a => k_is)
    (case h11l => k_is)
    (case h11c => k_is)
    (case h11k => k_is)
    refine' def_at (x := "_law_start") (st := sLStart) (ps := ["script"]) KX G (fun _ _ _ _ _ _ us hl => match us, hl with | [_], _ => rfl) ?h12a ?h12l ?h12c ?h12k fun d__law_start => ?_
    (case h12a => k_is)
    (case h12l => k_is)
    (case h12c => k_is)
    (case h12k => k_is)
    refine' def_at (x := "_law_draw") (st := sLDraw) (ps := ["pool", "size"]) KX G (fun _ _ _ _ _ _ us hl => match us, hl with | [_, _], _ => rfl) ?h13a ?h13l ?h13c ?h13k fun d__law_draw => ?_
    (case h13a => k_is)
    (case h13l => k_is)
    (case h13c => k_is)
    (case h13k => k_is)
    refine' def_at (x := "_law_count") (st := sLCount) (ps := ["pool", "cost"]) KX G (fun _ _ _ _ _ _ us hl => match us, hl with | [_, _], _ => rfl) ?h14a ?h14l ?h14c ?h14k fun d__law_count => ?_
    (case h14a => k_is)
    (case h14l => k_is)
    (case h14c => k_is)
    (case h14k => k_is)
    refine' def_at (x := "_law_rounded") (st := sLRounded) (ps := ["cost", "counts"]) KX G (fun _ _ _ _ _ _ us hl => match us, hl with | [_, _], _ => rfl) ?h15a ?h15l ?h15c ?h15k fun d__law_rounded => ?_
    (case h15a => k_is)
    (case h15l => k_is)
    (case h15c => k_is)
    (case h15k => k_is)
    refine' def_at (x := "_law_is") (st := sLIs) (ps := ["told", "due"]) KX G (fun _ _ _ _ _ _ us hl => match us, hl with | [_, _], _ => rfl) ?h16a ?h16l ?h16c ?h16k fun d__law_is => ?_
    (case h16a => k_is)
    (case h16l => k_is)
    (case h16c => k_is)
    (case h16k => k_is)
    refine' def_at (x := "_law_refused") (st := sLRefused) (ps := ["wrong", "heap"]) KX G (fun _ _ _ _ _ _ us hl => match us, hl with | [_, _], _ => rfl) ?h17a ?h17l ?h17c ?h17k fun d__law_refused => ?_
    (case h17a => k_is)
    (case h17l => k_is)
    (case h17c => k_is)
    (case h17k => k_is)
    refine' def_at (x := "law") (st := sLaw) (ps := ["script"]) KX G (fun _ _ _ _ _ _ us hl => match us, hl with | [_], _ => rfl) ?h18a ?h18l ?h18c ?h18k fun d_law => ?_
    (case h18a => k_is)
    (case h18l => k_is)
    (case h18c => k_is)
    (case h18k => k_is)
    refine' int_is (x := "MOST") KX G ?cMOST fun c_MOST => ?_
    (case cMOST => k_is)
    refine' int_is (x := "MOST_NODES") KX G ?cMOST_NODES fun c_MOST_NODES => ?_
    (case cMOST_NODES => k_is)
    refine' int_is (x := "MOST_PRICE") KX G ?cMOST_PRICE fun c_MOST_PRICE => ?_
    (case cMOST_PRICE => k_is)
    refine' int_is (x := "LEAST_PRICE") KX G ?cLEAST_PRICE fun c_LEAST_PRICE => ?_
    (case cLEAST_PRICE => k_is)
    refine' law_at (x := "law") (y := "script") (st := sLaw) KX G hmg (fun _ _ _ _ _ _ us hl => match us, hl with | [_], _ => rfl) ?la ?lb (fun base => ok_Law (C1 := _) (C2 := _) (C3 := _) (C4 := _) (C5 := _) (C6 := _) {
      b_len := PySem.W.mg_none_of KX G (by k_is)
      b_int := PySem.W.mg_none_of KX G (by k_is)
      b_enumerate := PySem.W.mg_none_of KX G (by k_is)
      b_tuple := PySem.W.mg_none_of KX G (by k_is)
      b_sum := PySem.W.mg_none_of KX G (by k_is)
      b_list := PySem.W.mg_none_of KX G (by k_is)
      b_isinstance := PySem.W.mg_none_of KX G (by k_is)
      b_bool := PySem.W.mg_none_of KX G (by k_is)
      b_range := PySem.W.mg_none_of KX G (by k_is)
      b_ValueError := PySem.W.mg_none_of KX G (by k_is)
      c_MOST := int_as (by decide +kernel) c_MOST
      c_MOST_NODES := int_as (by decide +kernel) c_MOST_NODES
      c_MOST_PRICE := int_as (by decide +kernel) c_MOST_PRICE
      c_LEAST_PRICE := int_as (by decide +kernel) c_LEAST_PRICE
      rBadCount := rs2 o_BadCount g_BadCount i_BadCount t_BadCount (errB_ok (k := 0) s_BadCount (nscope_by (by decide +kernel)) (by decide) (by decide) rfl rfl (by decide +kernel) (by k_is) (by k_is) (fun _ => rfl) (by decide) (by decide) (by decide) (by decide)) (bindX (fun _ _ _ _ _ _ _ us hl => match us, hl with | [_, _, _], _ => rfl) x_BadCount) (by decide)
      rNotPebbles := rs1 o_NotPebbles g_NotPebbles i_NotPebbles t_NotPebbles (err1_ok (k := 0) s_NotPebbles (nscope_by (by decide +kernel)) rfl rfl (by decide +kernel) (by k_is) (fun _ => rfl) (by decide) (by decide)) (bindX (fun _ _ _ _ _ _ _ us hl => match us, hl with | [_, _], _ => rfl) x_NotPebbles) (by decide)
      d_check_counts := d_check_counts
      d_check_entries := d_check_entries
      d_fold_sum := d_fold_sum
      d__law_start := d__law_start
      d__law_draw := d__law_draw
      d__law_count := d__law_count
      d__law_rounded := d__law_rounded
      d__law_is := d__law_is
      d__law_refused := d__law_refused
      d_law := d_law
      m_Pebbles := m_Pebbles
      lPebbles := ⟨by k_is, by k_is, by k_is, by k_is⟩
      nPebbles_counts := by unfold L2.NoAttr; k_is
      nPebbles_nodes := by unfold L2.NoAttr; k_is
      nPebbles_size := by unfold L2.NoAttr; k_is
      gPebbleError := g_PebbleError
      gBadCount := g_BadCount
      gNotPebbles := g_NotPebbles
      gWrongWidth := g_WrongWidth
      gBadPrice := g_BadPrice
      ek := ⟨by k_is, by k_is⟩
      eBadCount := e_BadCount
      fBadCount_what := by k_is
      fBadCount_many := by k_is
      xBadCount_PebbleError := xm_at e_PebbleError o_PebbleError (by k_is)
      tBadCount_ValueError := kit_VE (by k_is)
      tBadCount_BadCount := kit_self
      tBadCount_NotPebbles := kit_ref e_NotPebbles o_NotPebbles (by decide) (by k_is)
      tBadCount_WrongWidth := kit_ref e_WrongWidth o_WrongWidth (by decide) (by k_is)
      tBadCount_BadPrice := kit_ref e_BadPrice o_BadPrice (by decide) (by k_is) })
    (case lb => k_is); (case la => k_is)
#print axioms PySem.Challenge.cw_pebblesreach_k39_fold_sums_holds
