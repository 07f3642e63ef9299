import PyProof.Rows.All
import Wide.All
import OpenK.AllK
import Wide.FinOn
import KE.KExcSuper
import HandS.ForMost
import HandS.ForExc
import HandS.ExcInit
import HandS.ExcField
import HandS.ExcIs
import HandS.IsInst
import KE.KExcIs
import HandS.Nested
import HandS.HotCalls
import KE.GoesEnum
import KE.GoesMore
import HandS.Walk
import KE.KTupSum
import HandS.Codes
import HandS.CallSlots
import HandS.Defaults
import HandS.MakeKw
import HandS.Wide
import HandS.Evl
import HandS.Gcd
import HandS.TupAny
import PySem.Challenge.RW_pebblesreach_k44_divisor_lots
set_option Elab.async false
set_option linter.all false
set_option maxRecDepth 100000
set_option maxHeartbeats 4000000
/-! Errors of the package: __init__ begins with super().__init__(..); isinstance and fields of a caught error; calls within an except suite. -/
namespace SI
open PySem PySem.Spec PyProof.Rows L2 NdefX

/-! ### super().__init__(e0), then the rest -/
structure SupF (P : Program) (K : PySem.W.Frag) (mg : Str → Option Value) (C fI : Addr) (qual : Str) (params : Arguments) (e0 : Expr) (rest : List Stmt) (scope : Scope) (p0 p1 p2 p3 p4 : Pos) (fd : FuncData) : Prop where
  ex : ∃ (oc : Value) (od : Option Addr) (kV doc pm : Value) (an : Option Addr) (ct : Value) (osl : Array (Option Value)) (cc cda : Addr)
      (q1 : Value) (q2 : Option Addr) (q3 : Array (Option Value)) (r1 : Value) (r2 : Option Addr) (vs : Array Value) (r3 : Array (Option Value)) (file : Str) (tf : Tok),
    fd = PySem.W.fnX "__init__" qual params (.Expr (.Call (.Attribute (.Call (.Name "super" p0) [] [] p1) "__init__" p2) [e0] [] p3) p4 :: rest) scope [("__class__", cc)] .none kV doc pm an (.ref cda) ct ∧
    K.lookup fI = some ⟨oc, od, .func fd, osl⟩ ∧ PySem.W.codeIn K (.ref cda) qual = true ∧
    K.lookup cda = some ⟨r1, r2, .fields vs, r3⟩ ∧ vs[2]? = some (.str file tf) ∧ (P.main.file == file) = true ∧
    K.lookup cc = some ⟨q1, q2, .cell (some (.ref C)), q3⟩
  oex : OexC K C
  self : PySem.W.mroIn K C (.ref C) = some true
  sup : PySem.W.ks_superIn K C C "__init__" = some (some (.builtin "ValueError.__init__"))
  sub : PySem.W.subIn K (.ref C) (.type "ValueError") = some true
  mg0 : mg "super" = none
  any : PySem.W.nsIn K cStatics "thirdparty.any" = some none
  top : (P.main.scope.names.lookup ("super" : Str)).isSome = false

/-- ValueError.__init__ bound to the exception at x (the object at u), called -/
theorem call_mw {prog : Program} {w : World} {A : Around} {E : Value → Shared → Prop} {h : Heap} {g : Array GenState} {d : Drawn} {t : Nat} {os : OsState}
    {nm q : Str} {C N : Addr} {bs bm : List Value} {hdct : Bool} {sn : List Str} {sub : List Value} {ab : Bool} {col : Option Bool} {dd : Option Addr} {k0 k1 k2 k3 k5 : Option Value}
    {u x t0 : Addr} {rest : List Value} {Q : Value → Shared → Prop}
    (hC : h.get? C = some (excClassObj nm q C N bs bm hdct sn sub ab col dd k0 k1 k2 k3 k5 "ValueError.__new__")) (hx : h.get? x = some (PySem.HandSPX.excO C t0)) (hu : h.get? u = some (PySem.W.kxs_mw "ValueError.__init__" x)) (hz : rest.length ≤ sizeLine)
    (hq : ∀ h' t1, (∀ b o, b ≠ x → h.get? b = some o → h'.get? b = some o) → h'.get? x = some (PySem.HandSPX.excO C t1) → Q .none ⟨h', g, d, t, os⟩) :
    wpAny (model prog w) A (call (.ref u) rest) Q E ⟨h, g, d, t, os⟩ := by
  refine wpAny_call (codeAny_of_tree ?_)
  show wpAny _ A.in1 (callAny (.ref u) ⟨rest, []⟩) _ _ _
  simp only [callAny]
  refine wpAny_bind (wpAny_load hu ?_)
  simp only [PySem.W.kxs_mw, (by decide : (Value.type "method-wrapper" == Value.type "method" || Value.type "method-wrapper" == Value.type "builtin_function_or_method" || Value.type "method-wrapper" == Value.type "method-wrapper") = true), if_true]
  refine PySem.W.KFB.if_so (by decide) ?_
  refine wpAny_bind (PySem.W.check_bound_init F.excBase_ValueError.toExcCallFacts hC hx rfl ?_)
  refine wpAny_bind (wpAny_pure (wpAny_pure ?_))
  refine ⟨plainId_quiet F.excBase_ValueError.init.plain _, codeAny_builtin F.excBase_ValueError.initEntry ?_⟩
  rw [Around.under_plainId F.excBase_ValueError.init.plain _]
  wp_walk
  refine hq _ h.objs.size (fun b o hb ho => ?_) ?_
  · rw [Heap.get?_update_other _ _ (Ne.symm hb)]
    exact Heap.get?_push_of_some _ ho
  · rw [Heap.get?_update_self _ (Heap.get?_push_of_some _ hx) rfl]
    rfl

section
variable {CX : CXT} {P : Program} {w : World} {K : PySem.W.Frag} {mg : Str → Option Value} {base : Heap} {N ps : List Str} {k : Nat} {sp : Sp} {C fI : Addr} {qual : Str} {params : Arguments} {e0 : Expr} {rest : List Stmt} {scope : Scope} {p0 p1 p2 p3 p4 : Pos} {fd : FuncData}
def nf (qual : Str) (params : Arguments) (body : List Stmt) (scope : Scope) (cc cda : Addr) : NF := ⟨"__init__", qual, params, body, scope, [("__class__", cc)], cda⟩
theorem sup_ok (T : SupF P K mg C fI qual params e0 rest scope p0 p1 p2 p3 p4 fd) (S : NScope N ps ["__class__"] scope) {ar : Arg} (hp : (params.posonlyargs ++ params.args).head? = some ar) (hp0 : ps[0]? = some ar.arg) (hks : scope.names.lookup ("super" : Str) = some .globalImplicit)
    (hst : ∀ env : Env, starEach [e0] env = (false, eval e0 env) :: starEach [] env)
    (hcall : ∀ env : Env, eval (.Call (.Attribute (.Call (.Name "super" p0) [] [] p1) "__init__" p2) [e0] [] p3) env = (do
      let ov ← attributeBase (.Call (.Name "super" p0) [] [] p1) "__init__" env (eval (.Call (.Name "super" p0) [] [] p1) env)
      standAt p2.atName
      let (f, first) ← holding [ov] (getMethod ov "__init__" (do return (← importBound (.Call (.Name "super" p0) [] [] p1) env).getD true))
      callWith p3 f first (backTo p3 (starEach [e0] env)) [])) (len : ∀ vs H Q E, sp vs H Q E → vs.length = ps.length)
    (hbody : ∀ (X : Cx) (H : Hp) (vs : List V) (Q : VK) (E : XK), X.N = N → X.K = K → X.mg = mg → X.env.scope = scope → X.calm = true → sp vs H Q E →
      ∃ (a : Addr) (ta : TA) (t : TS), vs[0]? = some (.ref a) ∧ H a = some (exo a C none) ∧ PA X [e0] ta ∧ PSs X rest t ∧
        ta (startF N vs [some (.ref C)]) H (fun ws H1 => ws.length ≤ sizeLine ∧ H1 a = some (exo a C none) ∧ t { nx := fun _ H' => Q .non H', rt := Q } (startF N vs [some (.ref C)]) H1)) :
    FnOk P w K mg base CX (k + 1) fI fd ps sp := by
  obtain ⟨oc, od, kV, doc, pm, an, ct, osl, cc, cda, q1, q2, q3, r1, r2, vs2, r3, file, tf, rfl, lk, hcd, hcda, hfile, hmain, hcc⟩ := T.ex
  refine ⟨len, fun A outer s H args us vs Q E hr e0' hb r hsp => ?_⟩
  have hl := len _ _ _ _ hsp
  have KX : K.In s.heap := e0'.mod.kin.keeps fun b o e => (e0'.bs b o e).1
  have lim : s.heap.NoLimit := e0'.mod.nolimit.keeps fun b o e => (e0'.bs b o e).1
  have hcH : H cc = none := (e0'.bs cc _ (e0'.mod.kin _ _ hcc)).2
  have CA : CellsAt [(("__class__" : Str), cc)] ["__class__"] [some (V.ref C)] s.heap H := {
    len := rfl
    all := fun y c hy => by
      have e : (y, c) ∈ [(("__class__" : Str), cc)] := PySem.mem_of_lookup hy
      simp only [List.mem_singleton, Prod.mk.injEq] at e
      obtain ⟨_, rfl⟩ := e
      exact ⟨hcH, _, _, KX _ _ hcc, rfl⟩
    inj := fun x y c hx hy => by
      have ex : (x, c) ∈ [(("__class__" : Str), cc)] := PySem.mem_of_lookup hx
      have ey : (y, c) ∈ [(("__class__" : Str), cc)] := PySem.mem_of_lookup hy
      simp only [List.mem_singleton, Prod.mk.injEq] at ex ey
      rw [ex.1, ey.1]
    has := fun i y hy => by
      cases i with
      | succ j => simp at hy
      | zero =>
        have e : y = "__class__" := by simpa using hy.symm
        subst e
        refine ⟨cc, by rfl, fun v hv => ?_⟩
        have e : v = V.ref C := by simpa using hv.symm
        subst e
        exact ⟨.ref C, rfl, _, KX _ _ hcc, rfl⟩ }
  refine ks_codeAny_call_defAt (binds := ps.zip us) hr.depth (KX _ _ lk) rfl lim (PySem.W.codeRec_of KX hcd) rfl hb S.nocell (fun y hy => ?_) (fun h₁ hns kp => ?_) S.co S.gen S.kind
  · obtain ⟨n, v⟩ := y
    exact S.par n (List.of_mem_zip hy).1
  let body0 : List Stmt := .Expr (.Call (.Attribute (.Call (.Name "super" p0) [] [] p1) "__init__" p2) [e0] [] p3) p4 :: rest
  let X : Cx := ncx CX P w K mg base N (nf qual params body0 scope cc cda) fI A outer s H E
  have I : Inv X [] (startF N vs [some (.ref C)]) H { s with heap := h₁, toks := s.toks + (ps.zip us).length } := inv_startN (F := nf qual params body0 scope cc cda) S hr.hd e0' hl r CA hns kp
  obtain ⟨a, ta, t, hv0, hHa, hpa, hps, hq⟩ := hbody X H vs Q E rfl rfl rfl rfl rfl hsp
  obtain ⟨ua, hua, rua⟩ := r.get hv0
  obtain rfl : ua = Value.ref a := rua
  obtain ⟨nm, q, N', bs, bm, sn, sub, ab, col, dd, k0, k1, k2, k3, k5, hC, hbm⟩ := T.oex.cls
  have hcl : PySem.W.clsIn K C = some { name := nm, bases := bs, mro := .ref C :: bm, ns := N', qualname := q, hasDict := true, slotNames := sn, subclasses := sub, abstract := ab, collection := col, hasDel := false } := by unfold PySem.W.clsIn; rw [hC] <;> rfl
  have X1 : K.In h₁ := KX.keeps kp
  have hkfree : scope.names.lookup ("__class__" : Str) = some .free := S.frk _ (by simp)
  have ndP : ps.Nodup := by
    have q := S.nd.sublist (List.take_sublist (ps.length + 1) N)
    have e := S.pre
    simp only [List.length_singleton] at e
    rw [e] at q
    exact (List.nodup_append.mp q).1
  refine ks_wpAt_execs_cons (ks_wpAt_Expr_any (ks_wpAt_MethodCall (ks_wpAt_super_base hks hkfree (by decide) rfl (X1 _ _ lk) rfl hp rfl (X1 _ _ hcda) rfl hfile hmain T.top ?_) (hcall _)) I.quiet rfl)
  obtain ⟨mb, hb1, hb2⟩ := I.mod.blt
  refine PySem.W.ks_loadName_global S.kind hks (Calls.loadGlobal_builtin (I.mod.glob.keeps I.bk) T.mg0 (hb1.keeps I.bk) ((hb2 "super" (by decide)).trans (by decide +kernel)) ⟨rfl, ?_⟩)
  refine wpAny_loadName_free S.kind hkfree (by rfl) ⟨_, X1 _ _ hcc, rfl⟩ ?_
  have hka : scope.names.lookup ar.arg = some .local := S.par _ (List.mem_of_getElem? hp0)
  refine wpAny_loadName_local S.kind hka hns (zip_look ndP hp0 hua) ?_
  have hD := X1 _ _ hC
  refine ks_wpAny_isType_cls hD rfl ⟨rfl, ?_⟩
  obtain ⟨t1, hx⟩ := exo_at I.hok hHa
  refine ks_wpAny_call_super hD rfl hx rfl (fun c z => by cases z) (PySem.W.looks_mroIn X1 T.self) (fun h2 hso k2 => ?_)
  have X2 : K.In h2 := X1.keeps k2
  have hx2 := k2 _ _ hx
  have IA : PySem.W.InstAt h2 a { cls := .ref C, dict := none, data := .fields #[.ref t1, .none, .none, .none, .bool false, .none] } C none := ⟨hx2, rfl, rfl, trivial⟩
  have hsup : PySem.W.alongIn K "__init__" (((Value.ref C :: bm).dropWhile (· != .ref C)).drop 1) = some (some (.builtin "ValueError.__init__")) := by
    have z := T.sup
    unfold PySem.W.ks_superIn at z
    rw [hcl] at z
    exact z
  refine PySem.W.kxs_getMethod PySem.W.kxs_ValueError hso (PySem.W.looks_opaque X2 T.any) (l₀ := Value.ref C :: bm) (fun A Q E s k q => wpAny_bind ((PySem.W.looks_clsIn X2 hcl) A _ E s k (wpAny_pure q))) rfl X2 hsup (IA.type.andThen (PySem.W.looks_subIn X2 T.sub)) (PySem.W.ks_ne X2 IA hcl) (by decide +kernel) ?_
  have I2 : Inv X [] (startF N vs [some (.ref C)]) H { s with heap := h2, toks := s.toks + (ps.zip us).length } := I.kept (t' := s.toks + (ps.zip us).length) k2
  have I3 : Inv X [] (startF N vs [some (.ref C)]) H { s with heap := h2.push (PySem.W.kxs_mw "ValueError.__init__" a), toks := s.toks + (ps.zip us).length + 1 } := I2.kept (t' := s.toks + (ps.zip us).length + 1) fun b o z => Heap.get?_push_of_some _ z
  have I4 : Inv X [(h2.objs.size, PySem.W.kxs_mw "ValueError.__init__" a)] (startF N vs [some (.ref C)]) H { s with heap := h2.push (PySem.W.kxs_mw "ValueError.__init__" a), toks := s.toks + (ps.zip us).length + 1 } :=
    ⟨I3.ok, I3.os, I3.bare, I3.base, I3.loc, I3.cell, I3.free, I3.freeC, fun p hp => by
      have e : p = (h2.objs.size, PySem.W.kxs_mw "ValueError.__init__" a) := by
        have z : p ∈ ([] : List (Addr × Obj)) ++ [(h2.objs.size, PySem.W.kxs_mw "ValueError.__init__" a)] := hp
        simpa using z
      subst e
      exact ⟨Heap.get?_push_at rfl rfl, I2.hok.fresh (Nat.le_refl _), Nat.ne_of_gt I2.lt, I2.nofs (Nat.le_refl _), fun v z => by cases z⟩, I3.hok, I3.len⟩
  have run := hpa.run p3 _ _ _ _ _ I4 hq
  refine PySem.W.kxs_callWith (i := "ValueError.__init__") (x := a) ?_ ?_
  · rw [hst]
    rfl
  · have e1 := hst X.env
    rw [hst]
    rw [e1] at run
    refine Calls.evalArgs_plain (thn run fun us2 s1 hh => ?_)
    obtain ⟨ws, H1, I5, r5, hz, hx5, ht⟩ := hh
    have pu := I5.pin (h2.objs.size, PySem.W.kxs_mw "ValueError.__init__" a) (by simp)
    refine ⟨pu.1, ?_⟩
    obtain ⟨t5, ho5⟩ := exo_at I5.hok hx5
    obtain ⟨hp5, g5, d5, tk5, os5⟩ := s1
    have hC5 : hp5.get? C = _ := I5.kIn _ _ hC
    refine call_mw hC5 ho5 pu.1 (by show us2.length ≤ sizeLine; rw [← Paired.length r5]; exact hz) fun h6 t6 k6 hx6 => ?_
    have I6 := I5.write (t' := tk5) (x := a) (e := a) (o := exo a C none) (by rw [hx5]; exact True.intro) (.inl rfl) k6 ⟨_, hx6⟩ (exo_ok hx6)
    have eu : upd H1 a (exo a C none) = H1 := by
      funext b
      by_cases hb : b = a
      · rw [hb, upd_same, hx5]
      · rw [upd_ne hb]
    rw [eu] at I6
    have I7 : Inv X [] (startF N vs [some (.ref C)]) H1 ⟨h6, g5, d5, tk5, os5⟩ := ⟨I6.ok, I6.os, I6.bare, I6.base, I6.loc, I6.cell, I6.free, I6.freeC, fun p hp => absurd (show p ∈ ([] : List (Addr × Obj)) ++ [] from hp) (by simp), I6.hok, I6.len⟩
    refine PySem.wpAt_of_wpAny (wpAny_mono (hps.run [] _ _ _ _ I7 ht) (fun fl s' hs => ?_) fun e s' hs => hs)
    have fin : ∀ {σ' : L2.St} {H' : Hp} {v : V} {u : Value}, Inv X [] σ' H' s' → L2.RelV v u → Q v H' → CE outer P w H s Q u s' :=
      fun {σ' H' v u} J rv q => ⟨v, H', J.os, J.bare, J.base, J.hok, rv, q⟩
    cases fl with
    | ret u =>
      obtain ⟨v, σ', H', J, rv, q⟩ := hs
      exact fin J rv q
    | next =>
      obtain ⟨σ', H', J, q⟩ := hs
      exact fin (v := V.non) (u := Value.none) J rfl q
    | brk => exact hs.choose_spec.choose_spec.2.elim
    | cont => exact hs.choose_spec.choose_spec.2.elim
end

/-! ### __init__ with one field, with two fields -/
section
variable {CX : CXT} {P : Program} {w : World} {K : PySem.W.Frag} {mg : Str → Option Value} {base : Heap} {k : Nat} {C fI : Addr} {qual : Str} {params : Arguments} {e0 : Expr} {scope : Scope} {p0 p1 p2 p3 p4 : Pos} {fd : FuncData} {x y f g : Str} {a1 a2 a3 a4 b1 b2 b3 b4 pe pf pg ph pi : Pos} {z z2 : Str} {j j2 : Nat} {ar : Arg}
/-- the call super().__init__(e0), by its places -/
abbrev SupCall (e0 : Expr) (p0 p1 p2 p3 : Pos) : Prop := ∀ env : Env, eval (.Call (.Attribute (.Call (.Name "super" p0) [] [] p1) "__init__" p2) [e0] [] p3) env = (do
      let ov ← attributeBase (.Call (.Name "super" p0) [] [] p1) "__init__" env (eval (.Call (.Name "super" p0) [] [] p1) env)
      standAt p2.atName
      let (f, first) ← holding [ov] (getMethod ov "__init__" (do return (← importBound (.Call (.Name "super" p0) [] [] p1) env).getD true))
      callWith p3 f first (backTo p3 (starEach [e0] env)) [])
def spE1 (C : Addr) (f : Str) : Sp := fun vs H Q _ => ∃ (a : Addr) (y : V), vs = [.ref a, y] ∧ H a = some (exo a C none) ∧ ∀ d, H d = none → d ≠ a → Q .non (upd (upd H d (exd d [(f, y)])) a (exo a C (some d)))
def spE2 (C : Addr) (f g : Str) (ok : V → Prop) : Sp := fun vs H Q _ => ∃ (a : Addr) (y z : V), vs = [.ref a, y, z] ∧ ok y ∧ H a = some (exo a C none) ∧
  ∀ d, H d = none → d ≠ a → Q .non (upd (upd (upd H d (exd d [(f, y)])) a (exo a C (some d))) d (exd d [(g, z), (f, y)]))
theorem err1_ok (T : SupF P K mg C fI qual params (.Constant (.str z) j pe) [.Assign [.Attribute (.Name "self" a1) f a2] (.Name x a3) a4] scope p0 p1 p2 p3 p4 fd) (S : NScope ["self", x, "__class__"] ["self", x] ["__class__"] scope)
    (hp : (params.posonlyargs ++ params.args).head? = some ar) (har : ar.arg = "self") (hks : scope.names.lookup ("super" : Str) = some .globalImplicit) (hno : PySem.W.findIn K (.ref C) f = some none) (hcall : SupCall (.Constant (.str z) j pe) p0 p1 p2 p3)
    (hx1 : (x == ("__debug__" : Str)) = false) (hx2 : (x == ("__classdict__" : Str)) = false) :
    FnOk P w K mg base CX (k + 1) fI fd ["self", x] (spE1 C f) := by
  refine sup_ok T S hp (by rw [har] <;> rfl) hks (fun _ => rfl) hcall (fun vs H Q E h => ?_) fun X H vs Q E eN eK em es ec h => ?_
  · obtain ⟨a, y, rfl, _⟩ := h
    rfl
  · obtain ⟨a, y, rfl, ha, q⟩ := h
    subst eK
    have n0 : X.N[0]? = some ("self" : Str) := by rw [eN] <;> rfl
    have n1 : X.N[1]? = some x := by rw [eN] <;> rfl
    have v0 : Vis X.env.scope "self" := by rw [es]; exact .inl (S.par _ (by simp))
    have v1 : Vis X.env.scope x := by rw [es]; exact .inl (S.par _ (by simp))
    refine ⟨a, _, _, rfl, ha, pa_cons pe_str pa_nil, pss_one (ps_ost (pv 0 n0 v0) (pe_var n1 v1 hx1 hx2)), ?_⟩
    refine ⟨by show 1 ≤ sizeLine; decide, ha, ?_⟩
    exact ⟨_, rfl, _, rfl, a, C, rfl, T.oex, hno, .inl ⟨ha, fun dx n ne => q dx n ne⟩⟩
theorem err2_ok (T : SupF P K mg C fI qual params (.Constant (.str z) j pe) [.Assign [.Attribute (.Name "self" a1) f a2] (.Name x a3) a4, .Assign [.Attribute (.Name "self" b1) g b2] (.Name y b3) b4] scope p0 p1 p2 p3 p4 fd)
    (S : NScope ["self", x, y, "__class__"] ["self", x, y] ["__class__"] scope)
    (hp : (params.posonlyargs ++ params.args).head? = some ar) (har : ar.arg = "self") (hks : scope.names.lookup ("super" : Str) = some .globalImplicit) (hno : PySem.W.findIn K (.ref C) f = some none) (hno2 : PySem.W.findIn K (.ref C) g = some none) (hcall : SupCall (.Constant (.str z) j pe) p0 p1 p2 p3)
    (hx1 : (x == ("__debug__" : Str)) = false) (hx2 : (x == ("__classdict__" : Str)) = false) (hy1 : (y == ("__debug__" : Str)) = false) (hy2 : (y == ("__classdict__" : Str)) = false) :
    FnOk P w K mg base CX (k + 1) fI fd ["self", x, y] (spE2 C f g fun _ => True) := by
  refine sup_ok T S hp (by rw [har] <;> rfl) hks (fun _ => rfl) hcall (fun vs H Q E h => ?_) fun X H vs Q E eN eK em es ec h => ?_
  · obtain ⟨a, y, z, rfl, _⟩ := h
    rfl
  · obtain ⟨a, u, v, rfl, _, ha, q⟩ := h
    subst eK
    have n0 : X.N[0]? = some ("self" : Str) := by rw [eN] <;> rfl
    have n1 : X.N[1]? = some x := by rw [eN] <;> rfl
    have n2 : X.N[2]? = some y := by rw [eN] <;> rfl
    have v0 : Vis X.env.scope "self" := by rw [es]; exact .inl (S.par _ (by simp))
    have v1 : Vis X.env.scope x := by rw [es]; exact .inl (S.par _ (by simp))
    have v2 : Vis X.env.scope y := by rw [es]; exact .inl (S.par _ (by simp))
    refine ⟨a, _, _, rfl, ha, pa_cons pe_str pa_nil, pss_cons (ps_ost (pv 0 n0 v0) (pe_var n1 v1 hx1 hx2)) (pss_one (ps_ost (pv 0 n0 v0) (pe_var n2 v2 hy1 hy2))), ?_⟩
    refine ⟨by show 1 ≤ sizeLine; decide, ha, ?_⟩
    exact ⟨_, rfl, _, rfl, a, C, rfl, T.oex, hno, .inl ⟨ha, fun dx n ne => ⟨_, rfl, _, rfl, a, C, rfl, T.oex, hno2, .inr ⟨dx, _, upd_same, (by rw [upd_ne ne, upd_same]), (by show 1 ≤ 900; decide), q dx n ne⟩⟩⟩⟩
/-- BadCount: the text is made of the first argument -/
theorem errB_ok (T : SupF P K mg C fI qual params (.BinOp (.BinOp (.Constant (.str z) j pe) .Add (.Name x pf) pg) .Add (.Constant (.str z2) j2 ph) pi)
      [.Assign [.Attribute (.Name "self" a1) f a2] (.Name x a3) a4, .Assign [.Attribute (.Name "self" b1) g b2] (.Name y b3) b4] scope p0 p1 p2 p3 p4 fd)
    (S : NScope ["self", x, y, "__class__"] ["self", x, y] ["__class__"] scope) (hz : z.length ≤ 100) (hz2 : z2.length ≤ 100)
    (hp : (params.posonlyargs ++ params.args).head? = some ar) (har : ar.arg = "self") (hks : scope.names.lookup ("super" : Str) = some .globalImplicit) (hno : PySem.W.findIn K (.ref C) f = some none) (hno2 : PySem.W.findIn K (.ref C) g = some none)
    (hcall : SupCall (.BinOp (.BinOp (.Constant (.str z) j pe) .Add (.Name x pf) pg) .Add (.Constant (.str z2) j2 ph) pi) p0 p1 p2 p3)
    (hx1 : (x == ("__debug__" : Str)) = false) (hx2 : (x == ("__classdict__" : Str)) = false) (hy1 : (y == ("__debug__" : Str)) = false) (hy2 : (y == ("__classdict__" : Str)) = false) :
    FnOk P w K mg base CX (k + 1) fI fd ["self", x, y] (spE2 C f g fun v => ∃ t : Str, v = .str t ∧ t.length ≤ 1000) := by
  refine sup_ok T S hp (by rw [har] <;> rfl) hks (fun _ => rfl) hcall (fun vs H Q E h => ?_) fun X H vs Q E eN eK em es ec h => ?_
  · obtain ⟨a, y, z, rfl, _⟩ := h
    rfl
  · obtain ⟨a, u, v, rfl, ⟨t, rfl, ht⟩, ha, q⟩ := h
    subst eK
    have n0 : X.N[0]? = some ("self" : Str) := by rw [eN] <;> rfl
    have n1 : X.N[1]? = some x := by rw [eN] <;> rfl
    have n2 : X.N[2]? = some y := by rw [eN] <;> rfl
    have v0 : Vis X.env.scope "self" := by rw [es]; exact .inl (S.par _ (by simp))
    have v1 : Vis X.env.scope x := by rw [es]; exact .inl (S.par _ (by simp))
    have v2 : Vis X.env.scope y := by rw [es]; exact .inl (S.par _ (by simp))
    refine ⟨a, _, _, rfl, ha, pa_cons (pe_op op_add_str (pe_op op_add_str pe_str (pe_var n1 v1 hx1 hx2)) pe_str) pa_nil, pss_cons (ps_ost (pv 0 n0 v0) (pe_var n1 v1 hx1 hx2)) (pss_one (ps_ost (pv 0 n0 v0) (pe_var n2 v2 hy1 hy2))), ?_⟩
    have l1 : z.length + t.length ≤ sizeLine := by rw [sizeLine_eq]; omega
    have l2 : (z ++ t).length + z2.length ≤ sizeLine := by
      have e : (z ++ t).length = z.length + t.length := by simp [PySem.Str.length_append]
      rw [e, sizeLine_eq]; omega
    refine ⟨_, rfl, _, _, rfl, rfl, l1, _, _, rfl, rfl, l2, ?_⟩
    refine ⟨by show 1 ≤ sizeLine; decide, ha, ?_⟩
    exact ⟨_, rfl, _, rfl, a, C, rfl, T.oex, hno, .inl ⟨ha, fun dx n ne => ⟨_, rfl, _, rfl, a, C, rfl, T.oex, hno2, .inr ⟨dx, _, upd_same, (by rw [upd_ne ne, upd_same]), (by show 1 ≤ 900; decide), q dx n ne⟩⟩⟩⟩
end
end SI
set_option maxRecDepth 100000
set_option maxHeartbeats 4000000
namespace SI
open PySem PySem.Spec PyProof.Rows L2 NdefX
/-! ### raising such an error: one reading for all classes -/
def mono (ta : TA) : TA := fun σ H Q => ∃ Q' : List V → Hp → Prop, ta σ H Q' ∧ ∀ vs H1, Q' vs H1 → Q vs H1
theorem pa_mono {X : Cx} {es : List Expr} {ta : TA} (h : PA X es ta) : PA X es (mono ta) := ⟨fun pos pins s σ H Q I ⟨Q', q, m⟩ => thn (h.run pos pins s σ H Q' I q) fun us s1 ⟨vs, H1, I1, r1, q1⟩ => ⟨vs, H1, I1, r1, m vs H1 q1⟩⟩
/-- C(..): the error's own dict is new, it holds the fields -/
def tErr (C : Addr) (mk : List V → List (Str × V) → Prop) (ta : TA) : L2.St → Hp → XK → Prop := fun σ H Q => ta σ H fun vs H1 => ∃ fs, mk vs fs ∧ ∀ d, H1 d = none → Q (.ref C) (some d) (upd H1 d (.xd fs))
theorem err_heap {H1 : Hp} {a d : Addr} {o1 o2 u : HO} (ha : H1 a = none) (hd : H1 d = none) (ne : d ≠ a) : upd (del (upd (upd H1 d o1) a o2) a) d u = upd H1 d u := by
  funext b
  by_cases hb : b = d
  · rw [hb, upd_same, upd_same]
  · rw [upd_ne hb, upd_ne hb]
    by_cases hc : b = a
    · rw [hc, del_same, ha]
    · rw [del_ne hc, upd_ne hc, upd_ne hb]
theorem err_heap2 {H1 : Hp} {a d : Addr} {o1 o2 o3 u : HO} (ha : H1 a = none) (hd : H1 d = none) (ne : d ≠ a) : upd (del (upd (upd (upd H1 d o1) a o2) d o3) a) d u = upd H1 d u := by
  funext b
  by_cases hb : b = d
  · rw [hb, upd_same, upd_same]
  · rw [upd_ne hb, upd_ne hb]
    by_cases hc : b = a
    · rw [hc, del_same, ha]
    · rw [del_ne hc, upd_ne hb, upd_ne hc, upd_ne hb]
theorem upd_comm0 {H1 : Hp} {a d : Addr} {u : HO} (ne : d ≠ a) (o : HO) : upd (upd H1 a o) d u = upd (upd H1 d u) a o := by
  funext b
  by_cases hb : b = d
  · subst hb
    rw [upd_same, upd_ne ne, upd_same]
  · rw [upd_ne hb]
    by_cases hc : b = a
    · rw [hc, upd_same, upd_same]
    · rw [upd_ne hc, upd_ne hc, upd_ne hb]
def mk1 (f : Str) : List V → List (Str × V) → Prop := fun vs fs => ∃ y, vs = [y] ∧ fs = [(f, y)]
def mk2 (f g : Str) (ok : V → Prop) : List V → List (Str × V) → Prop := fun vs fs => ∃ y z, vs = [y, z] ∧ ok y ∧ fs = [(g, z), (f, y)]
section
variable {X : Cx} {CX : CXT} {x f g : Str} {C fI : Addr} {k : Nat} {fd : FuncData} {ps : List Str} {e : Expr} {es : List Expr} {ta : TA} {p pos : Pos} {ok : V → Prop}
theorem pmk_e1 {y : Str} (T : OexC X.K C) (iC : PySem.W.findIn X.K (.ref C) "__init__" = some (some (.ref fI))) (tI : PySem.W.typeIn X.K (.ref fI) = some (.type "function"))
    (F1 : FnOk X.prog X.w X.K X.mg X.base CX k fI fd ["self", y] (spE1 C f)) (hr : Room (k + 1) X.A) (hb : Binds X.K fd ["self", y] []) (hx : Passes CX X (fun _ _ _ => False)) (hg : Gl X x) (hm : X.mg x = some (.ref C)) (ha : PA X (e :: es) ta)
    (hdb : (x == ("__debug__" : Str)) = false := by decide) (he : starEach (e :: es) X.env = (false, eval e X.env) :: starEach es X.env := by rfl) (hpl : (backTo pos (starEach es X.env)).any (·.1) = false := by rfl) :
    PMk X (.Call (.Name x p) (e :: es) [] pos) (tErr C (mk1 f) ta) := by
  have R := pmk_oex (pos := pos) (p := p) T iC tI F1 hr hb .nil hx hg hm (pa_mono ha) hdb he hpl
  intro pins s σ H Q I h
  refine R pins s σ H Q I ⟨_, h, ?_⟩
  rintro vs H1 ⟨fs, ⟨y, rfl, rfl⟩, q⟩
  refine ⟨by show 1 ≤ 1000; decide, fun a na => ?_⟩
  refine ⟨a, y, rfl, upd_same, fun d hd ne => ⟨rfl, d, [(f, y)], upd_same, by rw [upd_ne ne, upd_same], ?_, ?_⟩⟩
  · rw [upd_ne ne] at hd
    exact hd
  · have hd' : H1 d = none := by
      rw [upd_ne ne] at hd
      exact hd
    have e1 : upd (del (upd (upd (upd H1 a (exo a C none)) d (exd d [(f, y)])) a (exo a C (some d))) a) d (HO.xd [(f, y)]) = upd H1 d (.xd [(f, y)]) := by
      rw [upd_comm0 ne, upd_upd]
      exact err_heap na hd' ne
    rw [e1]
    exact q d hd'
theorem pmk_e2 {y z : Str} (T : OexC X.K C) (iC : PySem.W.findIn X.K (.ref C) "__init__" = some (some (.ref fI))) (tI : PySem.W.typeIn X.K (.ref fI) = some (.type "function"))
    (F1 : FnOk X.prog X.w X.K X.mg X.base CX k fI fd ["self", y, z] (spE2 C f g ok)) (hr : Room (k + 1) X.A) (hb : Binds X.K fd ["self", y, z] []) (hx : Passes CX X (fun _ _ _ => False)) (hg : Gl X x) (hm : X.mg x = some (.ref C)) (ha : PA X (e :: es) ta)
    (hdb : (x == ("__debug__" : Str)) = false := by decide) (he : starEach (e :: es) X.env = (false, eval e X.env) :: starEach es X.env := by rfl) (hpl : (backTo pos (starEach es X.env)).any (·.1) = false := by rfl) :
    PMk X (.Call (.Name x p) (e :: es) [] pos) (tErr C (mk2 f g ok) ta) := by
  have R := pmk_oex (pos := pos) (p := p) T iC tI F1 hr hb .nil hx hg hm (pa_mono ha) hdb he hpl
  intro pins s σ H Q I h
  refine R pins s σ H Q I ⟨_, h, ?_⟩
  rintro vs H1 ⟨fs, ⟨y, z, rfl, hok, rfl⟩, q⟩
  refine ⟨by show 2 ≤ 1000; decide, fun a na => ?_⟩
  refine ⟨a, y, z, rfl, hok, upd_same, fun d hd ne => ⟨rfl, d, [(g, z), (f, y)], by rw [upd_ne (Ne.symm ne), upd_same], upd_same, ?_, ?_⟩⟩
  · rw [upd_ne ne] at hd
    exact hd
  · have hd' : H1 d = none := by
      rw [upd_ne ne] at hd
      exact hd
    have e1 : upd (del (upd (upd (upd (upd H1 a (exo a C none)) d (exd d [(f, y)])) a (exo a C (some d))) d (exd d [(g, z), (f, y)])) a) d (HO.xd [(g, z), (f, y)]) = upd H1 d (.xd [(g, z), (f, y)]) := by
      rw [upd_comm0 ne (exo a C none), upd_upd]
      exact err_heap2 na hd' ne
    rw [e1]
    exact q d hd'
end

/-! ### a caught error: isinstance, its fields -/
structure ErrC (K : PySem.W.Frag) (C : Addr) : Prop where
  cl : (PySem.W.clsIn K C).isSome = true
  ga : PySem.W.findIn K (.ref C) "__getattribute__" = some (some (.builtin "BaseException.__getattribute__"))
  gg : PySem.W.findIn K (.ref C) "__getattr__" = some none
  exC : PySem.W.subIn K (.ref C) (.type "BaseException") = some true
  hd : PySem.W.hasDictIn K C = true
  ac : PySem.W.findIn K (.ref C) "__class__" = some (some (.builtin "object.__class__"))
  mo : PySem.W.mroIn K C (.type "object") = some true
structure ErrK (K : PySem.W.Frag) : Prop where
  hn : PySem.W.specialIn K (.builtin "object.__class__") "__get__" = some (some (.builtin "getset_descriptor.__get__"))
  ht : PySem.W.takesIn K (.builtin "object.__class__") = some true
def rIsX (K : PySem.W.Frag) (a : Addr) (cls : Value) (d : Option Addr) : List V → Hp → VK → Prop := fun xs H Q => ∃ (D : Addr) (c : V) (cv : Value) (b : Bool), cls = .ref D ∧ ErrC K D ∧ xs = [.ref a, c] ∧ ClsV c cv ∧ PySem.W.kitOne K cls cv = some b ∧
  (∀ dd, d = some dd → ∃ fs, H dd = some (.xd fs)) ∧ Q (.bl b) H
theorem call_isX {X : Cx} {a : Addr} {oe : Obj} {cls : Value} {d : Option Addr} (EK : ErrK X.K) (hp : (a, oe) ∈ X.pn) (hz : Zc cls d oe) (hf : ∃ vs, oe.data = .fields vs) : CallR X (.builtin "isinstance") (rIsX X.K a cls d) := by
  intro pins s σ H xs us Q I r h
  obtain ⟨D, c, cv, b, ecls, C, rfl, hcv, e, hd, q⟩ := h
  cases r with
  | cons rx rr =>
    cases rr with
    | cons rt rr =>
      cases rr
      cases rx
      have ec := hcv.eq rt
      subst ec
      subst ecls
      obtain ⟨hget, _⟩ := I.pin (a, oe) (List.mem_append_left _ hp)
      obtain ⟨vs, hv⟩ := hf
      obtain ⟨od, J⟩ : ∃ od, PySem.W.InstAt s.heap a oe D od := by
        obtain ⟨oc, odi, oda, osl⟩ := oe
        obtain ⟨h1, h2⟩ := hz
        dsimp only at h1 h2 hv
        subst h1 h2 hv
        cases odi with
        | none => exact ⟨none, hget, rfl, rfl, trivial⟩
        | some dd =>
          obtain ⟨fs, hfs⟩ := hd dd rfl
          have hx : ObjOk X.prog X.w H s.heap dd (.xd fs) := I.hok dd _ hfs
          obtain ⟨mA, ⟨o, es, ep, ho, _⟩, _⟩ := hx
          exact ⟨some o, hget, rfl, rfl, ho⟩
      exact PySem.W.kia_one (PySem.W.kitx_exc C.cl C.ga C.gg C.exC C.ac EK.hn EK.ht C.mo) I.kIn J e (fun z => nomatch z) fun tk => ⟨.bl b, H, I.kept (t' := tk) fun _ _ z => z, rfl, q⟩
/-- e.f -/
def tErrF (K : PySem.W.Frag) (a : Addr) (cls : Value) (d : Option Addr) (f : Str) (te : TE) : TE := fun σ H Q => ∃ (C dd : Addr), cls = .ref C ∧ ErrC K C ∧ PySem.W.findIn K (.ref C) f = some none ∧ d = some dd ∧
  te σ H fun x H1 => x = .ref a ∧ ∃ (fs : List (Str × V)) (v : V), H1 dd = some (.xd fs) ∧ fs.lookup f = some v ∧ Q v H1
theorem pe_errF {X : Cx} {a : Addr} {oe : Obj} {cls : Value} {d : Option Addr} {e : Expr} {te : TE} {pos : Pos} {n : Str} (hp : (a, oe) ∈ X.pn) (hz : Zc cls d oe) (hf : ∃ vs, oe.data = .fields vs) (he : PE X e te) (hb : attributeBase e n X.env (eval e X.env) = eval e X.env := by rfl) :
    PE X (.Attribute e n pos) (tErrF X.K a cls d n te) := by
  refine ⟨fun pins s σ H Q I h => ?_⟩
  obtain ⟨C, dd, ec, T, hno, ed, h⟩ := h
  subst ec
  refine attr_of hb (thn (he.run pins s σ H _ I h) fun u s1 hh => ?_)
  obtain ⟨x, H1, I1, rx, ex, fs, v, ea, l, q⟩ := hh
  subst ex
  obtain rfl : u = Value.ref a := rx
  subst ed
  obtain ⟨ha, _⟩ := I1.pin (a, oe) (List.mem_append_left _ hp)
  obtain ⟨vs, hd⟩ := hf
  have hx : ObjOk X.prog X.w H1 s1.heap dd (.xd fs) := I1.hok dd _ ea
  obtain ⟨mA, hns, hr⟩ := hx
  obtain ⟨od, ho, hl⟩ := lookIn_ns hns
  obtain ⟨u, hu, ru⟩ := RelO.some_of (v := v) (o := mA n) (by rw [← l]; exact hr n)
  have J : PySem.W.InstAt s1.heap a oe C (some od) := ⟨ha, hz.1, by unfold PySem.W.notCls; rw [hd] <;> rfl, by rw [hz.2]; exact ho⟩
  exact HandSPX.exc_get I1.kIn J T.ga T.gg T.exC (PySem.W.findObj_own T.hd hno rfl (by rw [hl, hu])) (handed_of ru) ⟨v, H1, I1.tok _, ru, q⟩
end SI
set_option maxRecDepth 100000
set_option maxHeartbeats 4000000
namespace SI
open PySem PySem.Spec PyProof.Rows L2 NdefX L2H
/-! ### defs called while an exception p is handled; p may be handed on -/
structure FnW (P : Program) (w : World) (K : PySem.W.Frag) (mg : Str → Option Value) (base : Heap) (CX : CXT) (k : Nat) (f : Addr) (fd : FuncData) (ps : List Str) (sp : Addr × Obj → Sp) : Prop where
  len : ∀ p vs H Q E, sp p vs H Q E → vs.length = ps.length
  run : ∀ (A : Around) (outer : List Env) (s : Shared) (H : Hp) (args : Args) (us : List Value) (vs : List V) (Q : VK) (E : XK) (p : Addr × Obj), RoomH k A → PinOk outer H s p → Env0 P w K mg base A outer s H → BindsTo s fd args (ps.zip us) → Vals vs us → sp p vs H Q E →
    codeAny (model P w) A (.call (.ref f) args) (CR CX outer P w H s Q E) s
theorem fn_ofW {CX : CXT} {P : Program} {w : World} {K : PySem.W.Frag} {mg : Str → Option Value} {base : Heap} {k : Nat} {f : Addr} {name qual : Str} {params : Arguments} {body : List Stmt} {scope : Scope} {dV kV doc pm cdv ct oc : Value} {an od : Option Addr}
    {osl : Array (Option Value)} {N ps : List Str} {sp : Addr × Obj → Sp} (lk : K.lookup f = some ⟨oc, od, .func (PySem.W.fnOf name qual params body scope dV kV doc pm an cdv ct), osl⟩) (hcd : PySem.W.codeIn K cdv qual = true) (S : FnScope N ps scope)
    (len : ∀ p vs H Q E, sp p vs H Q E → vs.length = ps.length)
    (hbody : ∀ (A : Around) (outer : List Env) (s : Shared) (H : Hp) (vs : List V) (Q : VK) (E : XK) (p : Addr × Obj), RoomH k (A.deeper (envOfC qual scope s.heap.objs.size f cdv)) → sp p vs H Q E →
      ∃ t, PSs (cxH CX P w K mg base N qual scope f cdv A outer s H E p) body t ∧ t { nx := fun _ H' => Q .non H', rt := Q } (L2.start N vs) H) :
    FnW P w K mg base CX (k + 1) f (PySem.W.fnOf name qual params body scope dV kV doc pm an cdv ct) ps sp := by
  refine ⟨len, fun A outer s H args us vs Q E p hr hpin e0 hb r hsp => ?_⟩
  have hl := len _ _ _ _ _ hsp
  have KX : K.In s.heap := e0.mod.kin.keeps fun b o e => (e0.bs b o e).1
  have lim : s.heap.NoLimit := e0.mod.nolimit.keeps fun b o e => (e0.bs b o e).1
  have hkind : ∀ y ∈ ps.zip us, scope.names.lookup y.1 = some .local ∨ (scope.names.lookup y.1 = some .cell ∧ ((cellsFrom (s.heap.objs.size + 1) scope.names []).lookup y.1).isSome = true) := fun ⟨n, v⟩ hy =>
    (S.par n (List.of_mem_zip hy).1).elim .inl fun q => .inr ⟨q, PySem.W.cellsFrom_some _ _ _ (.inl q)⟩
  refine codeAny_call_function hr.depth (KX _ _ lk) rfl S.co S.gen rfl (PySem.W.codeRec_of KX hcd) (hb _ _ _ _ (wpAny_newFunctionEnv_cells S.kind hkind fun env he s1 x => ?_))
  subst he
  obtain ⟨t, ht, hq⟩ := hbody A outer s H vs Q E p (hr.deeper _) hsp
  have I : Inv (cxH CX P w K mg base N qual scope f cdv A outer s H E p) [] (L2.start N vs) H s1 := inv_startH S hpin e0 hl r x
  refine ⟨lim.keeps x.toInCall.keep, codeAny_func (wpAny_mono (ht.run [] s1 (L2.start N vs) H _ I hq) (fun fl s' hs => ?_) fun e s' hs => hs)⟩
  have fin : ∀ {σ' : L2.St} {H' : Hp} {v : V} {u : Value}, Inv (cxH CX P w K mg base N qual scope f cdv A outer s H E p) [] σ' H' s' → L2.RelV v u → Q v H' → CE outer P w H s Q u s' :=
    fun {σ' H' v u} J rv q => ⟨v, H', J.os, J.bare, J.base, J.hok, rv, q⟩
  cases fl with
  | ret u => exact fin hs.choose_spec.choose_spec.choose_spec.1 hs.choose_spec.choose_spec.choose_spec.2.1 hs.choose_spec.choose_spec.choose_spec.2.2
  | next => exact fin (v := V.non) (u := Value.none) hs.choose_spec.choose_spec.1 rfl hs.choose_spec.choose_spec.2
  | brk => exact hs.choose_spec.choose_spec.2.elim
  | cont => exact hs.choose_spec.choose_spec.2.elim
section
variable {X : Cx} {CX : CXT} {k : Nat} {f C : Addr} {fd : FuncData} {ps : List Str} {sp : Addr × Obj → Sp} {E : L2.St → XK} {x m : Str} {q pos apos : Pos} {e o : Expr} {es : List Expr} {ta : TE} {t : TA} {p : Addr × Obj}
theorem run_fnW {pins : List (Addr × Obj)} {σ : L2.St} {H : Hp} {s : Shared} {Q : VK} {us : List Value} {vs : List V} (F : FnW X.prog X.w X.K X.mg X.base CX k f fd ps sp) (hr : RoomH k X.A) (hp : p ∈ X.pn) (hb : Binds X.K fd ps []) (hx : PassesAt CX X σ (E σ))
    (I : Inv X pins σ H s) (r : Vals vs us) (h : sp p vs H Q (E σ)) : wpAny (model X.prog X.w) X.A (call (.ref f) us) (EP X pins σ Q) X.xe s := by
  have hl : us.length = ps.length := by rw [← r.length]; exact F.len _ _ _ _ _ h
  have b := hb s us I.kIn (by rw [List.append_nil]; exact hl)
  rw [List.append_nil] at b
  have P1 := I.pin p (List.mem_append_left _ hp)
  have hpin : PinOk X.stack H s p := ⟨P1.1, P1.2.1, fun hm => (List.mem_cons.mp (I.stkSub p.1 hm)).elim P1.2.2.1 P1.2.2.2.1, P1.2.2.2.2⟩
  refine wpAny_call (codeAny_mono (F.run X.A X.stack s H ⟨us, []⟩ us vs Q (E σ) p hr hpin I.env0 b r h) fun r s' hq => ?_)
  match r, hq with
  | .error e, hq => exact hx pins H s e s' I hq
  | .ok (.ret u), hq => exact I.after hq
  | .ok .next, hq => exact False.elim hq
  | .ok .brk, hq => exact False.elim hq
  | .ok .cont, hq => exact False.elim hq
theorem pe_callW (F : FnW X.prog X.w X.K X.mg X.base CX k f fd ps sp) (hr : RoomH k X.A) (hp : p ∈ X.pn) (hg : Gl X x) (hm : X.mg x = some (.ref f)) (hk : PySem.W.keepIn X.K (.ref f) = true) (hb : Binds X.K fd ps []) (hx : ∀ σ, PassesAt CX X σ (E σ))
    (ha : PA X (e :: es) t) (hdb : (x == ("__debug__" : Str)) = false := by decide) (he : starEach (e :: es) X.env = (false, eval e X.env) :: starEach es X.env := by rfl) (hpl : (backTo pos (starEach es X.env)).any (·.1) = false := by rfl) :
    PE X (.Call (.Name x q) (e :: es) [] pos) (tCallS (sp p) E t) := by
  refine ⟨fun pins s σ H Q I h => wpAny_Call_Name_kw (ld_glob I hg hm ?_ hdb)⟩
  exact PySem.W.callWith_K (h₀ := X.base) I.ok.mod.kin hk (thn (ha.run pos pins s σ H _ I h) fun us s1 ⟨vs, H1, I1, r, q⟩ => ⟨I1.kIn, run_fnW F hr hp hb (hx σ) I1 r q⟩) he hpl
end
/-- a def that lets nothing out: its body's rule -/
theorem Fun_okW {P : Program} {w : World} {K : PySem.W.Frag} {mg : Str → Option Value} {base : Heap} {x qual : Str} {st : Stmt} {f : Addr} {fd : FuncData} {N ps : List Str} {k : Nat} {sp : Addr × Obj → Sp} (F : Fun K x qual st f fd) (S : FnScope N ps (defScope st)) (len : ∀ p vs H Q E, sp p vs H Q E → vs.length = ps.length)
    (hbody : ∀ (cdv : Value) (A : Around) (outer : List Env) (s : Shared) (H : Hp) (vs : List V) (Q : VK) (E : XK) (p : Addr × Obj), RoomH k (A.deeper (envOfC qual (defScope st) s.heap.objs.size f cdv)) → sp p vs H Q E →
      ∃ t, PSs (cxH CX0 P w K mg base N qual (defScope st) f cdv A outer s H E p).nox (defBody st) t ∧ t { nx := fun _ H' => Q .non H', rt := Q } (L2.start N vs) H) : FnW P w K mg base CX0 (k + 1) f fd ps sp := by
  obtain ⟨oc, od, kV, doc, pm, an, cdv, ct, osl, rfl, lk, hcd⟩ := F.ex
  refine fn_ofW lk hcd S len fun A outer s H vs Q E p hr hsp => ?_
  obtain ⟨t, h, q⟩ := hbody cdv A outer s H vs Q E p hr hsp
  exact ⟨t, h.nox, q⟩
theorem passA0 {X : Cx} {σ : L2.St} {E : XK} : PassesAt CX0 X σ E := fun _ _ _ _ _ _ h => h.elim
end SI
set_option maxRecDepth 100000
set_option maxHeartbeats 4000000
/-! enumerate(t), t a tuple -/
namespace SI
open PySem PySem.Spec PyProof.Rows L2
theorem enumT_meets {v : Value} {o : Obj} {H : Heap → Prop} (B : Begins v o H) :
    Meets (Builtin.«enumerate.__new__» ⟨[.type "enumerate", v], []⟩) (fun _ R s => H s.heap ∧
      R (.ok (.ret (.ref (s.heap.push o).objs.size))) { s with heap := (s.heap.push o).push { cls := .type "enumerate", data := .fields #[.none, .bool false, .ref s.heap.objs.size, rawInt 0, .none, .none] } }) :=
  .of_wp fun prog w A R s h => by
    obtain ⟨hp, g, d, tk, os⟩ := s
    have hsub := sub_enumerate
    have q1 : ∀ {A' : Around} {E : Value → Shared → Prop} {Q : Value → Shared → Prop}, Q (.ref hp.objs.size) ⟨hp.push o, g, d, tk, os⟩ → wpAny (model prog w) A' (pyIter v) Q E ⟨hp, g, d, tk, os⟩ :=
      fun q => B.iter prog w _ _ ⟨hp, g, d, tk, os⟩ _ h.1 q
    wp_walk using q1
    refine wpAny_stack_any fun st => wpAny_pure ?_
    split
    · rename_i c _ _ _ _ _
      cases (c == Value.type "enumerate") <;> (wp_walk using q1) <;> exact ⟨_, rfl, h.2⟩
    · wp_walk using q1
      exact ⟨_, rfl, h.2⟩
theorem enumT_call {prog : Program} {w : World} {A : Around} {E : Value → Shared → Prop} {s : Shared} {v : Value} {o : Obj} {H : Heap → Prop} {Q : Value → Shared → Prop} (B : Begins v o H) (h1 : H s.heap)
    (h : ∀ h', IsEnum h' (s.heap.objs.size + 1) s.heap.objs.size 0 .none → h'.get? s.heap.objs.size = some o → (∀ b o, s.heap.get? b = some o → h'.get? b = some o) → Q (.ref (s.heap.objs.size + 1)) { s with heap := h' }) :
    wpAny (model prog w) A (call (.type "enumerate") [v]) Q E s := by
  refine callType_new F.called_enumerate (by decide) (F.typeCall_enumerate_1 _) (F.newCall_enumerate_1 _) (fun obj => F.args_object_init_2 obj _) F.entry_enumerate_new (enumT_meets B) ⟨h1, ?_⟩
  have hz : (s.heap.push o).objs.size = s.heap.objs.size + 1 := Heap.size_push ..
  have he := Heap.get?_push_size (s.heap.push o) (o := { cls := .type "enumerate", data := .fields #[.none, .bool false, .ref s.heap.objs.size, rawInt 0, .none, .none] }) rfl
  rw [hz] at he
  show _ ∧ _
  rw [hz]
  exact ⟨⟨_, he, rfl⟩, h _ he (Heap.get?_push_of_some _ (Heap.get?_push_size _ B.free)) fun b o x => Heap.get?_push_of_some _ (Heap.get?_push_of_some _ x)⟩
/-- the tuple at a as it stands at each turn, each item in a new pair -/
def IteT (K : PySem.W.Frag) (a : Addr) : It :=
  ⟨fun i H => ∃ (xs : List V) (x : V), SqT K H a xs ∧ xs[i]? = some x, fun i H v H' => ∃ T x, v = .ref T ∧ H T = none ∧ H' = upd H T (.tup [.int (i : Nat), x]) ∧ ∀ xs, SqT K H a xs → xs[i]? = some x, fun i H => ∃ xs : List V, SqT K H a xs ∧ xs.length = i⟩
theorem turn_enumT {P : Program} {w : World} {K : PySem.W.Frag} {elts : List Expr} {kk : Nat} {tpos : Pos} (a e it : Addr) :
    Turn P w K (.Tuple elts kk tpos) (IteT K a) [e, it] e (fun i h => (∃ old, IsEnum h e it ((i : Nat) : Int) old) ∧ h.IsTupleIter it a i ∧ e ≠ it ∧ a ≠ it ∧ a ≠ e) where
  mem := by simp
  obj := fun i h st b hb => by
    obtain ⟨⟨old, he⟩, ⟨o, ho, hc, hd⟩, _⟩ := st
    have e' : b = e ∨ b = it := by simpa using hb
    rcases e' with z | z
    · rw [z]; exact ⟨_, he, fun v q => nomatch q⟩
    · rw [z]; exact ⟨o, ho, fun v q => by rw [hd] at q; cases q⟩
  keep := fun i h h' st k => let ⟨⟨old, he⟩, hi, hne⟩ := st; ⟨⟨old, k e (by simp) _ he⟩, hi.at fun o q => k it (by simp) o q, hne⟩
  item := by
    intro X hP hw hK hc i pins s σ H E I hf st hg
    subst hP hw hK
    obtain ⟨⟨old, he⟩, hit, hne, hai, hae⟩ := st
    obtain ⟨xs, x, hq, hx⟩ := hg
    obtain ⟨its, rv, p, hz⟩ := I.tuple hq
    obtain ⟨u, hu, ru⟩ := rv.get hx
    have hlt : i < its.toArray.size := by
      have := (List.getElem?_eq_some_iff.mp hu).1
      simpa using this
    have hel : e < s.heap.objs.size := Heap.lt_size he
    have hil : it < s.heap.objs.size := by obtain ⟨_, q, _⟩ := hit; exact Heap.lt_size q
    have pt : s.heap.IsTuple a its.toArray := p
    have D : Draws X.prog X.w X.A.in1 it [it, a] its.toArray.size (fun i v => its.toArray[i]? = some v) (fun i h => h.IsTupleIter it a i ∧ h.IsTuple a its.toArray) := Draws.tuple (show X.A.in1.handled = none from I.ok.hd hc) it a hai its.toArray
    refine wpAny_pyNext_enum_itemD D he ⟨hit, pt⟩ hlt hne (by simp [hne, Ne.symm hae]) fun y h' tk hy ho hst' hT hsz hk => ?_
    have ey : y = u := by
      have e1 : its.toArray[i]? = some u := by simpa using hu
      have e2 : its.toArray[i]? = some y := hy
      rw [e1] at e2
      exact (Option.some.inj e2).symm
    subst ey
    refine ⟨_, rfl, wpAny_letOwnedTupleGo_enum (s := { s with heap := h', toks := tk + 1 }) ho fun h'' he' sb => ?_⟩
    have hT2 : h''.get? s.heap.objs.size = some { cls := .type "tuple", data := .seq #[.int i tk, y] } := (sb.2 _ (Nat.ne_of_gt hel)).trans hT
    have new : ObjOk X.prog X.w (upd H s.heap.objs.size (.tup [.int (i : Nat), x])) h'' s.heap.objs.size (.tup [.int (i : Nat), x]) :=
      ⟨by show 2 ≤ sizeLine; decide, [.int i tk, y], .cons ⟨_, rfl⟩ (.cons ru .nil), ⟨_, hT2, rfl, _, rfl⟩⟩
    have I1 : Inv X pins σ (upd H s.heap.objs.size (.tup [.int (i : Nat), x])) { s with heap := h'', toks := tk + 1 } :=
      I.turnedNew (ch := [e, it]) (fun b o hb q => (sb.2 b (fun z => hb (by simp [z]))).trans (hk b o (fun z => hb (by simp [z])) (fun z => hb (by simp [z])) q)) hf (Nat.le_refl _) new
    refine ⟨.ref s.heap.objs.size, _, I1, rfl, ⟨_, x, rfl, I.hok.fresh (Nat.le_refl _), rfl, fun ys hy => by rw [I.tuple_inj hy hq]; exact hx⟩, ⟨⟨y, ?_⟩, hst'.1.at fun o q => (sb.2 it (Ne.symm hne)).trans q, hne, hai, hae⟩, fun b hb => ?_⟩
    · have e1 : ((i + 1 : Nat) : Int) = (i : Int) + 1 := by omega
      rw [e1]; exact he'
    · have hb' : b < s.heap.objs.size := by
        have e' : b = e ∨ b = it := by simpa using hb
        rcases e' with z | z <;> rw [z]
        · exact hel
        · exact hil
      rw [upd_ne (Nat.ne_of_lt hb')]
      exact (hf b hb).1
  done := by
    intro X hP hw hK hc i pins s σ H E I hf st hg
    subst hP hw hK
    obtain ⟨⟨old, he⟩, hit, hne, hai, hae⟩ := st
    obtain ⟨xs, hq, hx⟩ := hg
    obtain ⟨its, rv, p, hz⟩ := I.tuple hq
    have pt : s.heap.IsTuple a its.toArray := p
    obtain ⟨f0, f1, f2, f3, f4, f5⟩ := hf it (by simp)
    have hl : xs.length = its.length := rv.length
    have hi : i = its.toArray.size := by rw [List.size_toArray, ← hl, hx]
    subst hi
    have D : Draws X.prog X.w X.A.in1 it [it, a] its.toArray.size (fun i v => its.toArray[i]? = some v) (fun i h => h.IsTupleIter it a i ∧ h.IsTuple a its.toArray) := Draws.tuple (show X.A.in1.handled = none from I.ok.hd hc) it a hai its.toArray
    exact wpAny_pyNext_enum_endD D he ⟨hit, pt⟩ fun h' eb => ⟨rfl, I.turned (t' := s.toks) (fun b o hb q => eb b o hb q) f0 f1 f3 f4 f5⟩
  self := fun A i s Q E st h => let ⟨⟨_, he⟩, _⟩ := st; wpAny_pyIter_enum he h
def iEnumT (K : PySem.W.Frag) (ta : TA) : TI := fun σ H R => ta σ H fun vs H1 => ∃ a xs, vs = [.ref a] ∧ SqT K H1 a xs ∧ R (IteT K a) H1
theorem pi_enumT {X : Cx} {e : Expr} {ta : TA} {p pos tpos : Pos} {elts : List Expr} {kk : Nat} (hg : Gl X "enumerate") (hm : X.mg "enumerate" = none) (ha : PA X [e] ta) (hs : starEach [e] X.env = [(false, eval e X.env)] := by rfl) :
    PI X (.Tuple elts kk tpos) (.Call (.Name "enumerate" p) [e] [] pos) (iEnumT X.K ta) := by
  refine ⟨fun pins s σ H R I h => Call_ (ld_blt I hg hm boot_enumerate (PyProof.Rows.callWith_type1 (thn (ha.run pos pins s σ H _ I h) fun us s1 ⟨vs, H1, I1, r1, q1⟩ => ?_) hs rfl))⟩
  obtain ⟨a, xs, ex, hq, q⟩ := q1
  subst ex
  cases r1 with
  | cons r rr =>
    cases rr
    cases r
    obtain ⟨its, rv, p', hz⟩ := I1.tuple hq
    have al : a < s1.heap.objs.size := by obtain ⟨o, ho, _⟩ := p'; exact Heap.lt_size ho
    refine enumT_call (begins_tuple a its.toArray) p' fun h' he hit hk => wpAny_pyIter_enum he ?_
    have I2 : Inv X pins σ H1 { s1 with heap := h' } := I1.kept (t' := s1.toks) hk
    refine ⟨s1.heap.objs.size + 1, [s1.heap.objs.size + 1, s1.heap.objs.size], _, _, H1, rfl, I2, turn_enumT a (s1.heap.objs.size + 1) s1.heap.objs.size, ⟨⟨.none, he⟩, ⟨_, hit, rfl, rfl⟩, Nat.succ_ne_self _, Nat.ne_of_lt al, Nat.ne_of_lt (Nat.lt_succ_of_lt al)⟩, fun b hb => ?_, q⟩
    have e' : b = s1.heap.objs.size + 1 ∨ b = s1.heap.objs.size := by simpa using hb
    have hle : s1.heap.objs.size ≤ b := e'.elim (fun z => by rw [z]; exact Nat.le_add_right _ _) fun z => by rw [z]; exact Nat.le_refl _
    exact I1.fpOk hle (I1.hok.fresh hle)
/-- a loop over enumerate(t) -/
theorem for_enumT {K : PySem.W.Frag} {a : Addr} {xs : List V} {g : TG} {tb : TS} {D : Ends} {σ : L2.St} {H : Hp} (Pv : Nat → L2.St → Hp → Prop) (h0 : Pv 0 σ H) (hq : ∀ i σ H, Pv i σ H → SqT K H a xs)
    (hs : ∀ (i : Nat) (x : V) (T : Addr) (σ : L2.St) (H : Hp), xs[i]? = some x → Pv i σ H → H T = none → g (.ref T) σ (upd H T (.tup [.int (i : Nat), x])) fun σ2 H2 => tb { D with nx := Pv (i + 1), ct := Pv (i + 1), bk := D.nx } σ2 H2) (hd : ∀ σ H, Pv xs.length σ H → D.nx σ H) :
    ∃ W : Nat → Nat → L2.St → Hp → Prop, (∃ m, W 0 m σ H) ∧ ∀ i m σ H, W i m σ H →
      ((IteT K a).stop i H ∧ D.nx σ H) ∨ ((IteT K a).go i H ∧ ∃ N : L2.St → Hp → Prop, (∀ σ' H', N σ' H' → ∃ m', m' < m ∧ W (i + 1) m' σ' H') ∧ ∀ v H', (IteT K a).yld i H v H' → g v σ H' fun σ2 H2 => tb { D with nx := N, ct := N, bk := D.nx } σ2 H2) := by
  refine ⟨fun i m σ H => m = xs.length - i ∧ i ≤ xs.length ∧ Pv i σ H, ⟨xs.length, rfl, Nat.zero_le _, h0⟩, ?_⟩
  rintro i m σ H ⟨rfl, hi, p⟩
  have qx := hq i σ H p
  by_cases hlt : i < xs.length
  · refine .inr ⟨⟨xs, _, qx, List.getElem?_eq_getElem hlt⟩, Pv (i + 1), fun σ' H' p' => ⟨xs.length - (i + 1), by omega, rfl, hlt, p'⟩, fun v H' y => ?_⟩
    obtain ⟨T, x', rfl, hT, rfl, f1⟩ := y
    exact hs i x' T σ H (f1 xs qx) p hT
  · obtain rfl : i = xs.length := by omega
    exact .inl ⟨⟨xs, qx, rfl⟩, hd σ H p⟩
end SI
set_option maxRecDepth 100000
set_option maxHeartbeats 4000000
/-! sum(t), t a tuple of ints -/
namespace SI
open PySem PySem.Spec PyProof.Rows L2
def rSumT (K : PySem.W.Frag) : List V → Hp → VK → Prop := fun vs H Q => ∃ (a : Addr) (ns : List Int), vs = [V.ref a] ∧ SqT K H a (ns.map V.int) ∧ Q (.int ns.sum) H
theorem cr_sumT {X : Cx} (hc : X.calm = true) : CallR X (.builtin "sum") (rSumT X.K) := by
  intro pins s σ H vs us Q I r h
  obtain ⟨a, ns, rfl, hs, q⟩ := h
  obtain ⟨its, rv, hl, _⟩ := I.tuple hs
  rw [Vals.ref1 r]
  have hi := rv.ints
  obtain ⟨xs, e⟩ := hi.allInts.items
  have hn : numsOf (intItems xs).toList = ns := by rw [← e]; exact hi.numsOf
  rw [nums_intItems] at hn
  have hl' : s.heap.IsTuple a (intItems xs) := e ▸ (show s.heap.IsTuple a its.toArray from hl)
  refine PySem.W.ktm_sumG (I.ok.hd hc) hl' fun h' tk t' hk => ?_
  rw [preSum_eq, List.take_of_length_le (by simp), hn]
  exact ⟨.int _, H, I.kept hk, ⟨_, rfl⟩, q⟩
end SI
set_option maxRecDepth 100000
set_option maxHeartbeats 4000000
/-! defs, methods, classes under their names; what they let out is wished for at the caller's slots -/
namespace SI
open PySem PySem.Spec PyProof.Rows L2
/-- a def that lets nothing out, as one that may -/
theorem ok0X {P : Program} {w : World} {K : PySem.W.Frag} {mg : Str → Option Value} {base : Heap} {k : Nat} {f : Addr} {fd : FuncData} {ps : List Str} {sp : Sp} (F : FnOk P w K mg base CX0 k f fd ps sp) : FnOk P w K mg base (L2.CX P w) k f fd ps sp :=
  ⟨F.len, fun A outer s H args us vs Q E hr e0 hb r h => codeAny_mono (F.run A outer s H args us vs Q E hr e0 hb r h) fun res s' z => match res, z with
    | .ok (.ret _), z => z
    | .ok .next, z => z
    | .ok .brk, z => z
    | .ok .cont, z => z
    | .error _, z => False.elim z⟩
structure Cl (P : Program) (w : World) (K : PySem.W.Frag) (mg : Str → Option Value) (base : Heap) (k : Nat) (x : Str) (sp : Sp) (dvs : List V) : Prop where
  ex : ∃ (f : Addr) (fd : FuncData) (ps : List Str) (ds : List Value), FnOk P w K mg base (L2.CX P w) k f fd ps sp ∧ mg x = some (.ref f) ∧ PySem.W.keepIn K (.ref f) = true ∧ Binds K fd ps ds ∧ Vals dvs ds
structure Mt (P : Program) (w : World) (K : PySem.W.Frag) (mg : Str → Option Value) (base : Heap) (k : Nat) (C : Addr) (m : Str) (sp : Sp) (dvs : List V) : Prop where
  ex : ∃ (f : Addr) (fd : FuncData) (ps : List Str) (ds : List Value), Cls K C ∧ Meth K C m f ∧ FnOk P w K mg base (L2.CX P w) k f fd ps sp ∧ Binds K fd ps ds ∧ Vals dvs ds
structure Mkr (P : Program) (w : World) (K : PySem.W.Frag) (mg : Str → Option Value) (base : Heap) (k : Nat) (x : Str) (C : Addr) (sp : Sp) (dvs : List V) : Prop where
  ex : ∃ (f : Addr) (fd : FuncData) (ps : List Str) (ds : List Value), Mk K C f ∧ FnOk P w K mg base (L2.CX P w) k f fd ps sp ∧ mg x = some (.ref C) ∧ Binds K fd ps ds ∧ Vals dvs ds
def tMethS (C : Addr) (m : Str) (sp : Sp) (dvs : List V) (E : L2.St → XK) (ta : TE) (t : TA) : TE := fun σ H Q => ta σ H fun x H1 => ∃ a dx fs, x = .ref a ∧ H1 a = some (.ins C dx fs) ∧ fs.lookup m = none ∧
  t σ H1 fun vs H2 => sp (x :: (vs ++ dvs)) H2 Q (E σ)
def tMakeS (C : Addr) (sp : Sp) (dvs : List V) (E : L2.St → XK) (t : TA) : TE := fun σ H Q => t σ H fun vs H1 => ∀ x dx, H1 x = none → H1 dx = none → dx ≠ x →
  sp (.ref x :: (vs ++ dvs)) (upd (upd H1 dx (.own x)) x (.ins C dx [])) (fun v H2 => v = .non ∧ Q (.ref x) H2) (E σ)
section
variable {X : Cx} {k j : Nat} {f C : Addr} {x m : Str} {sp : Sp} {dvs : List V} {p pos apos : Pos} {e o : Expr} {es : List Expr} {ta : TE} {t : TA} {W : WX}
/-! nothing comes out here -/
theorem pe_c (c : Cl X.prog X.w X.K X.mg X.base k x sp dvs) (hr : Room j X.A) (hk : k ≤ j) (hg : Gl X x) (ha : PA X (e :: es) t)
    (hdb : (x == ("__debug__" : Str)) = false := by decide) (he : starEach (e :: es) X.env = (false, eval e X.env) :: starEach es X.env := by rfl) (hpl : (backTo pos (starEach es X.env)).any (·.1) = false := by rfl) :
    PE X (.Call (.Name x p) (e :: es) [] pos) (tCall sp dvs E0 t) := by
  obtain ⟨f, fd, ps, ds, F, hm, kp, b, d⟩ := c.ex
  exact pe_call F (hr.mono hk) hg hm kp b d passL ha hdb he hpl
theorem pe_c0 (c : Cl X.prog X.w X.K X.mg X.base k x sp dvs) (hr : Room j X.A) (hk : k ≤ j) (hg : Gl X x) (hdb : (x == ("__debug__" : Str)) = false := by decide) : PE X (.Call (.Name x p) [] [] pos) (tCall sp dvs E0 tNil) := by
  obtain ⟨f, fd, ps, ds, F, hm, kp, b, d⟩ := c.ex
  exact pe_call0 F (hr.mono hk) hg hm kp b d passL hdb
theorem pe_mk (c : Mkr X.prog X.w X.K X.mg X.base k x C sp dvs) (hr : Room j X.A) (hk : k + 1 ≤ j) (hg : Gl X x) (ha : PA X (e :: es) t)
    (hdb : (x == ("__debug__" : Str)) = false := by decide) (he : starEach (e :: es) X.env = (false, eval e X.env) :: starEach es X.env := by rfl) (hpl : (backTo pos (starEach es X.env)).any (·.1) = false := by rfl) :
    PE X (.Call (.Name x p) (e :: es) [] pos) (tMake C sp dvs E0 t) := by
  obtain ⟨f, fd, ps, ds, M, F, hm, b, d⟩ := c.ex
  exact pe_make M F (hr.mono hk) hg hm b d passL ha hdb he hpl
theorem pe_mt {pl : Sem Bool} (c : Mt X.prog X.w X.K X.mg X.base k C m sp dvs) (hr : Room j X.A) (hk : k ≤ j) (he : PE X o ta) (ha : PA X (e :: es) t)
    (hst : starEach (e :: es) X.env = (false, eval e X.env) :: starEach es X.env := by rfl) (hpl : (backTo pos (starEach es X.env)).any (·.1) = false := by rfl)
    (ht : eval (.Call (.Attribute o m apos) (e :: es) [] pos) X.env = (do
      let ov ← eval o X.env
      standAt apos.atName
      let (f, first) ← holding [ov] (getMethod ov m pl)
      callWith pos f first (backTo pos (starEach (e :: es) X.env)) (backToKw pos (keywordEach [] X.env))) := by rfl) :
    PE X (.Call (.Attribute o m apos) (e :: es) [] pos) (tMeth C m sp dvs E0 ta t) := by
  obtain ⟨f, fd, ps, ds, hc, hm, F, b, d⟩ := c.ex
  exact pe_meth (pl := pl) he hc hm F (hr.mono hk) b d passL ha hst hpl ht
theorem pe_mt0 {pl : Sem Bool} (c : Mt X.prog X.w X.K X.mg X.base k C m sp dvs) (hr : Room j X.A) (hk : k ≤ j) (he : PE X o ta)
    (ht : eval (.Call (.Attribute o m apos) [] [] pos) X.env = (do
      let ov ← eval o X.env
      standAt apos.atName
      let (f, first) ← holding [ov] (getMethod ov m pl)
      callWith pos f first (backTo pos (starEach [] X.env)) (backToKw pos (keywordEach [] X.env))) := by rfl) :
    PE X (.Call (.Attribute o m apos) [] [] pos) (tMeth C m sp dvs E0 ta tNil) := by
  obtain ⟨f, fd, ps, ds, hc, hm, F, b, d⟩ := c.ex
  exact pe_meth0 (pl := pl) he hc hm F (hr.mono hk) b d passL ht
/-- int(i), i an int -/
theorem call_intI : CallR X (.type "int") (fun xs H Q => ∃ i, xs = [.int i] ∧ Q (.int i) H) := fun pins s σ H xs us Q I r h => call_int1 pins s σ H xs us Q I r (.inl h)
/-! errors come out: W is wished -/
theorem pe_cX (tk : Takes X W) (c : Cl X.prog X.w X.K X.mg X.base k x sp dvs) (hr : Room j X.A) (hk : k ≤ j) (hg : Gl X x) (ha : PA X (e :: es) t)
    (hdb : (x == ("__debug__" : Str)) = false := by decide) (he : starEach (e :: es) X.env = (false, eval e X.env) :: starEach es X.env := by rfl) (hpl : (backTo pos (starEach es X.env)).any (·.1) = false := by rfl) :
    PE X (.Call (.Name x p) (e :: es) [] pos) (tCallSD sp dvs (WE W) t) := by
  obtain ⟨f, fd, ps, ds, F, hm, kp, b, d⟩ := c.ex
  exact pe_callSD F (hr.mono hk) hg hm kp b d (fun σ => passAt tk σ) ha hdb he hpl
theorem run_mkS {pins : List (Addr × Obj)} {σ : L2.St} {H : Hp} {s : Shared} {Q : VK} {us : List Value} {vs : List V} {fd : FuncData} {ps : List Str} {ds : List Value} {E : XK} (M : Mk X.K C f) (F : FnOk X.prog X.w X.K X.mg X.base (L2.CX X.prog X.w) k f fd ps sp) (hr : Room (k + 1) X.A) (hb : Binds X.K fd ps ds) (hd : Vals dvs ds)
    (hx : PassesAt (L2.CX X.prog X.w) X σ E) (I : Inv X pins σ H s) (r : Vals vs us)
    (h : ∀ x dx, H x = none → H dx = none → dx ≠ x → sp (.ref x :: (vs ++ dvs)) (upd (upd H dx (.own x)) x (.ins C dx [])) (fun v H2 => v = .non ∧ Q (.ref x) H2) E) :
    wpAny (model X.prog X.w) X.A (call (.ref C) us) (EP X pins σ Q) X.xe s := by
  have hq := h (s.heap.objs.size + 1) s.heap.objs.size (I.hok.fresh (Nat.le_succ _)) (I.hok.fresh (Nat.le_refl _)) (Nat.ne_of_lt (Nat.lt_succ_self _))
  have I2 := Inv.made (C := C) I
  have r2 : Vals (V.ref (s.heap.objs.size + 1) :: (vs ++ dvs)) (Value.ref (s.heap.objs.size + 1) :: (us ++ ds)) := .cons rfl (r.append hd)
  have hl : (Value.ref (s.heap.objs.size + 1) :: us ++ ds).length = ps.length := (r2.length.symm.trans (F.len _ _ _ _ hq) : _)
  refine wpAny_call (make_map (f := f) I.kIn M.makes M.init (beq_iff_eq.mp M.fn) (codeAny_mono (F.run _ X.stack _ _ ⟨Value.ref (s.heap.objs.size + 1) :: us, []⟩ (Value.ref (s.heap.objs.size + 1) :: (us ++ ds)) _ _ E (hr.make C us [])
    (I2.env0.make C us []) (hb _ (Value.ref (s.heap.objs.size + 1) :: us) I2.kIn hl) r2 hq) fun r s' hq' => ?_))
  match r, hq' with
  | .error e, hq' => exact hx pins _ _ e s' I2 hq'
  | .ok (.ret u), hq' =>
    obtain ⟨v, H', I3, rv, ev, q3⟩ := I2.after hq'
    subst ev
    exact ⟨rv, ⟨V.ref (s.heap.objs.size + 1), H', I3, rfl, q3⟩⟩
  | .ok .next, hq' => exact False.elim hq'
  | .ok .brk, hq' => exact False.elim hq'
  | .ok .cont, hq' => exact False.elim hq'
theorem pe_mkX (tk : Takes X W) (c : Mkr X.prog X.w X.K X.mg X.base k x C sp dvs) (hr : Room j X.A) (hk : k + 1 ≤ j) (hg : Gl X x) (ha : PA X (e :: es) t)
    (hdb : (x == ("__debug__" : Str)) = false := by decide) (he : starEach (e :: es) X.env = (false, eval e X.env) :: starEach es X.env := by rfl) (hpl : (backTo pos (starEach es X.env)).any (·.1) = false := by rfl) :
    PE X (.Call (.Name x p) (e :: es) [] pos) (tMakeS C sp dvs (WE W) t) := by
  obtain ⟨f, fd, ps, ds, M, F, hm, b, d⟩ := c.ex
  exact ⟨fun pins s σ H Q I h => wpAny_Call_Name_kw (ld_glob I hg hm (PySem.W.callWith_K (h₀ := X.base) I.ok.mod.kin M.kp (thn (ha.run pos pins s σ H _ I h) fun us s1 ⟨vs, H1, I1, r, q⟩ => ⟨I1.kIn, run_mkS M F (hr.mono hk) b d (passAt tk σ) I1 r q⟩) he hpl) hdb)⟩
theorem pe_mtX {pl : Sem Bool} (tk : Takes X W) (c : Mt X.prog X.w X.K X.mg X.base k C m sp dvs) (hr : Room j X.A) (hk : k ≤ j) (he : PE X o ta) (ha : PA X (e :: es) t)
    (hst : starEach (e :: es) X.env = (false, eval e X.env) :: starEach es X.env := by rfl) (hpl : (backTo pos (starEach es X.env)).any (·.1) = false := by rfl)
    (ht : eval (.Call (.Attribute o m apos) (e :: es) [] pos) X.env = (do
      let ov ← eval o X.env
      standAt apos.atName
      let (f, first) ← holding [ov] (getMethod ov m pl)
      callWith pos f first (backTo pos (starEach (e :: es) X.env)) (backToKw pos (keywordEach [] X.env))) := by rfl) :
    PE X (.Call (.Attribute o m apos) (e :: es) [] pos) (tMethS C m sp dvs (WE W) ta t) := by
  obtain ⟨f, fd, ps, ds, hc, hm, F, b, d⟩ := c.ex
  refine ⟨fun pins s σ H Q I h => PySem.W.methodCall_KW (pl := pl) (thn (he.run pins s σ H _ I h) fun u s1 ⟨x, H1, I1, rx, a, dx, fs, ex, ea, l, q⟩ => ?_) ht⟩
  subst ex
  obtain rfl : u = Value.ref a := rx
  exact getmeth_ok I1 ea hc hm l (PySem.W.callWith_K (first := [.ref a]) (h₀ := X.base) I.ok.mod.kin hm.kp (thn (ha.run pos pins s1 σ H1 _ I1 q) fun us s2 ⟨vs, H2, I2, r, q2⟩ => ⟨I2.kIn, run_fnSD (us := .ref a :: us) (vs := .ref a :: vs) F (hr.mono hk) b d (passAt tk σ) I2 (.cons rfl r) q2⟩) hst hpl)
end
end SI
set_option maxRecDepth 100000
set_option maxHeartbeats 4000000
/-! what the top has written, a thing at a time -/
namespace SI
open PySem PySem.Spec PyProof.Rows L2 NdefX
section
variable {P : Program} {w : World} {K : PySem.W.Frag} {mg : Str → Option Value} {base : Heap}
structure DefAt (K : PySem.W.Frag) (mg : Str → Option Value) (x : Str) (st : Stmt) (ps : List Str) : Prop where
  ex : ∃ (f : Addr) (fd : FuncData), Fun K x x st f fd ∧ mg x = some (.ref f) ∧ Binds K fd ps []
structure MetAt (K : PySem.W.Frag) (C : Addr) (m qual : Str) (st : Stmt) (ps : List Str) : Prop where
  ex : ∃ (f : Addr) (fd : FuncData), Cls K C ∧ Meth K C m f ∧ Fun K m qual st f fd ∧ Binds K fd ps []
structure MakAt (K : PySem.W.Frag) (mg : Str → Option Value) (x : Str) (C : Addr) (qual : Str) (st : Stmt) (ps : List Str) : Prop where
  ex : ∃ (f : Addr) (fd : FuncData), Mk K C f ∧ Fun K "__init__" qual st f fd ∧ mg x = some (.ref C) ∧ Binds K fd ps []
theorem cl_of {x : Str} {st : Stmt} {N ps : List Str} {k : Nat} {sp : Sp} (D : DefAt K mg x st ps) (S : FnScope N ps (defScope st)) (len : ∀ vs H Q E, sp vs H Q E → vs.length = ps.length)
    (hbody : ∀ (f : Addr) (cdv : Value) (A : Around) (outer : List Env) (s : Shared) (H : Hp) (vs : List V) (Q : VK) (E : XK), Room k (A.deeper (envOfC x (defScope st) s.heap.objs.size f cdv)) → sp vs H Q E →
      ∃ t, PSs (cxOf (L2.CX P w) P w K mg base N x (defScope st) f cdv A outer s H E) (defBody st) t ∧ t { nx := fun _ H' => Q .non H', rt := Q } (L2.start N vs) H) : Cl P w K mg base (k + 1) x sp [] := by
  obtain ⟨f, fd, F, hm, b⟩ := D.ex
  exact ⟨f, fd, ps, [], F.okX S len (hbody f), hm, F.kp, b, .nil⟩
theorem mt_of {m qual : Str} {C : Addr} {st : Stmt} {N ps : List Str} {k : Nat} {sp : Sp} (D : MetAt K C m qual st ps) (S : FnScope N ps (defScope st)) (len : ∀ vs H Q E, sp vs H Q E → vs.length = ps.length)
    (hbody : ∀ (f : Addr) (cdv : Value) (A : Around) (outer : List Env) (s : Shared) (H : Hp) (vs : List V) (Q : VK) (E : XK), Room k (A.deeper (envOfC qual (defScope st) s.heap.objs.size f cdv)) → sp vs H Q E →
      ∃ t, PSs (cxOf (L2.CX P w) P w K mg base N qual (defScope st) f cdv A outer s H E) (defBody st) t ∧ t { nx := fun _ H' => Q .non H', rt := Q } (L2.start N vs) H) : Mt P w K mg base (k + 1) C m sp [] := by
  obtain ⟨f, fd, c, me, F, b⟩ := D.ex
  exact ⟨f, fd, ps, [], c, me, F.okX S len (hbody f), b, .nil⟩
theorem mkr_of {x qual : Str} {C : Addr} {st : Stmt} {N ps : List Str} {k : Nat} {sp : Sp} (D : MakAt K mg x C qual st ps) (S : FnScope N ps (defScope st)) (len : ∀ vs H Q E, sp vs H Q E → vs.length = ps.length)
    (hbody : ∀ (f : Addr) (cdv : Value) (A : Around) (outer : List Env) (s : Shared) (H : Hp) (vs : List V) (Q : VK) (E : XK), Room k (A.deeper (envOfC qual (defScope st) s.heap.objs.size f cdv)) → sp vs H Q E →
      ∃ t, PSs (cxOf (L2.CX P w) P w K mg base N qual (defScope st) f cdv A outer s H E) (defBody st) t ∧ t { nx := fun _ H' => Q .non H', rt := Q } (L2.start N vs) H) : Mkr P w K mg base (k + 1) x C sp [] := by
  obtain ⟨f, fd, M, F, hm, b⟩ := D.ex
  exact ⟨f, fd, ps, [], M, F.okX S len (hbody f), hm, b, .nil⟩
/-- a def that is called by keywords, too -/
structure Cd (P : Program) (w : World) (K : PySem.W.Frag) (mg : Str → Option Value) (base : Heap) (k : Nat) (x : Str) (st : Stmt) (ps : List Str) (sp : Sp) : Prop where
  ex : ∃ (f : Addr) (fd : FuncData), FnOk P w K mg base (L2.CX P w) k f fd ps sp ∧ Fun K x x st f fd ∧ mg x = some (.ref f) ∧ Binds K fd ps []
theorem Cd.cl {k : Nat} {x : Str} {st : Stmt} {ps : List Str} {sp : Sp} (c : Cd P w K mg base k x st ps sp) : Cl P w K mg base k x sp [] := by
  obtain ⟨f, fd, F, Fn, hm, b⟩ := c.ex
  exact ⟨f, fd, ps, [], F, hm, Fn.kp, b, .nil⟩
theorem cd_of {x : Str} {st : Stmt} {N ps : List Str} {k : Nat} {sp : Sp} (D : DefAt K mg x st ps) (S : FnScope N ps (defScope st)) (len : ∀ vs H Q E, sp vs H Q E → vs.length = ps.length)
    (hbody : ∀ (f : Addr) (cdv : Value) (A : Around) (outer : List Env) (s : Shared) (H : Hp) (vs : List V) (Q : VK) (E : XK), Room k (A.deeper (envOfC x (defScope st) s.heap.objs.size f cdv)) → sp vs H Q E →
      ∃ t, PSs (cxOf (L2.CX P w) P w K mg base N x (defScope st) f cdv A outer s H E) (defBody st) t ∧ t { nx := fun _ H' => Q .non H', rt := Q } (L2.start N vs) H) : Cd P w K mg base (k + 1) x st ps sp := by
  obtain ⟨f, fd, F, hm, b⟩ := D.ex
  exact ⟨f, fd, F.okX S len (hbody f), F, hm, b⟩
/-- f(k = v, ..): ks the keywords in the call's order, gV puts their values in the parameters' order -/
def tK0 (m : Nat) (sp : Sp) (gV : List V → List V) (tk : TA) : TE := fun σ H Q => tk σ H fun zs H1 => zs.length = m ∧ sp (gV zs) H1 Q E0
theorem pe_cK0 {X : Cx} {k j : Nat} {x : Str} {st : Stmt} {ps ks : List Str} {sp : Sp} {p pos : Pos} {kws : List Keyword} {tk : TA} {g : {α : Type} → List α → List α} (c : Cd X.prog X.w X.K X.mg X.base k x st ps sp) (hr : Room j X.A) (hk : k ≤ j) (hg : Gl X x) (hkw : PK X kws tk)
    (hb : ∀ (kV doc pm : Value) (an : Option Addr) (cdv ct : Value) (ws : List Value), ws.length = ks.length → bindArgs (PySem.W.fnOf x x (defArgs st) (defBody st) (defScope st) .none kV doc pm an cdv ct) ⟨[], ks.zip ws⟩ = pure (ps.zip (g ws)))
    (hrel : ∀ {zs : List V} {ws : List Value}, Vals zs ws → Vals (g zs) (g ws))
    (hall : (backToKw pos (keywordEach kws X.env)).all (·.1.isSome) = true := by rfl) (hks : (backToKw pos (keywordEach kws X.env)).filterMap (·.1) = ks := by rfl)
    (hdb : (x == ("__debug__" : Str)) = false := by decide) (hpl : ((backTo pos (starEach [] X.env)).any (·.1) || (backToKw pos (keywordEach kws X.env)).any (·.1.isNone)) = false := by rfl) :
    PE X (.Call (.Name x p) [] kws pos) (tK0 ks.length sp g tk) := by
  obtain ⟨f, fd, F, Fn, hm, _⟩ := c.ex
  refine ⟨fun pins s σ H Q I h => wpAny_Call_Name_kw (ld_glob I hg hm ?_ hdb)⟩
  refine PySem.W.callWith_KW0 (h₀ := X.base) I.ok.mod.kin Fn.kp hall (thn (hkw.run pos pins s σ H _ I h) fun ws s2 ⟨zs, H2, I2, rz, l2, q2⟩ => ⟨I2.kIn, ?_⟩) hpl
  rw [hks]
  obtain ⟨oc, od, kV, doc, pm, an, cdv, ct, osl, rfl, lk, hcd⟩ := Fn.ex
  have b : KBn X.K (PySem.W.fnOf x x (defArgs st) (defBody st) (defScope st) .none kV doc pm an cdv ct) ps 0 ks (fun _ ws => g ws) (fun _ zs => g zs) :=
    ⟨fun s us ws _ l1 l2 => by
      have e : us = [] := List.eq_nil_of_length_eq_zero l1
      subst e
      exact BindsTo.of_eq (hb kV doc pm an cdv ct ws l2), fun _ r => hrel r⟩
  exact run_fnN (F.mono hk) hr b passL I2 .nil rz rfl l2 q2
/-- a def within an except suite -/
structure ClW (P : Program) (w : World) (K : PySem.W.Frag) (mg : Str → Option Value) (base : Heap) (k : Nat) (x : Str) (sp : Addr × Obj → Sp) : Prop where
  ex : ∃ (f : Addr) (fd : FuncData) (ps : List Str), FnW P w K mg base CX0 k f fd ps sp ∧ mg x = some (.ref f) ∧ PySem.W.keepIn K (.ref f) = true ∧ Binds K fd ps []
theorem clW_of {x : Str} {st : Stmt} {N ps : List Str} {k : Nat} {sp : Addr × Obj → Sp} (D : DefAt K mg x st ps) (S : FnScope N ps (defScope st)) (len : ∀ p vs H Q E, sp p vs H Q E → vs.length = ps.length)
    (hbody : ∀ (f : Addr) (cdv : Value) (A : Around) (outer : List Env) (s : Shared) (H : Hp) (vs : List V) (Q : VK) (E : XK) (p : Addr × Obj), L2H.RoomH k (A.deeper (envOfC x (defScope st) s.heap.objs.size f cdv)) → sp p vs H Q E →
      ∃ t, PSs (L2H.cxH CX0 P w K mg base N x (defScope st) f cdv A outer s H E p).nox (defBody st) t ∧ t { nx := fun _ H' => Q .non H', rt := Q } (L2.start N vs) H) : ClW P w K mg base (k + 1) x sp := by
  obtain ⟨f, fd, F, hm, b⟩ := D.ex
  exact ⟨f, fd, ps, Fun_okW F S len (hbody f), hm, F.kp, b⟩
theorem room_mark {k : Nat} {A : Around} (r : Room k A) (v : Option Value) : L2H.RoomH k (A.mark v) := ⟨r.dp, r.un⟩
theorem pe_cW {X : Cx} {k j : Nat} {x : Str} {sp : Addr × Obj → Sp} {q pos : Pos} {e : Expr} {es : List Expr} {t : TA} {p : Addr × Obj} (c : ClW X.prog X.w X.K X.mg X.base k x sp) (hr : L2H.RoomH j X.A) (hk : k ≤ j) (hp : p ∈ X.pn) (hg : Gl X x) (ha : PA X (e :: es) t)
    (hdb : (x == ("__debug__" : Str)) = false := by decide) (he : starEach (e :: es) X.env = (false, eval e X.env) :: starEach es X.env := by rfl) (hpl : (backTo pos (starEach es X.env)).any (·.1) = false := by rfl) :
    PE X (.Call (.Name x q) (e :: es) [] pos) (tCallS (sp p) (fun _ => E0) t) := by
  obtain ⟨f, fd, ps, F, hm, kp, b⟩ := c.ex
  exact pe_callW F (hr.mono hk) hp hg hm kp b (fun _ => passA0) ha hdb he hpl
abbrev cxd (P : Program) (w : World) (K : PySem.W.Frag) (mg : Str → Option Value) (base : Heap) (N : List Str) (x : Str) (st : Stmt) (f : Addr) (cdv : Value) (A : Around) (outer : List Env) (s : Shared) (H : Hp) (E : XK) : Cx := cxOf (L2.CX P w) P w K mg base N x (defScope st) f cdv A outer s H E
/-! in a suite -/
theorem call_isS {X : Cx} {a : Addr} {oe : Obj} {cls : Value} {d : Option Addr} {pn : List (Addr × Obj)} (EK : ErrK X.K) (hz : Zc cls d oe) (hf : ∃ vs, oe.data = .fields vs) : CallR (X.suite a ((a, oe) :: pn)) (.builtin "isinstance") (rIsX X.K a cls d) :=
  call_isX (X := X.suite a ((a, oe) :: pn)) EK List.mem_cons_self hz hf
theorem pe_errS {X : Cx} {a : Addr} {oe : Obj} {cls : Value} {d : Option Addr} {pn : List (Addr × Obj)} {e : Expr} {te : TE} {pos : Pos} {n : Str} (hz : Zc cls d oe) (hf : ∃ vs, oe.data = .fields vs) (he : PE (X.suite a ((a, oe) :: pn)) e te)
    (hb : attributeBase e n (X.suite a ((a, oe) :: pn)).env (eval e (X.suite a ((a, oe) :: pn)).env) = eval e (X.suite a ((a, oe) :: pn)).env := by rfl) : PE (X.suite a ((a, oe) :: pn)) (.Attribute e n pos) (tErrF X.K a cls d n te) :=
  pe_errF (X := X.suite a ((a, oe) :: pn)) List.mem_cons_self hz hf he hb
theorem pe_cWS {X : Cx} {a : Addr} {oe : Obj} {pn : List (Addr × Obj)} {k j : Nat} {x : Str} {sp : Addr × Obj → Sp} {q pos : Pos} {e : Expr} {es : List Expr} {t : TA} (c : ClW X.prog X.w X.K X.mg X.base k x sp) (hr : Room j X.A) (hk : k ≤ j) (hg : Gl X x) (ha : PA (X.suite a ((a, oe) :: pn)) (e :: es) t)
    (hdb : (x == ("__debug__" : Str)) = false := by decide) (he : starEach (e :: es) X.env = (false, eval e X.env) :: starEach es X.env := by rfl) (hpl : (backTo pos (starEach es X.env)).any (·.1) = false := by rfl) :
    PE (X.suite a ((a, oe) :: pn)) (.Call (.Name x q) (e :: es) [] pos) (tCallS (sp (a, oe)) (fun _ => E0) t) :=
  pe_cW (X := X.suite a ((a, oe) :: pn)) c (room_mark hr _) hk List.mem_cons_self hg ha hdb he hpl
/-! constants -/
theorem pe_const {X : Cx} {x : Str} {i : Int} {pos : Pos} (hg : Gl X x) (hm : ∃ t, X.mg x = some (.int i t)) (hd : (x == ("__debug__" : Str)) = false := by decide) : PE X (.Name x pos) (tC (.int i)) :=
  ⟨fun _ _ _ H _ I h => hm.elim fun t ht => ld_glob I hg ht ⟨.int i, H, I, ⟨t, rfl⟩, h⟩ hd⟩
/-! errors -/
structure Rs (P : Program) (w : World) (K : PySem.W.Frag) (mg : Str → Option Value) (base : Heap) (x : Str) (C : Addr) (mk : List V → List (Str × V) → Prop) : Prop where
  run : ∀ {X : Cx} {e : Expr} {es : List Expr} {ta : TA} {p pos : Pos}, X.prog = P → X.w = w → X.K = K → X.mg = mg → X.base = base → Room 2 X.A → Gl X x → PA X (e :: es) ta →
    starEach (e :: es) X.env = (false, eval e X.env) :: starEach es X.env → (backTo pos (starEach es X.env)).any (·.1) = false → PMk X (.Call (.Name x p) (e :: es) [] pos) (tErr C mk ta)
theorem pmk_rs {X : Cx} {j : Nat} {x : Str} {C : Addr} {mk : List V → List (Str × V) → Prop} {e : Expr} {es : List Expr} {ta : TA} {p pos : Pos} (c : Rs X.prog X.w X.K X.mg X.base x C mk) (hr : Room j X.A) (hk : 2 ≤ j) (hg : Gl X x) (ha : PA X (e :: es) ta)
    (he : starEach (e :: es) X.env = (false, eval e X.env) :: starEach es X.env := by rfl) (hpl : (backTo pos (starEach es X.env)).any (·.1) = false := by rfl) : PMk X (.Call (.Name x p) (e :: es) [] pos) (tErr C mk ta) :=
  c.run rfl rfl rfl rfl rfl (hr.mono hk) hg ha he hpl
theorem rs1 {x y f : Str} {C fI : Addr} {fd : FuncData} (T : OexC K C) (hm : mg x = some (.ref C)) (iC : PySem.W.findIn K (.ref C) "__init__" = some (some (.ref fI)))
    (tI : PySem.W.typeIn K (.ref fI) = some (.type "function")) (F : FnOk P w K mg base CX0 1 fI fd ["self", y] (spE1 C f)) (b : Binds K fd ["self", y] []) (hdb : (x == ("__debug__" : Str)) = false) : Rs P w K mg base x C (mk1 f) :=
  ⟨fun h1 h2 h3 h4 h5 hr hg ha he hpl => by subst h1 h2 h3 h4 h5; exact pmk_e1 T iC tI F hr b pass0 hg hm ha hdb he hpl⟩
theorem rs2 {x y z f g : Str} {C fI : Addr} {ok : V → Prop} {fd : FuncData} (T : OexC K C) (hm : mg x = some (.ref C)) (iC : PySem.W.findIn K (.ref C) "__init__" = some (some (.ref fI)))
    (tI : PySem.W.typeIn K (.ref fI) = some (.type "function")) (F : FnOk P w K mg base CX0 1 fI fd ["self", y, z] (spE2 C f g ok)) (b : Binds K fd ["self", y, z] []) (hdb : (x == ("__debug__" : Str)) = false) : Rs P w K mg base x C (mk2 f g ok) :=
  ⟨fun h1 h2 h3 h4 h5 hr hg ha he hpl => by subst h1 h2 h3 h4 h5; exact pmk_e2 T iC tI F hr b pass0 hg hm ha hdb he hpl⟩
end

/-! tests -/
section
variable {A B : Prop}
theorem ifT {c : Bool} (h : c = true) (a : A) : if c = true then A else B := by rw [if_pos h]; exact a
theorem ifF {c : Bool} (h : c = false) (b : B) : if c = true then A else B := by rw [h, if_neg Bool.false_ne_true]; exact b
theorem ifB {c : Bool} (h1 : c = true → A) (h2 : c = false → B) : if c = true then A else B := by
  cases c with
  | true => exact ifT rfl (h1 rfl)
  | false => exact ifF rfl (h2 rfl)
theorem ifD {p : Prop} [Decidable p] (h1 : p → A) (h2 : ¬ p → B) : if decide p = true then A else B := ifB (fun h => h1 (of_decide_eq_true h)) fun h => h2 (of_decide_eq_false h)
theorem ifN {p : Prop} [Decidable p] (h1 : ¬ p → A) (h2 : p → B) : if (!decide p) = true then A else B := ifB (fun h => h1 (by simpa using h)) fun h => h2 (by simpa using h)
theorem ifI {i j : Int} (h1 : i = j → A) (h2 : i ≠ j → B) : if decide (V.int i = V.int j) = true then A else B := ifD (fun h => h1 (V.int.inj h)) fun h => h2 fun e => h (by rw [e])
theorem ifIN {i j : Int} (h1 : i ≠ j → A) (h2 : i = j → B) : if (!decide (V.int i = V.int j)) = true then A else B := ifN (fun h => h1 fun e => h (by rw [e])) fun h => h2 (V.int.inj h)
end
theorem atI0 {x : V} {xs : List V} : atI (x :: xs) 0 = some x := at_of (j := 0) rfl rfl
theorem atI1 {x y : V} {xs : List V} : atI (x :: y :: xs) 1 = some y := at_of (j := 1) rfl rfl
theorem ixN_of {n j : Nat} {i : Int} (e : i = (j : Int)) (h : j < n) : ixN n i = some j := by
  unfold ixN
  rw [e, if_pos (Int.natCast_nonneg j), if_pos (by omega)]
  simp
theorem seqIx_of {n j : Nat} {i : Int} (e : i = (j : Int)) (h : j < n) : seqIndex? i n = some j := by
  rw [e, PySem.seqIndex_of (Int.natCast_nonneg j) (by omega)]
  simp
theorem len1 {x : V} {xs : List V} : 0 < (x :: xs).length := Nat.succ_pos _
theorem len2 {x y : V} {xs : List V} : 1 < (x :: y :: xs).length := Nat.succ_lt_succ (Nat.succ_pos _)

/-! heaps -/
theorem smN {H H' : Hp} {q : Addr} {o : HO} (s : Same H H') (h : H' q = none) : Same H (upd H' q o) := fun b u e => by rw [upd_ne (ne_of_none (s b u e) h)]; exact s b u e
theorem smM {H H' : Hp} {q : Addr} {o : HO} (s : Same H H') (h : H q = none) : Same H (upd H' q o) := fun b u e => by rw [upd_ne (ne_of_none e h)]; exact s b u e
theorem sm0 {H : Hp} {q : Addr} {o : HO} (h : H q = none) : Same H (upd H q o) := smN (Same.refl H) h
theorem smT {K : PySem.W.Frag} {H H' : Hp} {a : Addr} {xs : List V} (e : Same H H') (h : SqT K H a xs) : SqT K H' a xs := Evl.ex_t e h
/-- a value is read behind a new object -/
theorem atN {H : Hp} {q b : Addr} {o u : HO} (h : H b = some u) (n : H q = none) : upd H q o b = some u := by rw [upd_ne (ne_of_none h n)]; exact h
theorem ints_at {ns : List Int} {i : Nat} {x : V} (h : (ns.map V.int)[i]? = some x) : ∃ z, ns[i]? = some z ∧ x = V.int z := by
  rw [List.getElem?_map] at h
  cases e : ns[i]? with
  | none => rw [e] at h; cases h
  | some z => rw [e] at h; exact ⟨z, rfl, (Option.some.inj h).symm⟩
theorem at_ints {ns : List Int} {i : Nat} {z : Int} (h : ns[i]? = some z) : (ns.map V.int)[i]? = some (V.int z) := by rw [List.getElem?_map, h]; rfl
theorem sz_small {n : Nat} (h : n ≤ 100000) : n ≤ sizeLine := Nat.le_trans h (by decide)
theorem sz_lt {n : Nat} (h : n ≤ 100000) : n < sizeLine := Nat.lt_of_le_of_lt h (by decide)
theorem cut_map {α : Type} (F : α → V) (ns : List α) (lo hi : Option Int) : ∃ ms : List α, cutV (ns.map F) lo hi = ms.map F ∧ ms.length ≤ ns.length ∧ ms = (ns.drop (HT.sIx ns.length 0 lo)).take (HT.sIx ns.length ns.length hi - HT.sIx ns.length 0 lo) :=
  ⟨_, by unfold cutV; rw [List.length_map, List.map_take, List.map_drop], by rw [List.length_take, List.length_drop]; omega, rfl⟩
theorem pow10 {j : Int} (h0 : 0 ≤ j) (h1 : j ≤ 1000000) : CPow 10 j := ⟨h0, h1, by decide⟩
/-! attributes -/
theorem putF_new {f : Str} {v : V} : ∀ {fs : List (Str × V)}, fs.lookup f = none → putF f v fs = fs ++ [(f, v)]
  | [], _ => rfl
  | (g, y) :: fs, h => by
    have hne : ¬ g = f := fun e => by
      subst e
      simp [List.lookup] at h
    have h2 : fs.lookup f = none := by
      rw [lookup_put, if_neg (Ne.symm hne)] at h
      exact h
    show (if g = f then (g, v) :: fs else (g, y) :: putF f v fs) = _
    rw [if_neg hne, putF_new h2]
    rfl
theorem lk_hit {f : Str} {v : V} {fs : List (Str × V)} : ((f, v) :: fs).lookup f = some v := by rw [lookup_put, if_pos rfl]
theorem lk_next {f g : Str} {v : V} {fs : List (Str × V)} {o : Option V} (h : ¬ f = g) (k : fs.lookup f = o) : ((g, v) :: fs).lookup f = o := by rw [lookup_put, if_neg h]; exact k
theorem lk_nil {f : Str} : ([] : List (Str × V)).lookup f = none := rfl
end SI
set_option maxRecDepth 100000
set_option maxHeartbeats 4000000
/-! == of rows of ints; values by a measure of depth -/
namespace SI
open PySem PySem.Spec PyProof.Rows L2
theorem dpAll_map {α : Type} {K : PySem.W.Frag} {H : Hp} {F : α → V} {G : α → PyData} : ∀ {l : List α}, (∀ x ∈ l, Dp K H (F x) (G x)) → DpAll K H (l.map F) (l.map G)
  | [], _ => .nil
  | x :: l, h => .cons (h x List.mem_cons_self) (dpAll_map fun y hy => h y (List.mem_cons_of_mem _ hy))
theorem dpL {K : PySem.W.Frag} {H : Hp} {a : Addr} {ns : List Int} (h : SqL K H a (ns.map V.int)) : Dp K H (.ref a) (.list (ns.map PyData.int)) := .lst h (dpAll_map fun x _ => .int x)
theorem dpT {K : PySem.W.Frag} {H : Hp} {a : Addr} {ns : List Int} (h : SqT K H a (ns.map V.int)) : Dp K H (.ref a) (.tuple (ns.map PyData.int)) := .tup h (dpAll_map fun x _ => .int x)
theorem lay_ints : ∀ ns : List Int, PyData.canLayAll0 (ns.map PyData.int) = true ∧ PyData.depthAll (ns.map PyData.int) = 0
  | [] => ⟨rfl, rfl⟩
  | n :: ns => by
    obtain ⟨h1, h2⟩ := lay_ints ns
    refine ⟨?_, ?_⟩
    · show (PyData.canLay0 (.int n) && PyData.canLayAll0 (ns.map PyData.int)) = true
      rw [h1]
      rfl
    · show max (PyData.depth (.int n)) (PyData.depthAll (ns.map PyData.int)) = 0
      rw [h2]
      rfl
theorem shL (ns : List Int) : SeqAt.shaped (.list (ns.map PyData.int)) = true := by
  obtain ⟨h1, h2⟩ := lay_ints ns
  show (PyData.canLayAll0 (ns.map PyData.int) && decide (PyData.depthAll (ns.map PyData.int) + 1 ≤ 64)) = true
  rw [h1, h2]
  rfl
theorem shT (ns : List Int) : SeqAt.shaped (.tuple (ns.map PyData.int)) = true := by
  obtain ⟨h1, h2⟩ := lay_ints ns
  show (PyData.canLayAll0 (ns.map PyData.int) && decide (PyData.depthAll (ns.map PyData.int) + 1 ≤ 64)) = true
  rw [h1, h2]
  rfl
theorem eqv_all : ∀ xs ys : List Int, PyData.eqvAll (xs.map PyData.int) (ys.map PyData.int) = decide (xs = ys)
  | [], [] => rfl
  | [], _ :: _ => rfl
  | _ :: _, [] => rfl
  | x :: xs, y :: ys => by
    show ((x == y) && PyData.eqvAll (xs.map PyData.int) (ys.map PyData.int)) = _
    rw [eqv_all xs ys]
    by_cases h : x = y
    · subst h
      by_cases h2 : xs = ys
      · subst h2; simp
      · simp [h2]
    · simp [h]
theorem eqvL (xs ys : List Int) : PyData.eqv (.list (xs.map PyData.int)) (.list (ys.map PyData.int)) = decide (xs = ys) := eqv_all xs ys
theorem eqvT (xs ys : List Int) : PyData.eqv (.tuple (xs.map PyData.int)) (.tuple (ys.map PyData.int)) = decide (xs = ys) := eqv_all xs ys
/-- == of data in an except suite -/
theorem op_eqDS {X : Cx} {a : Addr} {oe : Obj} {pn : List (Addr × Obj)} (hu : X.A.units + 64 < cLine) : OpR (X.suite a ((a, oe) :: pn)) (compareOp .Eq) (rEqD X.K) := op_eqD (X := X.suite a ((a, oe) :: pn)) hu
theorem op_neDS {X : Cx} {a : Addr} {oe : Obj} {pn : List (Addr × Obj)} (hu : X.A.units + 64 < cLine) : OpR (X.suite a ((a, oe) :: pn)) (compareOp .NotEq) (rNeD X.K) := op_neD (X := X.suite a ((a, oe) :: pn)) hu
/-! builtins in a try body: X the def's own context -/
theorem call_list_ofT {X : Cx} {pn : List (Addr × Obj)} {xe : Value → Shared → Prop} : CallR (X.tr pn xe) (.type "list") (fun xs H Q => ∃ (p : Addr) (ys : List V), xs = [V.ref p] ∧ (SqL X.K H p ys ∨ SqT X.K H p ys) ∧ ∀ (l : Addr), H l = none → Q (V.ref l) (upd H l (HO.lst ys))) := call_list_of (X := X.tr pn xe)
/-! in a comprehension's block: X the def's own context -/
section
variable {X : Cx} {s : Shared} {H : Hp} {sc : Scope} {ce : Env} {fp : List Addr}
theorem ix_listB : IxR (X.blk s H sc ce fp) (rIxL X.K) := ix_list (X := X.blk s H sc ce fp)
theorem ix_tupB : IxR (X.blk s H sc ce fp) (rIxT X.K) := ix_tup (X := X.blk s H sc ce fp)
end
end SI
namespace SI
open PySem L2
/-- a loop over enumerate(list) -/
theorem for_enumL {K : PySem.W.Frag} {a : Addr} {xs : List V} {g : TG} {tb : TS} {D : Ends} {σ : L2.St} {H : Hp} (Pv : Nat → L2.St → Hp → Prop) (h0 : Pv 0 σ H) (hq : ∀ i σ H, Pv i σ H → SqL K H a xs)
    (hs : ∀ (i : Nat) (x : V) (T : Addr) (σ : L2.St) (H : Hp), xs[i]? = some x → Pv i σ H → H T = none → g (.ref T) σ (upd H T (.tup [.int (i : Nat), x])) fun σ2 H2 => tb { D with nx := Pv (i + 1), ct := Pv (i + 1), bk := D.nx } σ2 H2) (hd : ∀ σ H, Pv xs.length σ H → D.nx σ H) :
    ∃ W : Nat → Nat → L2.St → Hp → Prop, (∃ m, W 0 m σ H) ∧ ∀ i m σ H, W i m σ H →
      ((Ite K a).stop i H ∧ D.nx σ H) ∨ ((Ite K a).go i H ∧ ∃ N : L2.St → Hp → Prop, (∀ σ' H', N σ' H' → ∃ m', m' < m ∧ W (i + 1) m' σ' H') ∧ ∀ v H', (Ite K a).yld i H v H' → g v σ H' fun σ2 H2 => tb { D with nx := N, ct := N, bk := D.nx } σ2 H2) := by
  refine ⟨fun i m σ H => m = xs.length - i ∧ i ≤ xs.length ∧ Pv i σ H, ⟨xs.length, rfl, Nat.zero_le _, h0⟩, ?_⟩
  rintro i m σ H ⟨rfl, hi, p⟩
  have qx := hq i σ H p
  by_cases hlt : i < xs.length
  · refine .inr ⟨⟨xs, _, qx, List.getElem?_eq_getElem hlt⟩, Pv (i + 1), fun σ' H' p' => ⟨xs.length - (i + 1), by omega, rfl, hlt, p'⟩, fun v H' y => ?_⟩
    obtain ⟨T, x', rfl, hT, rfl, f1⟩ := y
    exact hs i x' T σ H (f1 xs qx) p hT
  · exact .inl ⟨⟨xs, qx, by omega⟩, hd σ H (by rw [show xs.length = i by omega]; exact p)⟩
end SI
set_option maxRecDepth 100000
set_option maxHeartbeats 4000000
/-! from what k_is finds to what the walks take -/
namespace SI
open PySem PySem.Spec PyProof.Rows L2 NdefX
section
variable {P : Program} {w : World} {K : PySem.W.Frag} {mg : Str → Option Value} {base h : Heap}
abbrev BindOk (x qual : Str) (st : Stmt) (ps : List Str) : Prop := ∀ (kV doc pm : Value) (an : Option Addr) (cdv ct : Value) (us : List Value), us.length = ps.length →
  bindArgs (PySem.W.fnOf x qual (defArgs st) (defBody st) (defScope st) .none kV doc pm an cdv ct) ⟨us, []⟩ = pure (ps.zip us)
theorem def_at {x : Str} {st : Stmt} {ps : List Str} {f : Addr} {oc kV doc pm cdv ct : Value} {od an : Option Addr} {osl : Array (Option Value)} (X : K.In h) (G : h.Ns mainGlobals mg) (hb : BindOk x x st ps)
    (a : PySem.W.nsIn K mainGlobals x = some (some (.ref f))) (l : K.lookup f = some ⟨oc, od, .func (PySem.W.fnOf x x (defArgs st) (defBody st) (defScope st) .none kV doc pm an cdv ct), osl⟩)
    (c : PySem.W.codeIn K cdv x = true) (k : PySem.W.keepIn K (.ref f) = true) {R : Prop} (r : DefAt K mg x st ps → R) : R :=
  r ⟨f, _, fun_mk l c k, PySem.W.mg_of X G a, (fun_mk l c k).binds hb⟩
theorem cls_at {C : Addr} (pg : PySem.W.plainGet K C Str.empty = true) (hd : PySem.W.hasDictIn K C = true) (po : PySem.W.plainOver K C = true) (sa : PySem.W.findIn K (.ref C) "__setattr__" = some (some (.builtin "object.__setattr__")))
    {R : Prop} (r : Cls K C → R) : R := r ⟨pg, hd, po, sa⟩
theorem mak_at {x qual : Str} {C : Addr} {st : Stmt} {ps : List Str} {f : Addr} {oc kV doc pm cdv ct : Value} {od an : Option Addr} {osl : Array (Option Value)} (X : K.In h) (G : h.Ns mainGlobals mg) (hb : BindOk "__init__" qual st ps)
    (a : PySem.W.nsIn K mainGlobals x = some (some (.ref C))) (mk : PySem.W.makesIn K C = true) (i : PySem.W.findIn K (.ref C) "__init__" = some (some (.ref f))) (n : PySem.W.isFn K (.ref f) = true) (kc : PySem.W.keepIn K (.ref C) = true)
    (l : K.lookup f = some ⟨oc, od, .func (PySem.W.fnOf "__init__" qual (defArgs st) (defBody st) (defScope st) .none kV doc pm an cdv ct), osl⟩)
    (c : PySem.W.codeIn K cdv qual = true) (k : PySem.W.keepIn K (.ref f) = true) {R : Prop} (r : MakAt K mg x C qual st ps → R) : R :=
  r ⟨f, _, ⟨mk, i, n, kc⟩, fun_mk l c k, PySem.W.mg_of X G a, (fun_mk l c k).binds hb⟩
theorem met_at {m qual : Str} {C : Addr} {st : Stmt} {ps : List Str} {f : Addr} {oc kV doc pm cdv ct : Value} {od an : Option Addr} {osl : Array (Option Value)} (hC : Cls K C) (hb : BindOk m qual st ps)
    (i : PySem.W.findIn K (.ref C) m = some (some (.ref f))) (n : PySem.W.isFn K (.ref f) = true)
    (l : K.lookup f = some ⟨oc, od, .func (PySem.W.fnOf m qual (defArgs st) (defBody st) (defScope st) .none kV doc pm an cdv ct), osl⟩)
    (c : PySem.W.codeIn K cdv qual = true) (k : PySem.W.keepIn K (.ref f) = true) {R : Prop} (r : MetAt K C m qual st ps → R) : R :=
  r ⟨f, _, hC, ⟨i, n, k⟩, fun_mk l c k, (fun_mk l c k).binds hb⟩
/-- a class of errors: at its name, what isinstance and except read of it -/
theorem exc_at {x : Str} {C : Addr} {nm q : Str} {N : Addr} {bs bm : List Value} {sn : List Str} {sub : List Value} {ab : Bool} {col : Option Bool} {dd : Option Addr} {k0 k1 k2 k3 k5 : Option Value} (X : K.In h) (G : h.Ns mainGlobals mg)
    (a : PySem.W.nsIn K mainGlobals x = some (some (.ref C))) (l : K.lookup C = some (excClassObj nm q C N bs bm true sn sub ab col dd k0 k1 k2 k3 k5 "ValueError.__new__")) (rf : PySem.HandSPX.refsVE bm = true)
    (sa : PySem.W.findIn K (.ref C) "__setattr__" = some (some (.builtin "object.__setattr__"))) (exC : PySem.W.subIn K (.ref C) (.type "BaseException") = some true) (tyC : PySem.W.typeIn K (.ref C) = some (.type "type")) (kC : PySem.W.keepIn K (.ref C) = true)
    (ga : PySem.W.findIn K (.ref C) "__getattribute__" = some (some (.builtin "BaseException.__getattribute__"))) (gg : PySem.W.findIn K (.ref C) "__getattr__" = some none) (hd : PySem.W.hasDictIn K C = true)
    (ac : PySem.W.findIn K (.ref C) "__class__" = some (some (.builtin "object.__class__"))) (mo : PySem.W.mroIn K C (.type "object") = some true)
    {R : Prop} (r : mg x = some (.ref C) → OexC K C → ErrC K C → R) : R :=
  r (PySem.W.mg_of X G a) ⟨⟨nm, q, N, bs, bm, sn, sub, ab, col, dd, k0, k1, k2, k3, k5, l, rf⟩, sa, exC, tyC, kC⟩
    ⟨by unfold PySem.W.clsIn; rw [l] <;> rfl, ga, gg, exC, hd, ac, mo⟩
/-- what an own __init__ with super() is -/
theorem sup_at {C fI : Addr} {qual : Str} {st : Stmt} {e0 : Expr} {rest : List Stmt} {p0 p1 p2 p3 p4 : Pos} {oc : Value} {od : Option Addr} {kV doc pm : Value} {an : Option Addr} {ct : Value} {osl : Array (Option Value)} {cc cda : Addr}
      {q1 : Value} {q2 : Option Addr} {q3 : Array (Option Value)} {r1 : Value} {r2 : Option Addr} {vs : Array Value} {r3 : Array (Option Value)} {file : Str} {tf : Tok} (X : K.In h) (G : h.Ns mainGlobals mg) (O : OexC K C)
    (hbody : defBody st = .Expr (.Call (.Attribute (.Call (.Name "super" p0) [] [] p1) "__init__" p2) [e0] [] p3) p4 :: rest)
    (i : PySem.W.findIn K (.ref C) "__init__" = some (some (.ref fI))) (t : PySem.W.typeIn K (.ref fI) = some (.type "function"))
    (l : K.lookup fI = some ⟨oc, od, .func (PySem.W.fnX "__init__" qual (defArgs st) (defBody st) (defScope st) [("__class__", cc)] .none kV doc pm an (.ref cda) ct), osl⟩)
    (c : PySem.W.codeIn K (.ref cda) qual = true) (lc : K.lookup cda = some ⟨r1, r2, .fields vs, r3⟩) (hf : vs[2]? = some (.str file tf)) (hm : (P.main.file == file) = true) (lcc : K.lookup cc = some ⟨q1, q2, .cell (some (.ref C)), q3⟩)
    (self : PySem.W.mroIn K C (.ref C) = some true) (sup : PySem.W.ks_superIn K C C "__init__" = some (some (.builtin "ValueError.__init__"))) (sub : PySem.W.subIn K (.ref C) (.type "ValueError") = some true)
    (z : PySem.W.nsIn K mainGlobals "super" = some none) (any : PySem.W.nsIn K cStatics "thirdparty.any" = some none) (top : (P.main.scope.names.lookup ("super" : Str)).isSome = false)
    {R : Prop} (r : ∀ fd, SupF P K mg C fI qual (defArgs st) e0 rest (defScope st) p0 p1 p2 p3 p4 fd → PySem.W.findIn K (.ref C) "__init__" = some (some (.ref fI)) → PySem.W.typeIn K (.ref fI) = some (.type "function") → 
      (∃ (kV doc pm : Value) (an : Option Addr) (cc : Addr) (cdv ct : Value), fd = PySem.W.fnX "__init__" qual (defArgs st) (defBody st) (defScope st) [("__class__", cc)] .none kV doc pm an cdv ct) → R) : R :=
  r _ ⟨⟨oc, od, kV, doc, pm, an, ct, osl, cc, cda, q1, q2, q3, r1, r2, vs, r3, file, tf, by rw [hbody], l, c, lc, hf, hm, lcc⟩, O, self, sup, sub, PySem.W.mg_none_of X G z, any, top⟩ i t ⟨kV, doc, pm, an, cc, .ref cda, ct, rfl⟩
abbrev BindX (qual : Str) (st : Stmt) (ps : List Str) : Prop := ∀ (kV doc pm : Value) (an : Option Addr) (cc : Addr) (cdv ct : Value) (us : List Value), us.length = ps.length →
  bindArgs (PySem.W.fnX "__init__" qual (defArgs st) (defBody st) (defScope st) [("__class__", cc)] .none kV doc pm an cdv ct) ⟨us, []⟩ = pure (ps.zip us)
theorem bindX {qual : Str} {st : Stmt} {ps : List Str} {fd : FuncData} (hb : BindX qual st ps) (e : ∃ (kV doc pm : Value) (an : Option Addr) (cc : Addr) (cdv ct : Value), fd = PySem.W.fnX "__init__" qual (defArgs st) (defBody st) (defScope st) [("__class__", cc)] .none kV doc pm an cdv ct) : Binds K fd ps [] := by
  obtain ⟨kV, doc, pm, an, cc, cdv, ct, rfl⟩ := e
  exact .all (hb kV doc pm an cc cdv ct)
theorem xm_at {C D : Addr} {b : Bool} (e : ErrC K D) (o : OexC K D) (s : PySem.W.subIn K (.ref C) (.ref D) = some b) : PySem.W.exmOne K (.ref C) (.ref D) = some b := PySem.W.exm_ref e.exC e.hd o.tyC s
theorem kit_ref {C D : Addr} {b : Bool} (e : ErrC K D) (o : OexC K D) (n : C ≠ D) (s : PySem.W.subIn K (.ref C) (.ref D) = some b) : PySem.W.kitOne K (.ref C) (.ref D) = some b := by
  unfold PySem.W.kitOne
  rw [if_neg (by intro z; exact n (by have := eq_of_beq z; cases this; rfl))]
  show (if ((PySem.W.clsIn K D).isSome && PySem.W.typeIn K (.ref D) == some (.type "type")) = true then _ else none) = _
  rw [if_pos (by rw [e.cl, o.tyC] <;> rfl)]
  exact s
theorem kit_self {C : Addr} : PySem.W.kitOne K (.ref C) (.ref C) = some true := by
  unfold PySem.W.kitOne
  rw [if_pos (by simp)]
theorem kit_VE {C : Addr} (s : PySem.W.subIn K (.ref C) (.type "ValueError") = some true) : PySem.W.kitOne K (.ref C) (.type "ValueError") = some true := by
  unfold PySem.W.kitOne
  rw [if_neg (by intro z; have := eq_of_beq z; cases this)]
  show (if PySem.W.kitMeta "ValueError" = true then _ else none) = _
  rw [if_pos (by decide +kernel)]
  exact s
theorem int_at {x : Str} {i : Int} {t : Tok} (X : K.In h) (G : h.Ns mainGlobals mg) (a : PySem.W.nsIn K mainGlobals x = some (some (.int i t))) : ∃ t, mg x = some (.int i t) := ⟨t, PySem.W.mg_of X G a⟩
theorem int_is {x : Str} {i : Int} {t : Tok} (X : K.In h) (G : h.Ns mainGlobals mg) (a : PySem.W.nsIn K mainGlobals x = some (some (.int i t))) {R : Prop} (r : (∃ t, mg x = some (.int i t)) → R) : R := r ⟨t, PySem.W.mg_of X G a⟩
theorem int_as {x : Str} {i j : Int} (e : i = j) (h : ∃ t, mg x = some (.int i t)) : ∃ t, mg x = some (.int j t) := e ▸ h
theorem law_at {l : PySem.W.OpenLaw} {k : Nat} {fa : Addr} {x y : Str} {st : Stmt} {sp : Sp} {oc kV doc pm cdv ct : Value} {f : Addr} {od an : Option Addr} {osl : Array (Option Value)} (X : K.In h) (G : h.Ns mainGlobals mg) (hfa : mg x = some (.ref fa)) (hb : BindOk x x st [y])
    (hl : K.lookup f = some ⟨oc, od, .func (PySem.W.fnOf x x (defArgs st) (defBody st) (defScope st) .none kV doc pm an cdv ct), osl⟩) (a : PySem.W.nsIn K mainGlobals x = some (some (.ref f)))
    (c : ∀ base, Cd l.prog w K mg base k x st [y] sp) :
    ∃ fd : FuncData, (∀ (s : Shared) (v : Value), BindsTo s fd ⟨[v], []⟩ [(y, v)]) ∧ ∀ base : Heap, K.In base → base.Ns mainGlobals mg → FnOk l.prog w K mg base (L2.CX l.prog w) k fa fd [y] sp := by
  have e := hfa.symm.trans (PySem.W.mg_of X G a)
  cases e
  refine ⟨_, fun s v => .of_eq (hb kV doc pm an cdv ct [v] rfl), fun base _ _ => ?_⟩
  obtain ⟨f', fd', F, Fn, hm, b⟩ := (c base).ex
  have e2 := hm.symm.trans hfa
  cases e2
  obtain ⟨oc', od', kV', doc', pm', an', cdv', ct', osl', rfl, lk, hcd⟩ := Fn.ex
  have e3 := lk.symm.trans hl
  injection e3 with e3
  injection e3 with _ _ e3 _
  injection e3 with e3
  rw [← e3]
  exact F
end
theorem walkK {l : PySem.W.OpenLaw} {n k : Nat} {q : Program} {loose : List Str} {XP : (Str → Option Value) → Heap → Prop} {YP : World → Heap → Prop} {d : DefRec} {K : Params → PySem.W.Frag} {sp : PySem.W.Frag → Sp} {x : Str}
    (hn : l.most = some n) (hn2 : n ≤ sizeLine) (hdf : d.params.defaults = []) (hr : Room k callerA) (hsp : ∀ (K : PySem.W.Frag) (H : Hp) (a : Addr) (ns : List Int), ns.length ≤ n → SqL K H a (ns.map V.int) → sp K [.ref a] H (fun v _ => v = .bl true) fun _ _ _ => False)
    (hY : ∀ (w : World) (h : Heap), YP w h → (K w.params).In h)
    (F : ∀ (w : World) (mg : Str → Option Value) (fa : Addr) (h : Heap), (K w.params).In h → h.Ns mainGlobals mg → mg d.name = some (.ref fa) →
      ∃ fd : FuncData, (∀ (s : Shared) (u : Value), BindsTo s fd ⟨[u], []⟩ [(x, u)]) ∧
        ∀ base : Heap, (K w.params).In base → base.Ns mainGlobals mg → FnOk l.prog w (K w.params) mg base (L2.CX l.prog w) k fa fd [x] (sp (K w.params))) :
    PySem.W.WalkO q loose XP YP l.row.toRowW d [] (fun f vs => PySem.call f vs) :=
  L2.walk_of (CX := fun w => L2.CX l.prog w) (sp := fun w => sp (K w.params)) hn hn2 hdf hr hY F (fun w H a ns hl _ hS => hsp _ H a ns hl hS) fun w H s e s' h => by
    obtain ⟨_, _, _, _, _, _, _, _, _, _, _, _, hE⟩ := h
    exact hE
end SI
namespace K44
/-! the arithmetic of lots: plain -/
def g (x n : Int) : Int := (Nat.gcd x.natAbs n.natAbs : Nat)
/-- a sum and a worth that some of the numbers have together -/
def Ach (n : Int) (row : List Int) (s w : Int) : Prop := ∃ l : List Int, l ≠ [] ∧ l.Sublist row ∧ l.sum = s ∧ (l.map fun x => g x n).sum = w
def Ext (n : Int) (row' row : List Int) (x : Int) : Prop := ∀ s w, Ach n row' s w ↔ (Ach n row s w ∨ (s = x ∧ w = g x n) ∨ ∃ s' w', Ach n row s' w' ∧ s = s' + x ∧ w = w' + g x n)
theorem ach_nil {n s w : Int} : ¬ Ach n [] s w := by
  rintro ⟨l, h, hl, _⟩
  exact h (List.sublist_nil.mp hl)
theorem sum_app (a b : List Int) : (a ++ b).sum = a.sum + b.sum := by simp
theorem ach_snoc (n : Int) (row : List Int) (x : Int) : Ext n (row ++ [x]) row x := by
  intro s w
  constructor
  · rintro ⟨l, h, hl, hs, hw⟩
    obtain ⟨l1, l2, rfl, h1, h2⟩ := List.sublist_append_iff.mp hl
    rcases List.sublist_cons_iff.mp h2 with h3 | ⟨r, rfl, h3⟩
    · have e : l2 = [] := List.sublist_nil.mp h3
      subst e
      simp only [List.append_nil] at h hs hw
      exact .inl ⟨l1, h, h1, hs, hw⟩
    · have e : r = [] := List.sublist_nil.mp h3
      subst e
      rw [sum_app] at hs
      rw [List.map_append, sum_app] at hw
      simp only [List.map_cons, List.map_nil, List.sum_cons, List.sum_nil, Int.add_zero] at hs hw
      by_cases e : l1 = []
      · subst e
        simp only [List.sum_nil, List.map_nil, Int.zero_add] at hs hw
        exact .inr (.inl ⟨hs.symm, hw.symm⟩)
      · exact .inr (.inr ⟨_, _, ⟨l1, e, h1, rfl, rfl⟩, hs.symm, hw.symm⟩)
  · rintro (⟨l, h, hl, hs, hw⟩ | ⟨rfl, rfl⟩ | ⟨s', w', ⟨l, h, hl, hs, hw⟩, rfl, rfl⟩)
    · exact ⟨l, h, hl.trans (List.sublist_append_left _ _), hs, hw⟩
    · exact ⟨[s], by simp, List.sublist_append_right _ _, by simp, by simp⟩
    · exact ⟨l ++ [x], by simp, hl.append (List.Sublist.refl _), by rw [sum_app, hs]; simp, by rw [List.map_append, sum_app, hw]; simp⟩
theorem ach_cons (n : Int) (row : List Int) (x : Int) : Ext n (x :: row) row x := by
  intro s w
  constructor
  · rintro ⟨l, h, hl, hs, hw⟩
    rcases List.sublist_cons_iff.mp hl with h3 | ⟨r, rfl, h3⟩
    · exact .inl ⟨l, h, h3, hs, hw⟩
    · simp only [List.map_cons, List.sum_cons] at hs hw
      by_cases e : r = []
      · subst e
        simp only [List.sum_nil, List.map_nil, Int.add_zero] at hs hw
        exact .inr (.inl ⟨hs.symm, hw.symm⟩)
      · exact .inr (.inr ⟨_, _, ⟨r, e, h3, rfl, rfl⟩, by omega, by omega⟩)
  · rintro (⟨l, h, hl, hs, hw⟩ | ⟨rfl, rfl⟩ | ⟨s', w', ⟨l, h, hl, hs, hw⟩, rfl, rfl⟩)
    · exact ⟨l, h, hl.trans (List.sublist_cons_self _ _), hs, hw⟩
    · exact ⟨[s], by simp, by simp, by simp, by simp⟩
    · exact ⟨x :: l, by simp, hl.cons₂ x, by rw [List.sum_cons, hs, Int.add_comm], by rw [List.map_cons, List.sum_cons, hw, Int.add_comm]⟩

/-! tables -/
section
variable {α : Type}
abbrev Tb (α : Type) := List (Option (Int × α))
def keep (t : Tb α) (r : Nat) (w : Int) (a : α) : Tb α := match t[r]? with
  | some (some e) => if w < e.1 then t.set r (some (w, a)) else t
  | _ => t.set r (some (w, a))
theorem keep_len (t : Tb α) (r : Nat) (w : Int) (a : α) : (keep t r w a).length = t.length := by
  unfold keep
  split
  · split <;> simp
  · simp
def Fits (t : Tb α) (P : Nat → Int → α → Prop) : Prop := ∀ r, r < t.length → (t[r]? = some none → ∀ w a, ¬ P r w a) ∧ (∀ e, t[r]? = some (some e) → P r e.1 e.2 ∧ ∀ w a, P r w a → e.1 ≤ w)
theorem fits_congr {t : Tb α} {P Q : Nat → Int → α → Prop} (h : ∀ r w a, P r w a ↔ Q r w a) (f : Fits t P) : Fits t Q := by
  intro r hr
  obtain ⟨f1, f2⟩ := f r hr
  exact ⟨fun e w a q => f1 e w a ((h r w a).mpr q), fun e he => ⟨(h _ _ _).mp (f2 e he).1, fun w a q => (f2 e he).2 w a ((h r w a).mpr q)⟩⟩
theorem fits_self (t : Tb α) : Fits t fun r w a => t[r]? = some (some (w, a)) := by
  intro r hr
  refine ⟨fun e w a q => ?_, fun e he => ⟨he, fun w a q => ?_⟩⟩
  · have q' : t[r]? = some (some (w, a)) := q
    rw [e] at q'
    cases q'
  · have q' : t[r]? = some (some (w, a)) := q
    rw [he] at q'
    cases q'
    exact Int.le_refl _
theorem fits_keep {t : Tb α} {P : Nat → Int → α → Prop} {r : Nat} {w : Int} {a : α} (hr : r < t.length) (f : Fits t P) : Fits (keep t r w a) fun r' w' a' => P r' w' a' ∨ (r' = r ∧ w' = w ∧ a' = a) := by
  intro r' hr'
  rw [keep_len] at hr'
  obtain ⟨f1, f2⟩ := f r' hr'
  by_cases e : r' = r
  · subst e
    obtain ⟨o, ho⟩ : ∃ o, t[r']? = some o := ⟨_, List.getElem?_eq_getElem hr⟩
    cases o with
    | none =>
      have ek : keep t r' w a = t.set r' (some (w, a)) := by unfold keep; rw [ho]
      rw [ek, List.getElem?_set_self hr]
      refine ⟨fun z => absurd z (by simp), fun e he => ?_⟩
      obtain rfl : (w, a) = e := by simpa using he
      refine ⟨.inr ⟨rfl, rfl, rfl⟩, fun w' a' h => ?_⟩
      rcases h with h | ⟨_, rfl, _⟩
      · exact (f1 ho _ _ h).elim
      · exact Int.le_refl _
    | some e0 =>
      by_cases hw : w < e0.1
      · have ek : keep t r' w a = t.set r' (some (w, a)) := by unfold keep; rw [ho]; simp only; rw [if_pos hw]
        rw [ek, List.getElem?_set_self hr]
        refine ⟨fun z => absurd z (by simp), fun e he => ?_⟩
        obtain rfl : (w, a) = e := by simpa using he
        refine ⟨.inr ⟨rfl, rfl, rfl⟩, fun w' a' h => ?_⟩
        rcases h with h | ⟨_, rfl, _⟩
        · have := (f2 _ ho).2 _ _ h
          show w ≤ w'
          omega
        · exact Int.le_refl _
      · have ek : keep t r' w a = t := by unfold keep; rw [ho]; simp only; rw [if_neg hw]
        rw [ek]
        refine ⟨fun z => absurd (ho.symm.trans z) (by simp), fun e he => ?_⟩
        obtain rfl : e0 = e := by have := ho.symm.trans he; simpa using this
        refine ⟨.inl (f2 _ ho).1, fun w' a' h => ?_⟩
        rcases h with h | ⟨_, rfl, _⟩
        · exact (f2 _ ho).2 _ _ h
        · omega
  · have ek : (keep t r w a)[r']? = t[r']? := by
      unfold keep
      split
      · split
        · rw [List.getElem?_set_ne (Ne.symm e)]
        · rfl
      · rw [List.getElem?_set_ne (Ne.symm e)]
    rw [ek]
    refine ⟨fun z w' a' h => ?_, fun e' he => ⟨.inl (f2 _ he).1, fun w' a' h => ?_⟩⟩
    · rcases h with h | ⟨z2, _⟩
      · exact f1 z _ _ h
      · exact e z2
    · rcases h with h | ⟨z2, _⟩
      · exact (f2 _ he).2 _ _ h
      · exact (e z2).elim
def step (n x : Int) (ext : α → α) (t wd : Tb α) (r : Nat) : Tb α := match t[r]? with
  | some (some e) => keep wd (((r : Int) + x) % n).toNat (e.1 + g x n) (ext e.2)
  | _ => wd
theorem step_len (n x : Int) (ext : α → α) (t wd : Tb α) (r : Nat) : (step n x ext t wd r).length = wd.length := by
  unfold step
  split
  · exact keep_len _ _ _ _
  · rfl
/-- the entries of t, each with x put to it -/
def steps (n x : Int) (ext : α → α) (t wd : Tb α) : Nat → Tb α
  | 0 => wd
  | k + 1 => step n x ext t (steps n x ext t wd k) k
theorem steps_len (n x : Int) (ext : α → α) (t wd : Tb α) : ∀ k, (steps n x ext t wd k).length = wd.length
  | 0 => rfl
  | k + 1 => by
    show (step n x ext t (steps n x ext t wd k) k).length = _
    rw [step_len, steps_len n x ext t wd k]
def P2 (n x : Int) (ext : α → α) (t : Tb α) (k : Nat) (r : Nat) (w : Int) (a : α) : Prop := ∃ (r0 : Nat) (e : Int × α), r0 < k ∧ t[r0]? = some (some e) ∧ r = (((r0 : Int) + x) % n).toNat ∧ w = e.1 + g x n ∧ a = ext e.2
theorem toNat_lt {n z : Int} (hn : 1 ≤ n) : (z % n).toNat < n.toNat := by
  have h0 := Int.emod_nonneg z (show n ≠ 0 by omega)
  have h1 := Int.emod_lt_of_pos z (show 0 < n by omega)
  omega
theorem fits_steps {n x : Int} {ext : α → α} {t wd : Tb α} {P : Nat → Int → α → Prop} (hn : 1 ≤ n) (hl : wd.length = n.toNat) (f : Fits wd P) : ∀ k, Fits (steps n x ext t wd k) fun r w a => P r w a ∨ P2 n x ext t k r w a
  | 0 => fits_congr (fun r w a => ⟨.inl, fun h => h.elim id fun ⟨r0, e, h, _⟩ => absurd h (Nat.not_lt_zero _)⟩) f
  | k + 1 => by
    have ih := fits_steps (x := x) (ext := ext) (t := t) hn hl f k
    show Fits (step n x ext t (steps n x ext t wd k) k) _
    cases ho : t[k]? with
    | none =>
      have es : step n x ext t (steps n x ext t wd k) k = steps n x ext t wd k := by unfold step; rw [ho]
      rw [es]
      refine fits_congr (fun r w a => ⟨fun h => h.imp id fun ⟨r0, e, h1, h2⟩ => ⟨r0, e, by omega, h2⟩, fun h => h.imp id fun ⟨r0, e, h1, h2⟩ => ⟨r0, e, ?_, h2⟩⟩) ih
      by_cases q : r0 = k
      · subst q
        rw [ho] at h2
        cases h2.1
      · omega
    | some o =>
      cases o with
      | none =>
        have es : step n x ext t (steps n x ext t wd k) k = steps n x ext t wd k := by unfold step; rw [ho]
        rw [es]
        refine fits_congr (fun r w a => ⟨fun h => h.imp id fun ⟨r0, e, h1, h2⟩ => ⟨r0, e, by omega, h2⟩, fun h => h.imp id fun ⟨r0, e, h1, h2⟩ => ⟨r0, e, ?_, h2⟩⟩) ih
        by_cases q : r0 = k
        · subst q
          rw [ho] at h2
          cases h2.1
        · omega
      | some e0 =>
        have es : step n x ext t (steps n x ext t wd k) k = keep (steps n x ext t wd k) (((k : Int) + x) % n).toNat (e0.1 + g x n) (ext e0.2) := by unfold step; rw [ho]
        rw [es]
        refine fits_congr (fun r w a => ⟨fun h => ?_, fun h => ?_⟩) (fits_keep (by rw [steps_len, hl]; exact toNat_lt hn) ih)
        · rcases h with (h | ⟨r0, e, h1, h2⟩) | ⟨rfl, rfl, rfl⟩
          · exact .inl h
          · exact .inr ⟨r0, e, by omega, h2⟩
          · exact .inr ⟨k, e0, by omega, ho, rfl, rfl, rfl⟩
        · rcases h with h | ⟨r0, e, h1, h2, h3, h4, h5⟩
          · exact .inl (.inl h)
          · by_cases q : r0 = k
            · subst q
              rw [ho] at h2
              cases h2
              exact .inr ⟨h3, h4, h5⟩
            · exact .inl (.inr ⟨r0, e, by omega, h2, h3, h4, h5⟩)
def MinTab (n : Int) (row : List Int) (t : Tb α) : Prop := t.length = n.toNat ∧ ∀ r, r < t.length → (t[r]? = some none → ∀ s w, Ach n row s w → s % n ≠ r) ∧
  (∀ e, t[r]? = some (some e) → (∃ s, Ach n row s e.1 ∧ s % n = r) ∧ ∀ s w, Ach n row s w → s % n = r → e.1 ≤ w)
theorem min_nil (n : Int) : MinTab (α := α) n [] (List.replicate n.toNat none) :=
  ⟨by simp, fun r hr => ⟨fun _ s w h => (ach_nil h).elim, fun e he => by
    rw [List.getElem?_replicate] at he
    split at he <;> cases he⟩⟩
def Pn (n x : Int) (one : α) (ext : α → α) (t : Tb α) (r : Nat) (w : Int) (a : α) : Prop := t[r]? = some (some (w, a)) ∨ (r = (x % n).toNat ∧ w = g x n ∧ a = one) ∨ P2 n x ext t n.toNat r w a
theorem min_next {n x : Int} {row row' : List Int} {t t' : Tb α} {one : α} {ext : α → α} (hn : 1 ≤ n) (hE : Ext n row' row x) (h : MinTab n row t) (hl : t'.length = n.toNat) (f : Fits t' (Pn n x one ext t)) : MinTab n row' t' := by
  obtain ⟨h1, h2⟩ := h
  -- each thing that row' reaches is met by the new entries
  have key : ∀ s w, Ach n row' s w → ∃ w' a', w' ≤ w ∧ Pn n x one ext t (s % n).toNat w' a' := by
    intro s w hs
    rcases (hE s w).mp hs with hs | ⟨rfl, rfl⟩ | ⟨s', w', hs', rfl, rfl⟩
    · have hr : (s % n).toNat < t.length := by rw [h1]; exact toNat_lt hn
      have er : (((s % n).toNat : Nat) : Int) = s % n := Int.toNat_of_nonneg (Int.emod_nonneg _ (by omega))
      cases ho : t[(s % n).toNat]? with
      | none => rw [List.getElem?_eq_getElem hr] at ho; cases ho
      | some o =>
        cases o with
        | none => exact ((h2 _ hr).1 ho s w hs er.symm).elim
        | some e => exact ⟨e.1, e.2, ((h2 _ hr).2 e ho).2 s w hs er.symm, .inl ho⟩
    · exact ⟨_, one, Int.le_refl _, .inr (.inl ⟨rfl, rfl, rfl⟩)⟩
    · have hr : (s' % n).toNat < t.length := by rw [h1]; exact toNat_lt hn
      have er : (((s' % n).toNat : Nat) : Int) = s' % n := Int.toNat_of_nonneg (Int.emod_nonneg _ (by omega))
      cases ho : t[(s' % n).toNat]? with
      | none => rw [List.getElem?_eq_getElem hr] at ho; cases ho
      | some o =>
        cases o with
        | none => exact ((h2 _ hr).1 ho s' w' hs' er.symm).elim
        | some e =>
          have := ((h2 _ hr).2 e ho).2 s' w' hs' er.symm
          refine ⟨e.1 + g x n, ext e.2, by omega, .inr (.inr ⟨(s' % n).toNat, e, toNat_lt hn, ho, ?_, rfl, rfl⟩)⟩
          rw [er, Int.emod_add_emod]
  -- each new entry is reached by row'
  have back : ∀ r w a, r < n.toNat → Pn n x one ext t r w a → ∃ s, Ach n row' s w ∧ s % n = r := by
    intro r w a hrn hp
    rcases hp with hp | ⟨rfl, rfl, rfl⟩ | ⟨r0, e, h3, h4, rfl, rfl, rfl⟩
    · obtain ⟨⟨s, hs, hr⟩, _⟩ := (h2 r (by rw [h1]; exact hrn)).2 (w, a) hp
      exact ⟨s, (hE _ _).mpr (.inl hs), hr⟩
    · exact ⟨x, (hE _ _).mpr (.inr (.inl ⟨rfl, rfl⟩)), (Int.toNat_of_nonneg (Int.emod_nonneg _ (by omega))).symm⟩
    · obtain ⟨⟨s, hs, hr⟩, _⟩ := (h2 r0 (by rw [h1]; exact h3)).2 e h4
      refine ⟨s + x, (hE _ _).mpr (.inr (.inr ⟨s, e.1, hs, rfl, rfl⟩)), ?_⟩
      rw [Int.toNat_of_nonneg (Int.emod_nonneg _ (by omega)), ← hr, Int.emod_add_emod]
  refine ⟨hl, fun r hr => ⟨fun ho s w hs hsr => ?_, fun e he => ⟨back r e.1 e.2 (by omega) ((f r hr).2 e he).1, fun s w hs hsr => ?_⟩⟩⟩
  · obtain ⟨w', a', _, hp⟩ := key s w hs
    rw [hsr, Int.toNat_natCast] at hp
    exact (f r hr).1 ho w' a' hp
  · obtain ⟨w', a', hle, hp⟩ := key s w hs
    rw [hsr, Int.toNat_natCast] at hp
    have := ((f r hr).2 e he).2 w' a' hp
    omega
end
/-- the least worth of the lots whose sum n divides -/
def IsLeast (n : Int) (row : List Int) : Option Int → Prop
  | none => ∀ s w, Ach n row s w → s % n ≠ 0
  | some w0 => (∃ s, Ach n row s w0 ∧ s % n = 0) ∧ ∀ s w, Ach n row s w → s % n = 0 → w0 ≤ w
theorem least_uniq {n : Int} {row : List Int} : ∀ {a b : Option Int}, IsLeast n row a → IsLeast n row b → a = b
  | none, none, _, _ => rfl
  | none, some w, h, ⟨⟨s, h1, h2⟩, _⟩ => (h s w h1 h2).elim
  | some w, none, ⟨⟨s, h1, h2⟩, _⟩, h => (h s w h1 h2).elim
  | some w, some v, ⟨⟨s, h1, h2⟩, h3⟩, ⟨⟨s', h4, h5⟩, h6⟩ => by
    have a := h3 _ _ h4 h5
    have b := h6 _ _ h1 h2
    rw [show w = v by omega]
theorem least_of_min {α : Type} {n : Int} {row : List Int} {t : Tb α} {o : Option (Int × α)} (hn : 1 ≤ n) (h : MinTab n row t) (ho : t[0]? = some o) : IsLeast n row (o.map (·.1)) := by
  obtain ⟨h1, h2⟩ := h
  have := h2 0 (by omega)
  cases o with
  | none => exact fun s w hs hz => this.1 ho s w hs hz
  | some e => exact this.2 e ho
end K44
namespace K44
def withN (n x : Int) (i : Nat) (t : Tb (List Nat)) : Tb (List Nat) := steps n x (· ++ [i]) t (keep t (x % n).toNat (g x n) [i]) n.toNat
def lots (n : Int) : List Int → Nat → Tb (List Nat) → Tb (List Nat)
  | [], _, t => t
  | x :: r, i, t => lots n r (i + 1) (withN n x i t)
theorem lots_snoc (n x : Int) : ∀ (r : List Int) (i : Nat) (t : Tb (List Nat)), lots n (r ++ [x]) i t = withN n x (i + r.length) (lots n r i t)
  | [], i, t => rfl
  | y :: r, i, t => by
    show lots n (r ++ [x]) (i + 1) (withN n y i t) = withN n x (i + (r.length + 1)) (lots n r (i + 1) (withN n y i t))
    rw [lots_snoc n x r (i + 1), show i + 1 + r.length = i + (r.length + 1) by omega]
theorem withN_len {n x : Int} {i : Nat} {t : Tb (List Nat)} : (withN n x i t).length = t.length := by
  unfold withN
  rw [steps_len, keep_len]
theorem withN_fits {n x : Int} {i : Nat} {t : Tb (List Nat)} (hn : 1 ≤ n) (hl : t.length = n.toNat) : Fits (withN n x i t) (Pn n x [i] (· ++ [i]) t) := by
  unfold withN
  refine fits_congr (fun r w a => ?_) (fits_steps hn (by rw [keep_len, hl]) (fits_keep (by rw [hl]; exact toNat_lt hn) (fits_self t)) n.toNat)
  show ((_ ∨ _) ∨ _) ↔ (_ ∨ _ ∨ _)
  rw [or_assoc]
def at' (row : List Int) (l : List Nat) : List Int := l.map fun i => row.getD i 0
/-- what an entry says of its lot -/
def LotOk (n : Int) (row : List Int) (i : Nat) (r : Nat) (e : Int × List Nat) : Prop := e.2 ≠ [] ∧ e.2.Pairwise (· < ·) ∧ (∀ j ∈ e.2, j < i) ∧ (at' row e.2).sum % n = r ∧ ((at' row e.2).map fun x => g x n).sum = e.1
def LotTab (n : Int) (row : List Int) (i : Nat) (t : Tb (List Nat)) : Prop := ∀ (r : Nat) e, t[r]? = some (some e) → LotOk n row i r e
theorem lot_next {n x : Int} {row : List Int} {i : Nat} {t : Tb (List Nat)} (hn : 1 ≤ n) (hl : t.length = n.toNat) (hx : row[i]? = some x) (h : LotTab n row i t) : LotTab n row (i + 1) (withN n x i t) := by
  have hd : row.getD i 0 = x := by rw [List.getD_eq_getElem?_getD, hx]; rfl
  intro r e he
  have hr : r < (withN n x i t).length := by
    rcases Nat.lt_or_ge r (withN n x i t).length with q | q
    · exact q
    · rw [List.getElem?_eq_none q] at he; cases he
  rcases ((withN_fits hn hl) r hr).2 e he |>.1 with hp | ⟨hr1, hw, ha⟩ | ⟨r0, e0, h3, h4, h5, hw, ha⟩
  · obtain ⟨a, b, c, d, f⟩ := h r (e.1, e.2) hp
    exact ⟨a, b, fun j hj => Nat.lt_succ_of_lt (c j hj), d, f⟩
  · unfold LotOk
    rw [ha, hw, hr1]
    refine ⟨by simp, by simp, fun j hj => by simp at hj; omega, ?_, ?_⟩
    · simp only [at', List.map_cons, List.map_nil, List.sum_cons, List.sum_nil, Int.add_zero, hd]
      exact (Int.toNat_of_nonneg (Int.emod_nonneg _ (by omega))).symm
    · simp only [at', List.map_cons, List.map_nil, List.sum_cons, List.sum_nil, Int.add_zero, hd]
  · obtain ⟨a, b, c, d, f⟩ := h r0 e0 h4
    unfold LotOk
    rw [ha, hw, h5]
    refine ⟨by simp, List.pairwise_append.mpr ⟨b, by simp, fun j hj y hy => by simp at hy; rw [hy]; exact c j hj⟩, fun j hj => ?_, ?_, ?_⟩
    · rcases List.mem_append.mp hj with q | q
      · exact Nat.lt_succ_of_lt (c j q)
      · simp at q; omega
    · have e1 : at' row (e0.2 ++ [i]) = at' row e0.2 ++ [x] := by simp [at', ← hd]
      rw [e1, sum_app, Int.toNat_of_nonneg (Int.emod_nonneg _ (by omega)), ← d]
      simp
    · have e1 : at' row (e0.2 ++ [i]) = at' row e0.2 ++ [x] := by simp [at', ← hd]
      rw [e1, List.map_append, sum_app, f]
      simp
/-- after i numbers -/
theorem lots_ok {n : Int} (hn : 1 ≤ n) (row : List Int) : ∀ i, i ≤ row.length → MinTab n (row.take i) (lots n (row.take i) 0 (List.replicate n.toNat none)) ∧ LotTab n row i (lots n (row.take i) 0 (List.replicate n.toNat none))
  | 0, _ => ⟨by rw [List.take_zero]; exact min_nil n, fun r e he => by
    rw [List.take_zero] at he
    have he' : (List.replicate n.toNat (none : Option (Int × List Nat)))[r]? = some (some e) := he
    rw [List.getElem?_replicate] at he'
    split at he' <;> cases he'⟩
  | i + 1, hi => by
    obtain ⟨h1, h2⟩ := lots_ok hn row i (by omega)
    have hx : row[i]? = some row[i] := List.getElem?_eq_getElem (by omega)
    have e1 : row.take (i + 1) = row.take i ++ [row[i]] := by rw [List.take_succ, hx]; rfl
    have e2 : (row.take i).length = i := by rw [List.length_take]; omega
    rw [e1, lots_snoc, e2, Nat.zero_add]
    exact ⟨min_next hn (ach_snoc n _ _) h1 (by rw [withN_len]; exact h1.1) (withN_fits hn h1.1), lot_next hn h1.1 hx h2⟩
theorem lots_len (n : Int) : ∀ (r : List Int) (i : Nat) (t : Tb (List Nat)), (lots n r i t).length = t.length
  | [], _, _ => rfl
  | x :: r, i, t => (lots_len n r (i + 1) _).trans withN_len
/-- least_lot -/
def leastLot (n : Int) (row : List Int) : Option (Int × List Nat) := ((lots n row 0 (List.replicate n.toNat none))[0]?).getD none
theorem leastLot_at {n : Int} {row : List Int} (hn : 1 ≤ n) : (lots n row 0 (List.replicate n.toNat none))[0]? = some (leastLot n row) := by
  unfold leastLot
  have h : 0 < (lots n row 0 (List.replicate n.toNat (none : Option (Int × List Nat)))).length := by rw [lots_len]; simp; omega
  rw [List.getElem?_eq_getElem h]
  rfl
theorem leastLot_ok {n : Int} {row : List Int} (hn : 1 ≤ n) : IsLeast n row ((leastLot n row).map (·.1)) ∧ ∀ e, leastLot n row = some e → LotOk n row row.length 0 e := by
  obtain ⟨h1, h2⟩ := lots_ok hn row row.length (Nat.le_refl _)
  rw [List.take_length] at h1 h2
  have h0 := leastLot_at (row := row) hn
  exact ⟨least_of_min hn h1 h0, fun e he => by rw [he] at h0; exact h2 0 e h0⟩
end K44
namespace K44
theorem incr_len {i : Nat} : ∀ (l : List Nat) (b : Nat), l.Pairwise (· < ·) → (∀ j ∈ l, b ≤ j ∧ j < i) → b ≤ i → l.length ≤ i - b
  | [], _, _, _, _ => Nat.zero_le _
  | a :: l, b, h, hb, hi => by
    obtain ⟨h1, h2⟩ := List.pairwise_cons.mp h
    have ha := hb a List.mem_cons_self
    have ih := incr_len l (a + 1) h2 (fun j hj => ⟨h1 j hj, (hb j (List.mem_cons_of_mem _ hj)).2⟩) (by omega)
    simp only [List.length_cons]
    omega
end K44
namespace K44
theorem g_dvd_l (x n : Int) : x % g x n = 0 := Int.emod_eq_zero_of_dvd (Int.gcd_dvd_left (a := x) (b := n))
theorem g_dvd_r (x n : Int) : n % g x n = 0 := Int.emod_eq_zero_of_dvd (Int.gcd_dvd_right (a := x) (b := n))
theorem g_pos {x n : Int} (hn : 1 ≤ n) : 1 ≤ g x n := by
  have h : 0 < Nat.gcd x.natAbs n.natAbs := Nat.gcd_pos_of_pos_right _ (by omega)
  unfold g
  omega
theorem g_le {x n : Int} (hn : 1 ≤ n) : g x n ≤ n := Int.le_of_dvd (by omega) (Int.dvd_of_emod_eq_zero (g_dvd_r x n))
theorem shared_is {x n d : Int} (hn : 1 ≤ n) (hd : 1 ≤ d) (h1 : n % d = 0) (h2 : x % d = 0) (h3 : ∀ d', d < d' → d' ≤ n → ¬ (n % d' = 0 ∧ x % d' = 0)) : d = g x n := by
  have a : d ∣ g x n := Int.dvd_coe_gcd (Int.dvd_of_emod_eq_zero h2) (Int.dvd_of_emod_eq_zero h1)
  have b : d ≤ g x n := Int.le_of_dvd (by have := g_pos (x := x) hn; omega) a
  by_cases e : d = g x n
  · exact e
  · exact (h3 (g x n) (by omega) (g_le hn) ⟨g_dvd_r x n, g_dvd_l x n⟩).elim
end K44
namespace K44
/-- all lots but the empty one, sum and worth -/
def grow (n x : Int) (T : List (Int × Int)) : List (Int × Int) := T ++ (x, g x n) :: T.map fun p => (p.1 + x, p.2 + g x n)
theorem grow_mem {n x : Int} {row row' : List Int} {T : List (Int × Int)} (hE : Ext n row' row x) (h : ∀ s w, (s, w) ∈ T ↔ Ach n row s w) (s w : Int) : (s, w) ∈ grow n x T ↔ Ach n row' s w := by
  rw [hE s w]
  unfold grow
  rw [List.mem_append, List.mem_cons, List.mem_map, h]
  constructor
  · rintro (h1 | h1 | ⟨⟨s', w'⟩, h1, h2⟩)
    · exact .inl h1
    · cases h1
      exact .inr (.inl ⟨rfl, rfl⟩)
    · cases h2
      exact .inr (.inr ⟨s', w', (h s' w').mp h1, rfl, rfl⟩)
  · rintro (h1 | ⟨rfl, rfl⟩ | ⟨s', w', h1, rfl, rfl⟩)
    · exact .inl h1
    · exact .inr (.inl rfl)
    · exact .inr (.inr ⟨(s', w'), (h s' w').mpr h1, rfl⟩)
def LeastOf (n : Int) (T : List (Int × Int)) : Option Int → Prop
  | none => ∀ q ∈ T, q.1 % n ≠ 0
  | some w0 => (∃ q ∈ T, q.1 % n = 0 ∧ q.2 = w0) ∧ ∀ q ∈ T, q.1 % n = 0 → w0 ≤ q.2
theorem leastOf_is {n : Int} {row : List Int} {T : List (Int × Int)} (h : ∀ s w, (s, w) ∈ T ↔ Ach n row s w) : ∀ {o : Option Int}, LeastOf n T o → IsLeast n row o
  | none, hl => fun s w hs => hl (s, w) ((h s w).mpr hs)
  | some w0, ⟨⟨⟨s, w⟩, h1, h2, h3⟩, h4⟩ => ⟨⟨s, by rw [← h3]; exact (h s w).mp h1, h2⟩, fun s' w' hs hz => h4 (s', w') ((h s' w').mpr hs) hz⟩
theorem leastOf_snoc {n s w : Int} {T : List (Int × Int)} : ∀ {o : Option Int}, LeastOf n T o → (s % n ≠ 0 → LeastOf n (T ++ [(s, w)]) o) ∧ (s % n = 0 → (∀ v, o = some v → w < v) → LeastOf n (T ++ [(s, w)]) (some w)) ∧ (s % n = 0 → ∀ v, o = some v → ¬ w < v → LeastOf n (T ++ [(s, w)]) o)
  | none, hl => by
    refine ⟨fun h q hq => ?_, fun h _ => ⟨⟨(s, w), by simp, h, rfl⟩, fun q hq hz => ?_⟩, fun _ v z => by cases z⟩
    · rcases List.mem_append.mp hq with q1 | q1
      · exact hl q q1
      · have e : q = (s, w) := by simpa using q1
        rw [e]; exact h
    · rcases List.mem_append.mp hq with q1 | q1
      · exact (hl q q1 hz).elim
      · have e : q = (s, w) := by simpa using q1
        rw [e]; exact Int.le_refl _
  | some v, ⟨⟨q0, h1, h2, h3⟩, h4⟩ => by
    refine ⟨fun h => ⟨⟨q0, by simp [h1], h2, h3⟩, fun q hq hz => ?_⟩, fun h hv => ⟨⟨(s, w), by simp, h, rfl⟩, fun q hq hz => ?_⟩, fun h v' e hv => ⟨⟨q0, by simp [h1], h2, h3⟩, fun q hq hz => ?_⟩⟩
    · rcases List.mem_append.mp hq with q1 | q1
      · exact h4 q q1 hz
      · have e : q = (s, w) := by simpa using q1
        rw [e] at hz; exact (h hz).elim
    · rcases List.mem_append.mp hq with q1 | q1
      · have := h4 q q1 hz
        have := hv v rfl
        omega
      · have e : q = (s, w) := by simpa using q1
        rw [e]; exact Int.le_refl _
    · rcases List.mem_append.mp hq with q1 | q1
      · exact h4 q q1 hz
      · have e2 : q = (s, w) := by simpa using q1
        cases e
        rw [e2]
        show v ≤ w
        omega
/-- the table of the worths alone, with the number itself kept last -/
def withW (n x : Int) (t : Tb Unit) : Tb Unit := keep (steps n x id t t n.toNat) (x % n).toNat (g x n) ()
theorem withW_len {n x : Int} {t : Tb Unit} : (withW n x t).length = t.length := by
  unfold withW
  rw [keep_len, steps_len]
theorem withW_fits {n x : Int} {t : Tb Unit} (hn : 1 ≤ n) (hl : t.length = n.toNat) : Fits (withW n x t) (Pn n x () id t) := by
  unfold withW
  refine fits_congr (fun r w a => ?_) (fits_keep (by rw [steps_len, hl]; exact toNat_lt hn) (fits_steps hn hl (fits_self t) n.toNat))
  show ((_ ∨ _) ∨ _) ↔ (_ ∨ _ ∨ _)
  rw [or_assoc]
  exact or_congr Iff.rfl or_comm
end K44
namespace K44
theorem g_one (n : Int) : g 1 n = 1 := by
  show ((Nat.gcd 1 n.natAbs : Nat) : Int) = 1
  rw [Nat.gcd_one_left]
  rfl
theorem sum_rep : ∀ m : Nat, (List.replicate m (1 : Int)).sum = m
  | 0 => rfl
  | m + 1 => by
    rw [List.replicate_succ, List.sum_cons, sum_rep m]
    omega
theorem ach_ones {n : Int} {k : Nat} {s w : Int} (h : Ach n (List.replicate k 1) s w) : 1 ≤ s ∧ s ≤ k ∧ w = s := by
  obtain ⟨l, hl, hs, h1, h2⟩ := h
  obtain ⟨m, hm, rfl⟩ := List.sublist_replicate_iff.mp hs
  rw [List.map_replicate, g_one, sum_rep] at h2
  rw [sum_rep] at h1
  have : m ≠ 0 := fun z => hl (by rw [z]; rfl)
  omega
theorem least_few {n : Int} {k : Nat} (hk : (k : Int) < n) : IsLeast n (List.replicate k 1) none := fun s w h => by
  obtain ⟨h1, h2, _⟩ := ach_ones h
  rw [Int.emod_eq_of_lt (by omega) (by omega)]
  omega
theorem least_ones {n : Int} (hn : 1 ≤ n) : IsLeast n (List.replicate n.toNat 1) (some n) := by
  refine ⟨⟨n, ⟨List.replicate n.toNat 1, ?_, List.Sublist.refl _, ?_, ?_⟩, Int.emod_self⟩, fun s w h hz => ?_⟩
  · intro z
    have := congrArg List.length z
    simp at this
    omega
  · rw [sum_rep]; omega
  · rw [List.map_replicate, g_one, sum_rep]; omega
  · obtain ⟨h1, h2, h3⟩ := ach_ones h
    have hd : n ∣ s := Int.dvd_of_emod_eq_zero hz
    have := Int.le_of_dvd (by omega) hd
    omega
theorem few_none {n : Int} {k : Nat} (hn : 1 ≤ n) (hk : (k : Int) < n) : leastLot n (List.replicate k 1) = none := by
  have h := least_uniq (leastLot_ok (row := List.replicate k 1) hn).1 (least_few hk)
  cases e : leastLot n (List.replicate k 1) with
  | none => rfl
  | some e0 => rw [e] at h; cases h
theorem ones_some {n : Int} (hn : 1 ≤ n) : (leastLot n (List.replicate n.toNat 1)).map (·.1) = some n := least_uniq (leastLot_ok hn).1 (least_ones hn)
end K44
namespace PB
/-! pebbling of a cube with prices: counts -/
def Conf : List Nat → Type
  | [] => Nat
  | _ :: ps => Conf ps × Conf ps
def add : {ps : List Nat} → Conf ps → Conf ps → Conf ps
  | [], a, b => Nat.add a b
  | _ :: _, (a, b), (c, d) => (add a c, add b d)
def mul (k : Nat) : {ps : List Nat} → Conf ps → Conf ps
  | [], a => Nat.mul k a
  | _ :: _, (a, b) => (mul k a, mul k b)
def zero : {ps : List Nat} → Conf ps
  | [] => (0 : Nat)
  | _ :: _ => (zero, zero)
def size : {ps : List Nat} → Conf ps → Nat
  | [], a => a
  | _ :: _, (a, b) => size a + size b
def grp (k : Nat) : {ps : List Nat} → Conf ps → Nat
  | [], a => Nat.div a k
  | _ :: _, (a, b) => grp k a + grp k b
def num : List Nat → Nat
  | [] => 1
  | p :: ps => p * num ps
def Reach : (ps : List Nat) → Conf ps → Nat → Prop
  | [], c, m => m ≤ (c : Nat)
  | p :: ps, (a, b), m => ∃ (t a' : Conf ps) (s u : Nat), a = add a' (mul p t) ∧ Reach ps (add b t) s ∧ Reach ps a' (p * u) ∧ m ≤ s + u
theorem add_assoc : ∀ {ps : List Nat} (a b c : Conf ps), add (add a b) c = add a (add b c)
  | [], a, b, c => Nat.add_assoc a b c
  | _ :: _, (a, a'), (b, b'), (c, c') => by show (_, _) = (_, _); rw [add_assoc a, add_assoc a']
theorem add_comm : ∀ {ps : List Nat} (a b : Conf ps), add a b = add b a
  | [], a, b => Nat.add_comm a b
  | _ :: _, (a, a'), (b, b') => by show (_, _) = (_, _); rw [add_comm a, add_comm a']
theorem add_zero : ∀ {ps : List Nat} (a : Conf ps), add a zero = a
  | [], a => rfl
  | _ :: _, (a, a') => by show (_, _) = (_, _); rw [add_zero a, add_zero a']
theorem mul_add (k : Nat) : ∀ {ps : List Nat} (a b : Conf ps), mul k (add a b) = add (mul k a) (mul k b)
  | [], a, b => Nat.mul_add k a b
  | _ :: _, (a, a'), (b, b') => by show (_, _) = (_, _); rw [mul_add k a, mul_add k a']
theorem mul_zero (k : Nat) : ∀ {ps : List Nat}, mul k (zero : Conf ps) = zero
  | [] => rfl
  | p :: ps => by show (_, _) = (_, _); rw [mul_zero k (ps := ps)]
theorem mul_mul (k j : Nat) : ∀ {ps : List Nat} (a : Conf ps), mul k (mul j a) = mul (k * j) a
  | [], a => (Nat.mul_assoc k j a).symm
  | _ :: _, (a, a') => by show (_, _) = (_, _); rw [mul_mul k j a, mul_mul k j a']
theorem size_add : ∀ {ps : List Nat} (a b : Conf ps), size (add a b) = size a + size b
  | [], a, b => rfl
  | _ :: _, (a, a'), (b, b') => by
    show size (add a b) + size (add a' b') = (size a + size a') + (size b + size b')
    rw [size_add, size_add]; omega
theorem size_mul (k : Nat) : ∀ {ps : List Nat} (a : Conf ps), size (mul k a) = k * size a
  | [], a => rfl
  | _ :: _, (a, a') => by
    show size (mul k a) + size (mul k a') = k * (size a + size a')
    rw [size_mul, size_mul, Nat.mul_add]
theorem size_zero : ∀ {ps : List Nat}, size (zero : Conf ps) = 0
  | [] => rfl
  | p :: ps => by show size (zero : Conf ps) + size (zero : Conf ps) = 0; rw [size_zero]
theorem size_null : ∀ {ps : List Nat} (a : Conf ps), size a = 0 → a = zero
  | [], a, h => h
  | _ :: _, (a, a'), h => by
    have h' : size a + size a' = 0 := h
    show (_, _) = (_, _)
    rw [size_null a (by omega), size_null a' (by omega)]
theorem pickN {k : Nat} (hk : 0 < k) (c w : Nat) (h : w ≤ c / k) : ∃ t r : Nat, c = r + k * t ∧ t = w := by
  have h2 : k * w ≤ c := Nat.le_trans (Nat.mul_le_mul_left k h) (Nat.mul_div_le c k)
  exact ⟨w, c - k * w, by omega, rfl⟩
/-- w groups of k -/
theorem pick {k : Nat} (hk : 0 < k) : ∀ {ps : List Nat} (c : Conf ps) (w : Nat), w ≤ grp k c → ∃ t r : Conf ps, c = add r (mul k t) ∧ size t = w
  | [], c, w, h => pickN hk c w h
  | _ :: _, (a, b), w, h => by
    have h' : w ≤ grp k a + grp k b := h
    by_cases q : w ≤ grp k a
    · obtain ⟨t, r, e, hs⟩ := pick hk a w q
      obtain ⟨t2, r2, e2, hs2⟩ := pick hk b 0 (Nat.zero_le _)
      refine ⟨(t, t2), (r, r2), ?_, ?_⟩
      · show (a, b) = (add r (mul k t), add r2 (mul k t2))
        rw [← e, ← e2]
      · show size t + size t2 = w
        omega
    · obtain ⟨t, r, e, hs⟩ := pick hk a (grp k a) (Nat.le_refl _)
      obtain ⟨t2, r2, e2, hs2⟩ := pick hk b (w - grp k a) (by omega)
      refine ⟨(t, t2), (r, r2), ?_, ?_⟩
      · show (a, b) = (add r (mul k t), add r2 (mul k t2))
        rw [← e, ← e2]
      · show size t + size t2 = w
        omega
theorem grp_one : ∀ {ps : List Nat} (c : Conf ps), grp 1 c = size c
  | [], c => Nat.div_one c
  | _ :: _, (a, b) => by show grp 1 a + grp 1 b = size a + size b; rw [grp_one, grp_one]
theorem mul_one' : ∀ {ps : List Nat} (c : Conf ps), mul 1 c = c
  | [], c => Nat.one_mul c
  | _ :: _, (a, b) => by show (_, _) = (_, _); rw [mul_one' a, mul_one' b]
theorem pick1 {ps : List Nat} (c : Conf ps) (w : Nat) (h : w ≤ size c) : ∃ t r : Conf ps, c = add r t ∧ size t = w := by
  obtain ⟨t, r, e, hs⟩ := pick (k := 1) (by decide) c w (by rw [grp_one]; exact h)
  exact ⟨t, r, by rw [mul_one'] at e; exact e, hs⟩
/-- groups behind a multiple of q -/
theorem grp_add_mul {q : Nat} (hq : 0 < q) : ∀ {ps : List Nat} (r t : Conf ps), grp q (add r (mul q t)) = grp q r + size t
  | [], r, t => Nat.add_mul_div_left r t hq
  | _ :: _, (r, r'), (t, t') => by
    show grp q (add r (mul q t)) + grp q (add r' (mul q t')) = (grp q r + grp q r') + (size t + size t')
    rw [grp_add_mul hq, grp_add_mul hq]; omega
theorem div_add_le (a b q : Nat) : a / q + b / q ≤ (a + b) / q := by
  rcases Nat.eq_zero_or_pos q with h | h
  · subst h; simp
  · rw [Nat.le_div_iff_mul_le h, Nat.add_mul]
    have := Nat.div_mul_le_self a q
    have := Nat.div_mul_le_self b q
    omega
theorem grp_add (q : Nat) : ∀ {ps : List Nat} (a b : Conf ps), grp q a + grp q b ≤ grp q (add a b)
  | [], a, b => div_add_le a b q
  | _ :: _, (a, a'), (b, b') => by
    show (grp q a + grp q a') + (grp q b + grp q b') ≤ grp q (add a b) + grp q (add a' b')
    have := grp_add q a b
    have := grp_add q a' b'
    omega
theorem div_mul_ge (p q t : Nat) : p / q * t ≤ p * t / q := by
  rcases Nat.eq_zero_or_pos q with h | h
  · subst h; simp
  · rw [Nat.le_div_iff_mul_le h, Nat.mul_right_comm]
    exact Nat.mul_le_mul_right t (Nat.div_mul_le_self p q)
theorem grp_mul_ge (p q : Nat) : ∀ {ps : List Nat} (t : Conf ps), p / q * size t ≤ grp q (mul p t)
  | [], t => div_mul_ge p q t
  | _ :: _, (t, t') => by
    show p / q * (size t + size t') ≤ grp q (mul p t) + grp q (mul p t')
    rw [Nat.mul_add]
    have := grp_mul_ge p q t
    have := grp_mul_ge p q t'
    omega
theorem grp_size (q : Nat) : ∀ {ps : List Nat} (c : Conf ps), grp q c ≤ size c
  | [], c => Nat.div_le_self c q
  | _ :: _, (a, b) => by
    have := grp_size q a
    have := grp_size q b
    show grp q a + grp q b ≤ size a + size b
    omega
theorem restN {k : Nat} (hk : 0 < k) (c : Nat) : c ≤ k * (c / k) + (k - 1) * 1 := by
  have := Nat.div_add_mod c k
  have := Nat.mod_lt c hk
  omega
/-- what is left of groups of k -/
theorem grp_rest {k : Nat} (hk : 0 < k) : ∀ {ps : List Nat} (c : Conf ps), size c ≤ k * grp k c + (k - 1) * 2 ^ ps.length
  | [], c => restN hk c
  | p :: ps, (a, b) => by
    have h1 := grp_rest hk a
    have h2 := grp_rest hk b
    show size a + size b ≤ k * (grp k a + grp k b) + (k - 1) * 2 ^ (ps.length + 1)
    rw [Nat.pow_succ, ← Nat.mul_assoc, Nat.mul_two, Nat.mul_add]
    omega
theorem leaf_fold {p q a : Nat} (hp : 0 < p) (hq : 0 < q) : a ≤ a / q + (p - p / q) * (a / p) + ((p - 1) - (p - 1) / q) := by
  have e := Nat.div_add_mod a p
  have hr := Nat.mod_lt a hp
  generalize a / p = g at e ⊢
  generalize a % p = r at e hr
  -- a / q ≥ g (p / q) + r / q
  have h1 : p / q * g + r / q ≤ a / q := by
    rw [← e]
    exact Nat.le_trans (Nat.add_le_add_right (div_mul_ge p q g) _) (div_add_le _ _ _)
  have h2 : r ≤ r / q + ((p - 1) - (p - 1) / q) := by
    have e1 : p - 1 = r + (p - 1 - r) := by omega
    have h3 : (p - 1) / q ≤ r / q + (p - 1 - r) := by
      rw [Nat.div_le_iff_le_mul_add_pred hq]
      have := Nat.div_add_mod r q
      have := Nat.mod_lt r hq
      have h4 : p - 1 - r ≤ q * (p - 1 - r) := Nat.le_mul_of_pos_left _ hq
      rw [Nat.mul_add]
      omega
    have h5 : (p - 1) / q ≤ p - 1 := Nat.div_le_self _ _
    omega
  have h6 : p / q ≤ p := Nat.div_le_self _ _
  have h7 : (p - p / q) * g = p * g - p / q * g := Nat.sub_mul _ _ _
  have h8 : p / q * g ≤ p * g := Nat.mul_le_mul_right g h6
  omega
theorem fold_le {p q : Nat} (hp : 0 < p) (hq : 0 < q) : ∀ {ps : List Nat} (c : Conf ps), size c ≤ grp q c + (p - p / q) * grp p c + ((p - 1) - (p - 1) / q) * 2 ^ ps.length
  | [], c => by
    have := leaf_fold (a := c) hp hq
    rw [← Nat.mul_one (p - 1 - (p - 1) / q)] at this
    exact this
  | _ :: ps, (a, b) => by
    have h1 := fold_le hp hq a
    have h2 := fold_le hp hq b
    show size a + size b ≤ (grp q a + grp q b) + (p - p / q) * (grp p a + grp p b) + ((p - 1) - (p - 1) / q) * 2 ^ (ps.length + 1)
    rw [Nat.pow_succ, ← Nat.mul_assoc, Nat.mul_two, Nat.mul_add]
    omega
theorem upN {p q : Nat} (hq : 0 < q) (r t : Nat) : (r + p * t) / q ≤ r / q + (p / q + 1) * t := by
  rcases Nat.eq_zero_or_pos t with h | h
  · subst h; simp
  · rw [Nat.div_le_iff_le_mul_add_pred hq]
    have e1 := Nat.div_add_mod r q
    have e2 := Nat.mod_lt r hq
    have e3 := Nat.div_add_mod p q
    have e4 := Nat.mod_lt p hq
    have e5 : p * t ≤ q * ((p / q + 1) * t) := by
      rw [← Nat.mul_assoc]
      refine Nat.mul_le_mul_right t ?_
      rw [Nat.mul_add]
      omega
    rw [Nat.mul_add]
    omega
/-- groups with some put to it: at most one more each -/
theorem grp_up {p q : Nat} (hq : 0 < q) : ∀ {ps : List Nat} (r t : Conf ps), grp q (add r (mul p t)) ≤ grp q r + (p / q + 1) * size t
  | [], r, t => upN hq r t
  | _ :: _, (r, r'), (t, t') => by
    show grp q (add r (mul p t)) + grp q (add r' (mul p t')) ≤ (grp q r + grp q r') + (p / q + 1) * (size t + size t')
    have h1 := grp_up (p := p) hq r t
    have h2 := grp_up (p := p) hq r' t'
    rw [Nat.mul_add]
    omega
theorem reach_mono : ∀ {ps : List Nat} {c : Conf ps} {m k : Nat}, Reach ps c m → k ≤ m → Reach ps c k
  | [], _, _, _, h, hk => Nat.le_trans hk h
  | _ :: _, (_, _), _, _, ⟨t, a', s, u, h1, h2, h3, h4⟩, hk => ⟨t, a', s, u, h1, h2, h3, Nat.le_trans hk h4⟩
theorem reach_zero : ∀ {ps : List Nat} (c : Conf ps), Reach ps c 0
  | [], c => Nat.zero_le _
  | p :: _, (a, b) => ⟨zero, a, 0, 0, by rw [mul_zero, add_zero], reach_zero _, reach_zero _, Nat.le_refl _⟩
theorem add_swap {ps : List Nat} (a b c d : Conf ps) : add (add a b) (add c d) = add (add a c) (add b d) := by
  rw [add_assoc, add_assoc, ← add_assoc b, add_comm b c, add_assoc c]
theorem reach_add : ∀ {ps : List Nat} {c d : Conf ps} {m k : Nat}, Reach ps c m → Reach ps d k → Reach ps (add c d) (m + k)
  | [], c, d, m, k, h1, h2 => Nat.add_le_add h1 h2
  | p :: ps, (a, b), (c, d), m, k, ⟨t, a', s, u, h1, h2, h3, h4⟩, ⟨t', c', s', u', k1, k2, k3, k4⟩ => by
    refine ⟨add t t', add a' c', s + s', u + u', ?_, ?_, ?_, by omega⟩
    · rw [h1, k1, mul_add, add_swap]
    · rw [add_swap]
      exact reach_add h2 k2
    · rw [Nat.mul_add]
      exact reach_add h3 k3
theorem num_pos : ∀ {ps : List Nat}, (∀ p ∈ ps, 2 ≤ p) → 0 < num ps
  | [], _ => Nat.one_pos
  | p :: ps, h => Nat.mul_pos (by have := h p List.mem_cons_self; omega) (num_pos fun x hx => h x (List.mem_cons_of_mem _ hx))
theorem two_num : ∀ {ps : List Nat}, (∀ p ∈ ps, 2 ≤ p) → 2 ^ ps.length ≤ num ps
  | [], _ => Nat.le_refl _
  | p :: ps, h => by
    have h1 := two_num fun x hx => h x (List.mem_cons_of_mem p hx)
    have h2 := h p List.mem_cons_self
    show 2 ^ (ps.length + 1) ≤ p * num ps
    rw [Nat.pow_succ, Nat.mul_comm]
    exact Nat.mul_le_mul h2 h1
end PB
namespace PB
theorem stock {ps : List Nat} {q M N : Nat} (hq : 2 ≤ q) (hV : 2 ^ ps.length ≤ N) (c : Conf ps) (h : (q - 1) * N + ((q - 1) * (M / q) + M % q) + grp q c < size c) :
    ∃ st r : Conf ps, c = add r st ∧ size st = M ∧ (q - 1) * N + grp q r < size r := by
  have hm : ∀ x, (q - 1) * x + x = q * x := fun x => by rw [← Nat.succ_mul]; congr 1; omega
  have hM := Nat.div_add_mod M q
  have h1 := grp_rest (k := q) (by omega) c
  have h2 : (q - 1) * 2 ^ ps.length ≤ (q - 1) * N := Nat.mul_le_mul_left _ hV
  have hg : M / q < grp q c := by
    rcases Nat.lt_or_ge (M / q) (grp q c) with x | x
    · exact x
    · have := Nat.mul_le_mul_left (q - 1) x
      have := hm (grp q c)
      omega
  obtain ⟨t1, r1, e1, hs1⟩ := pick (k := q) (by omega) c (M / q) (Nat.le_of_lt hg)
  have g1 : grp q c = grp q r1 + M / q := by rw [e1, grp_add_mul (by omega), hs1]
  have z1 : size c = size r1 + q * (M / q) := by rw [e1, size_add, size_mul, hs1]
  have hm1 := hm (M / q)
  obtain ⟨t2, r, e2, hs2⟩ := pick1 r1 (M % q) (by omega)
  refine ⟨add t2 (mul q t1), r, by rw [e1, e2, add_assoc], by rw [size_add, size_mul, hs1, hs2]; omega, ?_⟩
  have g2 : grp q r ≤ grp q r1 := by
    rw [e2]
    have := grp_add q r t2
    omega
  have z2 : size r1 = size r + M % q := by rw [e2, size_add, hs2]
  omega
theorem grp_anti {p q : Nat} (hq : 0 < q) (h : q ≤ p) : ∀ {ps : List Nat} (c : Conf ps), grp p c ≤ grp q c
  | [], c => Nat.div_le_div_left h hq
  | _ :: _, (a, b) => Nat.add_le_add (grp_anti hq h a) (grp_anti hq h b)
theorem qV {q : Nat} (hq : 2 ≤ q) : ∀ {ps : List Nat}, (∀ p ∈ ps, q + 1 ≤ p) → ps ≠ [] → q * 2 ^ ps.length ≤ (q - 1) * num ps + 1
  | [], _, h => absurd rfl h
  | [p], h, _ => by
    have hp := h p List.mem_cons_self
    show q * 2 ≤ (q - 1) * (p * 1) + 1
    rw [Nat.mul_one]
    obtain ⟨k, rfl⟩ : ∃ k, q = k + 2 := ⟨q - 2, by omega⟩
    have h2 : (k + 2 - 1) * (k + 3) ≤ (k + 2 - 1) * p := Nat.mul_le_mul_left _ (by omega)
    have h3 : (k + 2 - 1) * (k + 3) = k * k + 3 * k + k + 3 := by
      show (k + 1) * (k + 3) = _
      rw [Nat.mul_add, Nat.add_mul]; omega
    omega
  | p :: p' :: ps, h, _ => by
    have hp := h p List.mem_cons_self
    have ih := qV hq (ps := p' :: ps) (fun x hx => h x (List.mem_cons_of_mem _ hx)) (by simp)
    show q * 2 ^ ((p' :: ps).length + 1) ≤ (q - 1) * (p * num (p' :: ps)) + 1
    have hX : 0 < num (p' :: ps) := num_pos fun x hx => by have := h x (List.mem_cons_of_mem _ hx); omega
    generalize num (p' :: ps) = X at ih hX ⊢
    rw [Nat.pow_succ, ← Nat.mul_assoc]
    have h1 : 3 * X ≤ p * X := Nat.mul_le_mul_right X (by omega)
    have h2 : (q - 1) * (3 * X) ≤ (q - 1) * (p * X) := Nat.mul_le_mul_left _ h1
    have h3 : (q - 1) * (3 * X) = 3 * ((q - 1) * X) := Nat.mul_left_comm _ _ _
    have h4 : 1 * 1 ≤ (q - 1) * X := Nat.mul_le_mul (by omega) hX
    omega
/-- D + x + s <= (q - 1) p + 1 -/
theorem arith1 {p q s : Nat} (hq : 2 ≤ q) (hp : q ≤ p) (hs : s ≤ q - 1) : (p - p / q) + ((p - 1) - (p - 1) / q) + s ≤ (q - 1) * p + 1 := by
  by_cases e : q = 2
  · subst e
    omega
  · have h1 : 1 ≤ p / q := by rw [Nat.le_div_iff_mul_le (by omega)]; omega
    by_cases e3 : q = 3
    · subst e3
      omega
    · have h2 : 3 * p ≤ (q - 1) * p := Nat.mul_le_mul_right p (by omega)
      generalize (p - 1) / q = y
      generalize p / q = y0 at h1 ⊢
      omega
theorem arith2 {p q : Nat} (hq : 2 ≤ q) (hp : q ≤ p) : q ≤ (q - 1) * p := by
  have := Nat.mul_le_mul_right p (show 1 ≤ q - 1 by omega)
  omega
theorem arith3 {p q : Nat} (hq : 2 ≤ q) (hp : q ≤ p) : p % q + q ≤ (q - 1) * p := by
  have hf := Nat.mod_lt p (show 0 < q by omega)
  by_cases e : p = q
  · subst e
    rw [Nat.mod_self]
    have := arith2 hq hp
    omega
  · obtain ⟨k, rfl⟩ : ∃ k, q = k + 2 := ⟨q - 2, by omega⟩
    have h1 : (k + 2 - 1) * (k + 3) ≤ (k + 2 - 1) * p := Nat.mul_le_mul_left _ (by omega)
    have h3 : (k + 2 - 1) * (k + 3) = k * k + 3 * k + k + 3 := by
      show (k + 1) * (k + 3) = _
      rw [Nat.mul_add, Nat.add_mul]; omega
    omega
theorem arith4 {p q f z : Nat} (hq : 2 ≤ q) (hp : q + 1 ≤ p) (hf : 1 ≤ f) (hf2 : f < q) (hz : z ≤ q - 1) : (q - f) * z + q ≤ (q - 1) * p := by
  have h1 : (q - f) * z ≤ (q - 1) * (q - 1) := Nat.mul_le_mul (by omega) hz
  have h2 : (q - 1) * (q + 1) ≤ (q - 1) * p := Nat.mul_le_mul_left _ hp
  obtain ⟨k, rfl⟩ : ∃ k, q = k + 2 := ⟨q - 2, by omega⟩
  have h3 : (k + 2 - 1) * (k + 2 - 1) = k * k + k + k + 1 := by
    show (k + 1) * (k + 1) = _
    rw [Nat.mul_add, Nat.add_mul]; omega
  have h4 : (k + 2 - 1) * (k + 2 + 1) = k * k + 3 * k + k + 3 := by
    show (k + 1) * (k + 3) = _
    rw [Nat.mul_add, Nat.add_mul]; omega
  omega
end PB
namespace PB
/-- the direct moves of fold: any groups of p -/
theorem direct1 {ps : List Nat} {p q s w N : Nat} (hq : 2 ≤ q) (hp : q ≤ p) (hV : 2 ^ ps.length ≤ N) (hs : s ≤ q - 1) (hw1 : 1 ≤ w) (hwN : w ≤ N) (a : Conf ps) {β : Nat} (hβ : β + w = s * N) (hs2 : p % q = 0 ∨ 2 ≤ s)
    (h : (q - 1) * (p * N) + grp q a < size a + β) :
    ∃ (t a' : Conf ps) (L : Nat), a = add a' (mul p t) ∧ size t = w ∧ q * size a + q * grp q a' ≤ q * size a' + q * grp q a + L ∧ L + q * (s * N) ≤ s * ((q - 1) * (p * N)) + q * w := by
  have hDp : p / q ≤ p := Nat.div_le_self p q
  -- availability
  have hav : w ≤ grp p a := by
    rcases Nat.lt_or_ge (grp p a) w with x | x
    · exfalso
      have f := fold_le (p := p) (q := q) (by omega) (by omega) a
      have ar := arith1 hq hp hs
      have hD1 : 1 ≤ p - p / q := by
        have : p / q < p := Nat.div_lt_self (by omega) (by omega)
        omega
      generalize p - p / q = D at f ar hD1
      generalize (p - 1) - (p - 1) / q = x at f ar
      have f1 : D * grp p a + D ≤ D * w := by
        have := Nat.mul_le_mul_left D (show grp p a + 1 ≤ w by omega)
        rw [Nat.mul_add] at this
        omega
      have f2 : x * 2 ^ ps.length ≤ x * N := Nat.mul_le_mul_left x hV
      have f3 : (D + x + s) * N ≤ ((q - 1) * p + 1) * N := Nat.mul_le_mul_right N ar
      have f4 : (D + x + s) * N = D * N + x * N + s * N := by rw [Nat.add_mul, Nat.add_mul]
      have f5 : ((q - 1) * p + 1) * N = (q - 1) * (p * N) + N := by rw [Nat.add_mul, Nat.mul_assoc, Nat.one_mul]
      -- (D - 1) w <= (D - 1) N
      have f6 : (D - 1) * w ≤ (D - 1) * N := Nat.mul_le_mul_left _ hwN
      have f7 : (D - 1) * w + w = D * w := by rw [← Nat.succ_mul]; congr 1; omega
      have f8 : (D - 1) * N + N = D * N := by rw [← Nat.succ_mul]; congr 1; omega
      omega
    · exact x
  obtain ⟨t, a', e, hst⟩ := pick (k := p) (by omega) a w hav
  refine ⟨t, a', ((q - 1) * p + p % q) * w, e, hst, ?_, ?_⟩
  · have z : size a = size a' + p * w := by rw [e, size_add, size_mul, hst]
    have g1 := grp_add q a' (mul p t)
    have g2 := grp_mul_ge p q t
    rw [← e] at g1
    rw [hst] at g2
    -- q (p w) <= q ((p / q) w) + ((q - 1) p + f) w
    have hdm := Nat.div_add_mod p q
    have k1 : q * (p * w) = (q * p) * w := (Nat.mul_assoc _ _ _).symm
    have k2 : q * (p / q * w) = (q * (p / q)) * w := (Nat.mul_assoc _ _ _).symm
    have k3 : (q * (p / q)) * w + ((q - 1) * p + p % q) * w = (q * (p / q) + ((q - 1) * p + p % q)) * w := (Nat.add_mul _ _ _).symm
    have k4 : q * (p / q) + ((q - 1) * p + p % q) = q * p := by
      have : (q - 1) * p + p = q * p := by rw [← Nat.succ_mul]; congr 1; omega
      omega
    have k5 : q * (grp q a' + p / q * w) ≤ q * grp q a := Nat.mul_le_mul_left q (by omega)
    rw [z, Nat.mul_add, k1]
    rw [Nat.mul_add, k2] at k5
    rw [k4] at k3
    omega
  · -- f w + q beta <= (q - 1) p beta
    have key : p % q * w + q * β ≤ ((q - 1) * p) * β := by
      rcases hs2 with hf | h2
      · rw [hf, Nat.zero_mul, Nat.zero_add]
        exact Nat.mul_le_mul_right β (arith2 hq hp)
      · have hNb : w ≤ β := by
          have := Nat.mul_le_mul_right N h2
          omega
        have h3 : p % q * w ≤ p % q * β := Nat.mul_le_mul_left _ hNb
        have h4 : (p % q + q) * β ≤ ((q - 1) * p) * β := Nat.mul_le_mul_right β (arith3 hq hp)
        rw [Nat.add_mul] at h4
        omega
    have e1 : s * ((q - 1) * (p * N)) = ((q - 1) * p) * (s * N) := by rw [← Nat.mul_assoc (q - 1), Nat.mul_left_comm]
    have e2 : ((q - 1) * p) * (β + w) = ((q - 1) * p) * β + ((q - 1) * p) * w := Nat.mul_add _ _ _
    have e3 : q * (β + w) = q * β + q * w := Nat.mul_add _ _ _
    rw [e1, ← hβ, e2, e3, Nat.add_mul]
    omega
/-- .. out of batches of p q -/
theorem direct2 {ps : List Nat} {p q w N : Nat} (hq : 2 ≤ q) (hp : q + 1 ≤ p) (hf : 1 ≤ p % q) (hV : q * 2 ^ ps.length ≤ (q - 1) * N + 1) (hw1 : 1 ≤ w) (a : Conf ps) {β : Nat} (hb1 : 1 ≤ β) (hβ : β + w = N)
    (h : (q - 1) * (p * N) + grp q a < size a + β) :
    ∃ (t a' : Conf ps) (L : Nat), a = add a' (mul p t) ∧ size t = w ∧ q * size a + q * grp q a' ≤ q * size a' + q * grp q a + L ∧ L + q * (1 * N) ≤ 1 * ((q - 1) * (p * N)) + q * w := by
  have hq0 : 0 < q := by omega
  have hpq : 0 < p * q := Nat.mul_pos (by omega) hq0
  obtain ⟨b, z, hbz, hz⟩ : ∃ b z, q * b = w + z ∧ z ≤ q - 1 := by
    refine ⟨(w + q - 1) / q, q * ((w + q - 1) / q) - w, ?_, ?_⟩
    · have := Nat.div_add_mod (w + q - 1) q
      have := Nat.mod_lt (w + q - 1) hq0
      omega
    · have := Nat.mul_div_le (w + q - 1) q
      omega
  have e1 : p * q / q = p := Nat.mul_div_cancel p hq0
  have e2 : (p * q - 1) / q = p - 1 := by
    obtain ⟨k, rfl⟩ : ∃ k, p = k + 1 := ⟨p - 1, by omega⟩
    rw [Nat.div_eq_iff hq0, Nat.add_mul]
    have : (k + 1 - 1) * q = k * q := by rw [Nat.add_sub_cancel]
    omega
  have hqp : (q - 1) * p + p = p * q := by
    have : (q - 1) * p + p = q * p := by rw [← Nat.succ_mul]; congr 1; omega
    rw [this, Nat.mul_comm]
  have hav : b ≤ grp (p * q) a := by
    rcases Nat.lt_or_ge (grp (p * q) a) b with x | x
    · exfalso
      have f := fold_le (p := p * q) (q := q) hpq hq0 a
      rw [e1, e2] at f
      have e3 : p * q - p = (q - 1) * p := by omega
      have e4 : p * q - 1 - (p - 1) = (q - 1) * p := by omega
      rw [e3, e4] at f
      have hZ := arith2 hq (show q ≤ p by omega)
      have e5 : (q - 1) * (p * N) = ((q - 1) * p) * N := (Nat.mul_assoc _ _ _).symm
      rw [e5] at h
      generalize (q - 1) * p = Z at f hZ h
      generalize grp (p * q) a = B at f x
      generalize 2 ^ ps.length = V at f hV
      -- Z N < Z B + Z V + beta
      have h1 : Z * N < Z * B + Z * V + β := by omega
      have h2 : q * (Z * N) + q ≤ q * (Z * B + Z * V + β) := by
        have := Nat.mul_le_mul_left q (show Z * N + 1 ≤ Z * B + Z * V + β by omega)
        rw [Nat.mul_add] at this
        omega
      have h3 : q * (Z * B + Z * V + β) = Z * (q * B + q * V) + q * β := by
        rw [Nat.mul_add, Nat.mul_add, Nat.mul_left_comm, Nat.mul_left_comm q Z V, Nat.mul_add]
      have h4 : q * B + q ≤ w + z := by
        have := Nat.mul_le_mul_left q (show B + 1 ≤ b by omega)
        rw [Nat.mul_add] at this
        omega
      have h5 : Z * (q * B + q * V) ≤ Z * (w + (q - 1) * N) := Nat.mul_le_mul_left Z (by omega)
      have h6 : q * (Z * N) = Z * N + (q - 1) * (Z * N) := by
        have : (q - 1) * (Z * N) + Z * N = q * (Z * N) := by rw [← Nat.succ_mul]; congr 1; omega
        omega
      have h7 : Z * (w + (q - 1) * N) = Z * w + (q - 1) * (Z * N) := by rw [Nat.mul_add, Nat.mul_left_comm]
      have h8 : Z * N = Z * β + Z * w := by rw [← hβ, Nat.mul_add]
      have h9 : q * β ≤ Z * β := Nat.mul_le_mul_right β hZ
      omega
    · exact x
  obtain ⟨t', r', e, hst'⟩ := pick hpq a b hav
  have hs1 : size (mul q t') = w + z := by rw [size_mul, hst', hbz]
  obtain ⟨t, t3, e3, hst⟩ := pick1 (mul q t') w (by omega)
  have hs3 : size t3 = z := by
    have := hs1
    rw [e3, size_add] at this
    omega
  have emm : mul (p * q) t' = mul p (mul q t') := (mul_mul p q t').symm
  have emm2 : mul (p * q) t' = mul q (mul p t') := by rw [mul_mul, Nat.mul_comm]
  refine ⟨t, add r' (mul p t3), (q - 1) * p * w + (q - p % q) * z, ?_, hst, ?_, ?_⟩
  · rw [e, emm, e3, mul_add, add_assoc]
  · have za : size a = size (add r' (mul p t3)) + p * w := by
      rw [e, emm, e3, mul_add, ← add_assoc, size_add, size_mul p t, hst]
    have ga : grp q a = grp q r' + p * b := by rw [e, emm2, grp_add_mul hq0, size_mul, hst']
    have gu := grp_up (p := p) hq0 r' t3
    rw [hs3] at gu
    generalize size (add r' (mul p t3)) = S at za ⊢
    generalize grp q (add r' (mul p t3)) = G at gu ⊢
    rw [za, ga, Nat.mul_add, Nat.mul_add]
    have k1 : q * G ≤ q * grp q r' + q * ((p / q + 1) * z) := by
      have := Nat.mul_le_mul_left q gu
      rw [Nat.mul_add] at this
      exact this
    have hdm := Nat.div_add_mod p q
    have hmf := Nat.mod_lt p hq0
    have k3 : q * ((p / q + 1) * z) + p % q * z = (p + q) * z := by
      rw [← Nat.mul_assoc, ← Nat.add_mul]
      congr 1
      rw [Nat.mul_add]
      omega
    have k4 : (q - p % q) * z + p % q * z = q * z := by
      rw [← Nat.add_mul]
      congr 1
      omega
    have k5 : (p + q) * z = p * z + q * z := Nat.add_mul _ _ _
    have k6 : q * (p * b) = p * w + p * z := by rw [Nat.mul_left_comm, hbz, Nat.mul_add]
    have k7 : q * (p * w) = (q - 1) * p * w + p * w := by
      rw [← Nat.add_mul, hqp, Nat.mul_comm p q, Nat.mul_assoc]
    omega
  · have hmf := Nat.mod_lt p hq0
    have ar := arith4 (p := p) hq hp hf hmf hz
    have h1 : ((q - p % q) * z + q) * β ≤ ((q - 1) * p) * β := Nat.mul_le_mul_right β ar
    have h2 : (q - p % q) * z * 1 ≤ (q - p % q) * z * β := Nat.mul_le_mul_left _ hb1
    rw [Nat.add_mul] at h1
    have e5 : (q - 1) * (p * N) = ((q - 1) * p) * β + ((q - 1) * p) * w := by rw [← Nat.mul_assoc, ← hβ, Nat.mul_add]
    have e6 : q * N = q * β + q * w := by rw [← hβ, Nat.mul_add]
    rw [show 1 * N = N from Nat.one_mul N, e5, Nat.one_mul, e6]
    omega
end PB
namespace PB
def Asc : List Nat → Prop
  | [] => True
  | p :: ps => 2 ≤ p ∧ (∀ x ∈ ps, p ≤ x) ∧ Asc ps
theorem Asc.two : ∀ {ps : List Nat}, Asc ps → ∀ x ∈ ps, 2 ≤ x
  | p :: ps, ⟨h1, h2, h3⟩, x, hx => by
    rcases List.mem_cons.mp hx with e | e
    · rw [e]; exact h1
    · exact h3.two x e
theorem bring_fold : ∀ (ps : List Nat), Asc ps → (∀ k (c : Conf ps), k * num ps ≤ size c → Reach ps c k) ∧ (∀ q (c : Conf ps), 2 ≤ q → (∀ x ∈ ps, q ≤ x) → (q - 1) * num ps + grp q c < size c → Reach ps c q)
  | [], _ => by
    refine ⟨fun k c h => ?_, fun q c hq _ h => ?_⟩
    · have h' : k * 1 ≤ size c := h
      show k ≤ size c
      omega
    · have h' : (q - 1) * 1 + Nat.div (size c) q < size c := h
      have h2 : (q - 1) * 1 + size c / q < size c := h'
      show q ≤ size c
      rcases Nat.lt_or_ge (size c) q with x | x
      · rw [Nat.div_eq_of_lt x] at h2
        omega
      · exact x
  | p :: ps, ⟨hp2, hpx, hasc⟩ => by
    obtain ⟨A, B⟩ := bring_fold ps hasc
    have htwo := hasc.two
    have hV : 2 ^ ps.length ≤ num ps := two_num htwo
    have hN := num_pos htwo
    have hps0 : ps = [] → num ps = 1 := fun e => by rw [e]; rfl
    refine ⟨fun k c h => ?_, fun q c hq hqx h => ?_⟩
    · -- bring
      obtain ⟨a, b⟩ := c
      replace h : k * (p * num ps) ≤ size a + size b := h
      generalize hNN : num ps = N at h A B hV hN
      rcases Nat.lt_or_ge (size b + grp p a) (k * N) with x | x
      · obtain ⟨j, rfl⟩ : ∃ j, k = j + 1 := by
          refine ⟨k - 1, ?_⟩
          rcases Nat.eq_zero_or_pos k with e | e
          · subst e; rw [Nat.zero_mul] at x; omega
          · omega
        have hp0 : 0 < p := by omega
        have e1 : p * (j * N) / p = j * N := Nat.mul_div_cancel_left _ hp0
        have e2 : p * (j * N) % p = 0 := Nat.mul_mod_right _ _
        have e3 : (j + 1) * (p * N) = p * (j * N) + p * N := by rw [Nat.add_mul, Nat.one_mul, Nat.mul_left_comm]
        have e4 : (j + 1) * N = j * N + N := Nat.succ_mul j N
        have e5 : (p - 1) * (j * N) + j * N = p * (j * N) := by rw [← Nat.succ_mul]; congr 1; omega
        have e6 : (p - 1) * N + N = p * N := by rw [← Nat.succ_mul]; congr 1; omega
        obtain ⟨st, r, e, hst, hr⟩ := stock (q := p) (M := p * (j * N)) (N := N) hp2 hV a (by rw [e1, e2]; omega)
        have r1 : Reach ps st (p * j) := A (p * j) st (by rw [hst, Nat.mul_assoc]; exact Nat.le_refl _)
        have r2 : Reach ps r p := B p r hp2 hpx hr
        have r3 : Reach ps a (p * (j + 1)) := by
          rw [e]
          refine reach_mono (reach_add r2 r1) ?_
          rw [Nat.mul_add]; omega
        exact ⟨zero, a, 0, j + 1, by rw [mul_zero, add_zero], reach_zero _, r3, by omega⟩
      · obtain ⟨t, a', e, hst⟩ := pick (k := p) (by omega) a (k * N - size b) (by omega)
        refine ⟨t, a', k, 0, e, A k (add b t) (by rw [size_add, hst]; omega), reach_zero _, Nat.le_refl _⟩
    · -- fold
      obtain ⟨a, b⟩ := c
      replace h : (q - 1) * (p * num ps) + (grp q a + grp q b) < size a + size b := h
      have hqp : q ≤ p := hqx p List.mem_cons_self
      have hqx' : ∀ x ∈ ps, q ≤ x := fun x hx => hqx x (List.mem_cons_of_mem _ hx)
      have hVb : q + 1 ≤ p → ps ≠ [] → q * 2 ^ ps.length ≤ (q - 1) * num ps + 1 := fun h1 h2 => qV hq (fun x hx => Nat.le_trans h1 (hpx x hx)) h2
      generalize hNN : num ps = N at h A B hV hN hVb hps0
      have hq0 : 0 < q := by omega
      by_cases c1 : (q - 1) * N + grp q b < size b
      · exact ⟨zero, a, q, 0, by rw [mul_zero, add_zero], by rw [add_zero]; exact B q b hq hqx' c1, reach_zero _, Nat.le_refl _⟩
      · by_cases c2 : (q - 1) * N ≤ size b
        · have g := grp_anti hq0 hqp a
          have e1 : (q - 1) * (p * N) = (q - 1) * ((p - 1) * N) + (q - 1) * N := by
            rw [← Nat.mul_add, ← Nat.succ_mul]; congr 2; omega
          have e2 : 1 * ((p - 1) * N) ≤ (q - 1) * ((p - 1) * N) := Nat.mul_le_mul_right _ (by omega)
          refine ⟨zero, a, q - 1, 1, by rw [mul_zero, add_zero], by rw [add_zero]; exact A (q - 1) b c2, ?_, by omega⟩
          rw [Nat.mul_one]
          exact B p a hp2 hpx (by omega)
        · by_cases c3 : size b = 0
          · -- all through the far root
            have e0 : q * ((p - 1) * N) / q = (p - 1) * N := Nat.mul_div_cancel_left _ hq0
            have e00 : q * ((p - 1) * N) % q = 0 := Nat.mul_mod_right _ _
            have e1 : (q - 1) * (p * N) = (q - 1) * ((p - 1) * N) + (q - 1) * N := by
              rw [← Nat.mul_add, ← Nat.succ_mul]; congr 2; omega
            obtain ⟨st, r, e, hst, hr⟩ := stock (q := q) (M := q * ((p - 1) * N)) (N := N) hq hV a (by rw [e0, e00]; omega)
            have r1 : Reach ps st (q * (p - 1)) := A _ st (by rw [hst, Nat.mul_assoc]; exact Nat.le_refl _)
            have r2 : Reach ps r q := B q r hq hqx' hr
            refine ⟨zero, a, 0, q, by rw [mul_zero, add_zero], reach_zero _, ?_, by omega⟩
            rw [e]
            refine reach_mono (reach_add r2 r1) ?_
            have : q + q * (p - 1) = q * p := by
              rw [Nat.add_comm, ← Nat.mul_succ]; congr 1; omega
            rw [this, Nat.mul_comm]
            exact Nat.le_refl _
          · -- some directly, the others through the far root
            have hb1 : 1 ≤ size b := by omega
            have hdm := Nat.div_add_mod (size b) N
            have hmN := Nat.mod_lt (size b) hN
            obtain ⟨s, hs⟩ : ∃ s, s = size b / N + 1 := ⟨_, rfl⟩
            have hs0 : 1 ≤ s := by rw [hs]; exact Nat.succ_pos _
            have hsN : s * N = N * (size b / N) + N := by rw [hs, Nat.succ_mul, Nat.mul_comm]
            have hsq : s ≤ q - 1 := by
              rw [hs]
              have := (Nat.div_lt_iff_lt_mul hN).mpr (show size b < (q - 1) * N by omega)
              omega
            obtain ⟨w, hw⟩ : ∃ w, w = s * N - size b := ⟨_, rfl⟩
            have hβ : size b + w = s * N := by omega
            have hw1 : 1 ≤ w := by omega
            have hwN : w ≤ N := by omega
            have hh : (q - 1) * (p * N) + grp q a < size a + size b := by omega
            have dir : ∃ (t a' : Conf ps) (L : Nat), a = add a' (mul p t) ∧ size t = w ∧ q * size a + q * grp q a' ≤ q * size a' + q * grp q a + L ∧ L + q * (s * N) ≤ s * ((q - 1) * (p * N)) + q * w := by
              by_cases d1 : p % q = 0 ∨ 2 ≤ s
              · exact direct1 hq hqp hV hsq hw1 hwN a hβ d1 hh
              · have hs1 : s = 1 := by omega
                have hf : 1 ≤ p % q := by omega
                have hp1 : q + 1 ≤ p := by
                  rcases Nat.lt_or_ge q p with x | x
                  · exact x
                  · have : p = q := by omega
                    rw [this, Nat.mod_self] at hf
                    omega
                rw [hs1]
                have hβ1 : size b + w = N := by rw [hβ, hs1, Nat.one_mul]
                refine direct2 hq hp1 hf (hVb hp1 fun e => ?_) hw1 a hb1 hβ1 hh
                have := hps0 e
                omega
            obtain ⟨t, a', L, e, hst, hL1, hL2⟩ := dir
            -- the stock
            obtain ⟨o, ho⟩ : ∃ o, o + q = p * (q - s) := by
              refine ⟨p * (q - s) - q, ?_⟩
              have := Nat.mul_le_mul hqp (show 1 ≤ q - s by omega)
              omega
            have hY : (q - s) * ((q - 1) * (p * N)) + s * ((q - 1) * (p * N)) = q * ((q - 1) * (p * N)) := by rw [← Nat.add_mul]; congr 1; omega
            have hcond : (q - 1) * N + ((q - 1) * ((o * N) / q) + (o * N) % q) + grp q a' < size a' := by
              have hM := Nat.div_add_mod (o * N) q
              have hMq := Nat.mod_lt (o * N) hq0
              have hm : ∀ x, (q - 1) * x + x = q * x := fun x => by rw [← Nat.succ_mul]; congr 1; omega
              -- q times it
              have k1 : q * ((q - 1) * N + ((q - 1) * ((o * N) / q) + (o * N) % q) + grp q a') ≤ (q - s) * ((q - 1) * (p * N)) + (q - 1) + q * grp q a' := by
                have j1 : (q - s) * ((q - 1) * (p * N)) = (q - 1) * (q * N) + (q - 1) * (o * N) := by
                  rw [← Nat.mul_add, ← Nat.add_mul, Nat.add_comm q o, ho, Nat.mul_left_comm, Nat.mul_comm p (q - s), Nat.mul_assoc]
                have j2 : q * ((q - 1) * N) = (q - 1) * (q * N) := Nat.mul_left_comm _ _ _
                have j3 : q * ((q - 1) * ((o * N) / q)) = (q - 1) * (q * ((o * N) / q)) := Nat.mul_left_comm _ _ _
                have j4 : (q - 1) * (q * ((o * N) / q)) + (q - 1) * ((o * N) % q) = (q - 1) * (o * N) := by rw [← Nat.mul_add, hM]
                have j5 := hm ((o * N) % q)
                rw [Nat.mul_add, Nat.mul_add, Nat.mul_add, j2, j3, j1]
                omega
              have k2 : q * ((q - 1) * (p * N)) + q * grp q a + q * grp q b + q ≤ q * size a + q * size b := by
                have := Nat.mul_le_mul_left q (show (q - 1) * (p * N) + grp q a + grp q b + 1 ≤ size a + size b by omega)
                rw [Nat.mul_add, Nat.mul_add, Nat.mul_add, Nat.mul_add] at this
                omega
              have k3 : q * size b + q * w = q * (s * N) := by rw [← Nat.mul_add, hβ]
              have k4 : q * ((q - 1) * N + ((q - 1) * ((o * N) / q) + (o * N) % q) + grp q a') < q * size a' := by omega
              exact Nat.lt_of_mul_lt_mul_left k4
            obtain ⟨st, r, e2, hs2, hr⟩ := stock (q := q) (M := o * N) (N := N) hq hV a' hcond
            have r1 : Reach ps st o := A o st (by rw [hs2]; exact Nat.le_refl _)
            have r2 : Reach ps r q := B q r hq hqx' hr
            refine ⟨t, a', s, q - s, e, A s (add b t) (by rw [size_add, hst, hβ]; exact Nat.le_refl _), ?_, by omega⟩
            rw [e2, ← ho, Nat.add_comm]
            exact reach_add r2 r1
end PB
namespace PB
open K44 (g)
/-! lots: lists of indices -/
section
variable (f : Nat → Int) (n : Int)
def LotAt (D : Nat) (l : List Nat) : Prop := l ≠ [] ∧ (D : Int) ∣ (l.map f).sum ∧ (l.map fun i => g (f i) n).sum ≤ (D : Int)
end
def LConf : List Nat → Type
  | [] => List (List Nat)
  | _ :: ps => LConf ps × LConf ps
def sizes : {ps : List Nat} → LConf ps → Conf ps
  | [], L => List.length L
  | _ :: _, (a, b) => (sizes a, sizes b)
def cnt (i : Nat) : {ps : List Nat} → LConf ps → Nat
  | [], L => (List.flatten L).count i
  | _ :: _, (a, b) => cnt i a + cnt i b
def AllLot (f : Nat → Int) (n : Int) (D : Nat) (L : List (List Nat)) : Prop := ∀ l ∈ L, LotAt f n D l
def Good (f : Nat → Int) (n : Int) : Nat → {ps : List Nat} → LConf ps → Prop
  | D, [], L => AllLot f n D L
  | D, p :: _, (a, b) => Good f n D a ∧ Good f n (D * p) b
variable {f : Nat → Int} {n : Int}
theorem nodup_le : ∀ (p : Nat) (l : List Nat), l.Nodup → (∀ x ∈ l, x < p) → l.length ≤ p
  | 0, [], _, _ => Nat.le_refl _
  | 0, a :: l, _, h => absurd (h a List.mem_cons_self) (Nat.not_lt_zero _)
  | p + 1, l, hn, h => by
    have ih := nodup_le p (l.erase p) (hn.erase p) fun x hx => by
      have := (hn.mem_erase_iff).mp hx
      have := h x this.2
      omega
    by_cases m : p ∈ l
    · rw [List.length_erase_of_mem m] at ih
      omega
    · rw [List.erase_of_not_mem m] at ih
      omega
theorem pigeon (p : Nat) (F : Nat → Nat) (h : ∀ i, i ≤ p → F i < p) : ∃ i j, i < j ∧ j ≤ p ∧ F i = F j := by
  apply Classical.byContradiction
  intro no
  have nd : ((List.range (p + 1)).map F).Nodup := by
    refine List.pairwise_map.mpr (List.pairwise_lt_range.imp_of_mem fun {i j} hi hj hij e => no ⟨i, j, hij, ?_, e⟩)
    have := List.mem_range.mp hj
    omega
  have := nodup_le p _ nd fun x hx => by
    obtain ⟨i, hi, rfl⟩ := List.mem_map.mp hx
    exact h i (by have := List.mem_range.mp hi; omega)
  simp at this
  omega
theorem run_of {p : Nat} (hp : 1 ≤ p) (xs : List Int) (hl : xs.length = p) : ∃ i j, i < j ∧ j ≤ p ∧ (p : Int) ∣ ((xs.take j).drop i).sum := by
  obtain ⟨i, j, h1, h2, h3⟩ := pigeon p (fun k => ((xs.take k).sum % (p : Int)).toNat) fun k _ => by
    have := Int.emod_nonneg (xs.take k).sum (show (p : Int) ≠ 0 by omega)
    have := Int.emod_lt_of_pos (xs.take k).sum (show 0 < (p : Int) by omega)
    show ((xs.take k).sum % (p : Int)).toNat < p
    omega
  refine ⟨i, j, h1, h2, ?_⟩
  have e : (xs.take j).sum = (xs.take i).sum + ((xs.take j).drop i).sum := by
    have e1 : xs.take j = (xs.take j).take i ++ (xs.take j).drop i := (List.take_append_drop i _).symm
    have e2 : (xs.take j).take i = xs.take i := by rw [List.take_take, Nat.min_eq_left (by omega)]
    rw [e2] at e1
    have e3 := congrArg List.sum e1
    rw [K44.sum_app] at e3
    exact e3
  have a1 := Int.emod_nonneg (xs.take i).sum (show (p : Int) ≠ 0 by omega)
  have a2 := Int.emod_nonneg (xs.take j).sum (show (p : Int) ≠ 0 by omega)
  replace h3 : ((xs.take i).sum % (p : Int)).toNat = ((xs.take j).sum % (p : Int)).toNat := h3
  have h4 : (xs.take i).sum % (p : Int) = (xs.take j).sum % (p : Int) := by omega
  have h5 := Int.emod_emod_of_dvd
  have h6 : ((xs.take j).sum - (xs.take i).sum) % (p : Int) = 0 := by
    rw [Int.sub_emod, h4]
    simp
  have h7 := Int.dvd_of_emod_eq_zero h6
  rw [e] at h7
  have : (xs.take i).sum + ((xs.take j).drop i).sum - (xs.take i).sum = ((xs.take j).drop i).sum := by omega
  rw [this] at h7
  exact h7
theorem flat_map_sum (F : Nat → Int) : ∀ L : List (List Nat), (L.flatten.map F).sum = (L.map fun l => (l.map F).sum).sum
  | [] => rfl
  | l :: L => by
    rw [List.flatten_cons, List.map_append, K44.sum_app, flat_map_sum F L]
    rfl
theorem dvd_sum {D : Int} : ∀ {xs : List Int}, (∀ x ∈ xs, D ∣ x) → ∃ ys : List Int, ys.length = xs.length ∧ xs = ys.map (D * ·)
  | [], _ => ⟨[], rfl, rfl⟩
  | x :: xs, h => by
    obtain ⟨y, hy⟩ := h x List.mem_cons_self
    obtain ⟨ys, h1, h2⟩ := dvd_sum fun z hz => h z (List.mem_cons_of_mem x hz)
    exact ⟨y :: ys, by simp [h1], by rw [List.map_cons, ← h2, ← hy]⟩
theorem sum_mul_left (D : Int) : ∀ ys : List Int, (ys.map (D * ·)).sum = D * ys.sum
  | [] => by simp
  | y :: ys => by rw [List.map_cons, List.sum_cons, List.sum_cons, sum_mul_left D ys, Int.mul_add]
theorem sum_le {D : Int} : ∀ {xs : List Int}, (∀ x ∈ xs, x ≤ D) → xs.sum ≤ xs.length * D
  | [], _ => by simp
  | x :: xs, h => by
    have h1 := h x List.mem_cons_self
    have h2 := sum_le fun z hz => h z (List.mem_cons_of_mem x hz)
    rw [List.sum_cons, List.length_cons, Int.natCast_succ, Int.add_mul]
    omega
theorem count_sub {i : Nat} {L M : List (List Nat)} (h : L.Sublist M) : L.flatten.count i ≤ M.flatten.count i := by
  induction h with
  | slnil => exact Nat.le_refl _
  | cons a _ ih => rw [List.flatten_cons, List.count_append]; omega
  | cons_cons a _ ih => rw [List.flatten_cons, List.flatten_cons, List.count_append, List.count_append]; omega
/-- p lots at D give one at D p -/
theorem lot_up {p D : Nat} (hp : 1 ≤ p) (L : List (List Nat)) (hl : L.length = p) (h : ∀ l ∈ L, LotAt f n D l) : ∃ l, LotAt f n (D * p) l ∧ ∀ i, l.count i ≤ L.flatten.count i := by
  obtain ⟨ys, h1, h2⟩ := dvd_sum (D := (D : Int)) (xs := L.map fun l => (l.map f).sum) fun x hx => by
    obtain ⟨l, hl, rfl⟩ := List.mem_map.mp hx
    exact (h l hl).2.1
  obtain ⟨i, j, hij, hjp, hd⟩ := run_of hp ys (by rw [h1, List.length_map, hl])
  have hsub : ((L.take j).drop i).Sublist L := (List.drop_sublist _ _).trans (List.take_sublist _ _)
  have hlen : ((L.take j).drop i).length = j - i := by rw [List.length_drop, List.length_take]; omega
  refine ⟨((L.take j).drop i).flatten, ⟨?_, ?_, ?_⟩, fun k => count_sub hsub⟩
  · cases e : (L.take j).drop i with
    | nil => rw [e] at hlen; simp at hlen; omega
    | cons l r =>
      have hl := (h l (hsub.subset (by rw [e]; exact List.mem_cons_self))).1
      intro z
      rw [List.flatten_cons] at z
      exact hl (List.append_eq_nil_iff.mp z).1
  · rw [flat_map_sum, List.map_drop, List.map_take, h2, ← List.map_take, ← List.map_drop, sum_mul_left, Int.natCast_mul]
    exact Int.mul_dvd_mul_left _ hd
  · rw [flat_map_sum]
    have := sum_le (D := (D : Int)) (xs := ((L.take j).drop i).map fun l => (l.map fun i => g (f i) n).sum) fun x hx => by
      obtain ⟨l, hl, rfl⟩ := List.mem_map.mp hx
      exact (h l (hsub.subset hl)).2.2
    rw [List.length_map, hlen] at this
    have h3 : ((j - i : Nat) : Int) * (D : Int) ≤ (p : Int) * (D : Int) := Int.mul_le_mul_of_nonneg_right (by omega) (by omega)
    rw [Int.natCast_mul, Int.mul_comm (D : Int)]
    omega
/-- groups of p, t of them -/
theorem lots_up {p D : Nat} (hp : 1 ≤ p) : ∀ (t : Nat) (L : List (List Nat)), L.length = p * t → (∀ l ∈ L, LotAt f n D l) → ∃ M : List (List Nat), M.length = t ∧ (∀ l ∈ M, LotAt f n (D * p) l) ∧ ∀ i, M.flatten.count i ≤ L.flatten.count i
  | 0, L, _, _ => ⟨[], rfl, (fun l hl => by cases hl), (fun i => Nat.zero_le _)⟩
  | t + 1, L, hl, h => by
    rw [Nat.mul_succ] at hl
    obtain ⟨l, h1, h2⟩ := lot_up hp (L.take p) (by rw [List.length_take]; omega) fun x hx => h x ((List.take_sublist p L).subset hx)
    obtain ⟨M, h3, h4, h5⟩ := lots_up hp t (L.drop p) (by rw [List.length_drop]; omega) fun x hx => h x ((List.drop_sublist p L).subset hx)
    refine ⟨l :: M, by simp [h3], fun x hx => ?_, fun i => ?_⟩
    · rcases List.mem_cons.mp hx with e | e
      · rw [e]; exact h1
      · exact h4 x e
    · have e : L.flatten.count i = (L.take p).flatten.count i + (L.drop p).flatten.count i := by rw [← List.count_append, ← List.flatten_append, List.take_append_drop]
      rw [List.flatten_cons, List.count_append, e]
      have := h2 i
      have := h5 i
      omega
theorem splitL {D : Nat} (L : List (List Nat)) (x y : Nat) (hg : AllLot f n D L) (h : L.length = x + y) : ∃ a b : List (List Nat), a.length = x ∧ b.length = y ∧ AllLot f n D a ∧ AllLot f n D b ∧ ∀ i, a.flatten.count i + b.flatten.count i = L.flatten.count i :=
  ⟨L.take x, L.drop x, by rw [List.length_take]; omega, by rw [List.length_drop]; omega, fun l hl => hg l ((List.take_sublist _ _).subset hl), fun l hl => hg l ((List.drop_sublist _ _).subset hl), fun i => by
    rw [← List.count_append, ← List.flatten_append, List.take_append_drop]⟩
theorem joinL {D : Nat} (L M : List (List Nat)) (h1 : AllLot f n D L) (h2 : AllLot f n D M) : ∃ c : List (List Nat), c.length = L.length + M.length ∧ AllLot f n D c ∧ ∀ i, c.flatten.count i = L.flatten.count i + M.flatten.count i :=
  ⟨L ++ M, List.length_append, fun l hl => (List.mem_append.mp hl).elim (h1 l) (h2 l), fun i => by rw [List.flatten_append, List.count_append]⟩
theorem takeL {D m : Nat} (L : List (List Nat)) (hg : AllLot f n D L) (h : m ≤ L.length) : ∃ R : List (List Nat), R.length = m ∧ AllLot f n D R ∧ ∀ i, R.flatten.count i ≤ L.flatten.count i :=
  ⟨L.take m, by rw [List.length_take]; omega, fun l hl => hg l ((List.take_sublist _ _).subset hl), fun i => count_sub (List.take_sublist _ _)⟩
theorem split_l : ∀ {ps : List Nat} {D : Nat} (c : LConf ps) (x y : Conf ps), Good f n D c → sizes c = add x y → ∃ a b : LConf ps, sizes a = x ∧ sizes b = y ∧ Good f n D a ∧ Good f n D b ∧ ∀ i, cnt i a + cnt i b = cnt i c
  | [], D, L, x, y, hg, h => splitL L x y hg h
  | p :: ps, D, (a, b), (x, x'), (y, y'), ⟨hg1, hg2⟩, h => by
    have h' : (sizes a, sizes b) = (add x y, add x' y') := h
    obtain ⟨a1, a2, k1, k2, k3, k4, k5⟩ := split_l a x y hg1 (Prod.mk.inj h').1
    obtain ⟨b1, b2, j1, j2, j3, j4, j5⟩ := split_l b x' y' hg2 (Prod.mk.inj h').2
    refine ⟨(a1, b1), (a2, b2), by show (_, _) = _; rw [k1, j1], by show (_, _) = _; rw [k2, j2], ⟨k3, j3⟩, ⟨k4, j4⟩, fun i => ?_⟩
    show (cnt i a1 + cnt i b1) + (cnt i a2 + cnt i b2) = cnt i a + cnt i b
    have := k5 i
    have := j5 i
    omega
theorem send_l {p : Nat} (hp : 1 ≤ p) : ∀ {ps : List Nat} {D : Nat} (c : LConf ps) (t : Conf ps), Good f n D c → sizes c = mul p t → ∃ d : LConf ps, sizes d = t ∧ Good f n (D * p) d ∧ ∀ i, cnt i d ≤ cnt i c
  | [], D, L, t, hg, h => lots_up (f := f) (n := n) hp t L h hg
  | r :: ps, D, (a, b), (t, t'), ⟨hg1, hg2⟩, h => by
    have h' : (sizes a, sizes b) = (mul p t, mul p t') := h
    obtain ⟨a1, k1, k2, k3⟩ := send_l hp a t hg1 (Prod.mk.inj h').1
    obtain ⟨b1, j1, j2, j3⟩ := send_l hp b t' hg2 (Prod.mk.inj h').2
    refine ⟨(a1, b1), by show (_, _) = _; rw [k1, j1], ⟨k2, ?_⟩, fun i => Nat.add_le_add (k3 i) (j3 i)⟩
    rw [Nat.mul_right_comm] at j2
    exact j2
theorem join_l : ∀ {ps : List Nat} {D : Nat} (a b : LConf ps), Good f n D a → Good f n D b → ∃ c : LConf ps, sizes c = add (sizes a) (sizes b) ∧ Good f n D c ∧ ∀ i, cnt i c = cnt i a + cnt i b
  | [], D, L, M, h1, h2 => joinL L M h1 h2
  | p :: ps, D, (a, b), (c, d), ⟨h1, h2⟩, ⟨h3, h4⟩ => by
    obtain ⟨x, k1, k2, k3⟩ := join_l a c h1 h3
    obtain ⟨y, j1, j2, j3⟩ := join_l b d h2 h4
    refine ⟨(x, y), by show (_, _) = _; rw [k1, j1] <;> rfl, ⟨k2, j2⟩, fun i => ?_⟩
    show cnt i x + cnt i y = (cnt i a + cnt i b) + (cnt i c + cnt i d)
    have := k3 i
    have := j3 i
    omega
/-- what is reached by counts is reached by lots -/
theorem get : ∀ {ps : List Nat} {D m : Nat} (c : LConf ps), (∀ p ∈ ps, 1 ≤ p) → Good f n D c → Reach ps (sizes c) m → ∃ R : List (List Nat), R.length = m ∧ (∀ l ∈ R, LotAt f n (D * num ps) l) ∧ ∀ i, R.flatten.count i ≤ cnt i c
  | [], D, m, L, _, hg, h => by
    rw [show D * num [] = D from Nat.mul_one D]
    exact takeL L hg h
  | p :: ps, D, m, (a, b), hp, ⟨hg1, hg2⟩, ⟨t, a', s, u, h1, h2, h3, h4⟩ => by
    have hps : ∀ x ∈ ps, 1 ≤ x := fun x hx => hp x (List.mem_cons_of_mem _ hx)
    have hp1 := hp p List.mem_cons_self
    obtain ⟨x, y, k1, k2, k3, k4, k5⟩ := split_l a a' (mul p t) hg1 h1
    obtain ⟨z, j1, j2, j3⟩ := send_l hp1 y t k4 k2
    obtain ⟨v, l1, l2, l3⟩ := join_l b z hg2 j2
    obtain ⟨R1, r1, r2, r3⟩ := get v hps l2 (by rw [l1, j1]; exact h2)
    obtain ⟨R2, q1, q2, q3⟩ := get x hps k3 (by rw [k1]; exact h3)
    obtain ⟨R3, w1, w2, w3⟩ := lots_up hp1 u R2 q1 q2
    have eD : D * num ps * p = D * num (p :: ps) := by show _ = D * (p * num ps); rw [Nat.mul_assoc, Nat.mul_comm (num ps)]
    have eD2 : D * p * num ps = D * num (p :: ps) := by show _ = D * (p * num ps); rw [Nat.mul_assoc]
    rw [eD2] at r2
    rw [eD] at w2
    refine ⟨(R1 ++ R3).take m, by rw [List.length_take, List.length_append]; omega, fun l hl => ?_, fun i => ?_⟩
    · rcases List.mem_append.mp ((List.take_sublist _ _).subset hl) with e | e
      · exact r2 l e
      · exact w2 l e
    · refine Nat.le_trans (count_sub (List.take_sublist m (R1 ++ R3))) ?_
      rw [List.flatten_append, List.count_append]
      show _ ≤ cnt i a + cnt i b
      have := r3 i
      have := q3 i
      have := w3 i
      have := k5 i
      have := j3 i
      have := l3 i
      omega
end PB
namespace PB
open K44 (g Ach)
def fac : Nat → List Nat
  | 2 => [2] | 3 => [3] | 4 => [2, 2] | 5 => [5] | 6 => [2, 3] | 7 => [7] | 8 => [2, 2, 2] | 9 => [3, 3] | 10 => [2, 5] | 11 => [11] | 12 => [2, 2, 3] | 13 => [13] | 14 => [2, 7] | 15 => [3, 5] | 16 => [2, 2, 2, 2] | 17 => [17]
  | 18 => [2, 3, 3] | 19 => [19] | 20 => [2, 2, 5] | 21 => [3, 7] | 22 => [2, 11] | 23 => [23] | 24 => [2, 2, 2, 3] | 25 => [5, 5] | 26 => [2, 13] | 27 => [3, 3, 3] | 28 => [2, 2, 7] | 29 => [29] | 30 => [2, 3, 5] | 31 => [31]
  | 32 => [2, 2, 2, 2, 2] | 33 => [3, 11] | 34 => [2, 17] | 35 => [5, 7] | 36 => [2, 2, 3, 3] | _ => []
def ascB : List Nat → Bool
  | [] => true
  | p :: ps => decide (2 ≤ p) && ps.all (fun x => decide (p ≤ x)) && ascB ps
theorem asc_of : ∀ {ps : List Nat}, ascB ps = true → Asc ps
  | [], _ => trivial
  | p :: ps, h => by
    have h' : (decide (2 ≤ p) && ps.all (fun x => decide (p ≤ x)) && ascB ps) = true := h
    rw [Bool.and_eq_true, Bool.and_eq_true, decide_eq_true_eq, List.all_eq_true] at h'
    exact ⟨h'.1.1, fun x hx => of_decide_eq_true (h'.1.2 x hx), asc_of h'.2⟩
/-- d stands at a vertex of the cube -/
def inCube : List Nat → Nat → Bool
  | [], d => d == 1
  | p :: ps, d => if d % p == 0 then inCube ps (d / p) else inCube ps d
theorem fac_ok : ((List.range 37).all fun m => m == 0 || (ascB (fac m) && (num (fac m) == m) && (List.range 37).all fun d => d == 0 || m % d != 0 || inCube (fac m) d)) = true := by decide +kernel
theorem fac_of {m : Nat} (h1 : 1 ≤ m) (h2 : m ≤ 36) : Asc (fac m) ∧ num (fac m) = m ∧ ∀ d, 1 ≤ d → m % d = 0 → inCube (fac m) d = true := by
  have h := List.all_eq_true.mp fac_ok m (List.mem_range.mpr (by omega))
  rw [Bool.or_eq_true] at h
  rcases h with h | h
  · have := beq_iff_eq.mp h; omega
  · rw [Bool.and_eq_true, Bool.and_eq_true] at h
    refine ⟨asc_of h.1.1, beq_iff_eq.mp h.1.2, fun d d1 hd => ?_⟩
    have hdm : d ≤ m := Nat.le_of_dvd (by omega) (Nat.dvd_of_mod_eq_zero hd)
    have k := List.all_eq_true.mp h.2 d (List.mem_range.mpr (by omega))
    rw [Bool.or_eq_true, Bool.or_eq_true] at k
    rcases k with (k | k) | k
    · have := beq_iff_eq.mp k; omega
    · rw [hd] at k; exact absurd k (by decide)
    · exact k
def bld : (ps : List Nat) → List (Nat × Nat) → LConf ps
  | [], its => its.map fun x => [x.1]
  | p :: ps, its => (bld ps (its.filter fun x => !(x.2 % p == 0)), bld ps ((its.filter fun x => x.2 % p == 0).map fun x => (x.1, x.2 / p)))
theorem len_split (P : Nat × Nat → Bool) : ∀ its : List (Nat × Nat), (its.filter fun x => !P x).length + (its.filter P).length = its.length
  | [] => rfl
  | x :: its => by
    have := len_split P its
    cases h : P x <;> simp [List.filter_cons, h] <;> omega
theorem bld_size : ∀ (ps : List Nat) (its : List (Nat × Nat)), size (sizes (bld ps its)) = its.length
  | [], its => List.length_map (fun x : Nat × Nat => [x.1]) (as := its)
  | p :: ps, its => by
    show size (sizes (bld ps _)) + size (sizes (bld ps _)) = _
    rw [bld_size ps, bld_size ps, List.length_map]
    exact len_split (fun x => x.2 % p == 0) its
theorem cnt_split (P : Nat × Nat → Bool) (i : Nat) : ∀ its : List (Nat × Nat), ((its.filter fun x => !P x).map (·.1)).count i + ((its.filter P).map (·.1)).count i = (its.map (·.1)).count i
  | [] => rfl
  | x :: its => by
    have := cnt_split P i its
    cases h : P x <;> simp [List.filter_cons, h, List.count_cons] <;> omega
theorem cnt_leaf (i : Nat) : ∀ its : List (Nat × Nat), (List.flatten (its.map fun x => [x.1])).count i = (its.map (·.1)).count i
  | [] => rfl
  | x :: its => by
    rw [List.map_cons, List.flatten_cons, List.count_append, cnt_leaf i its, List.map_cons, List.count_cons]
    simp [List.count_cons]
    omega
theorem bld_cnt (i : Nat) : ∀ (ps : List Nat) (its : List (Nat × Nat)), cnt i (bld ps its) = (its.map (·.1)).count i
  | [], its => cnt_leaf i its
  | p :: ps, its => by
    show cnt i (bld ps _) + cnt i (bld ps _) = _
    rw [bld_cnt i ps, bld_cnt i ps, List.map_map]
    exact cnt_split (fun x => x.2 % p == 0) i its
variable {f : Nat → Int} {n : Int}
theorem leaf_good {D : Nat} (its : List (Nat × Nat)) (h : ∀ x ∈ its, inCube [] x.2 = true ∧ g (f x.1) n = (D : Int) * x.2) : AllLot f n D (its.map fun x => [x.1]) := fun l hl => by
  obtain ⟨x, hx, rfl⟩ := List.mem_map.mp hl
  obtain ⟨h1, h2⟩ := h x hx
  have e : x.2 = 1 := beq_iff_eq.mp h1
  rw [e] at h2
  have e2 : g (f x.1) n = (D : Int) := by rw [h2]; simp
  refine ⟨by simp, ?_, by simp [e2]⟩
  simp only [List.map_cons, List.map_nil, List.sum_cons, List.sum_nil, Int.add_zero]
  rw [← e2]
  exact Int.gcd_dvd_left (a := f x.1) (b := n)
theorem bld_good : ∀ (ps : List Nat) (D : Nat) (its : List (Nat × Nat)), (∀ x ∈ its, inCube ps x.2 = true ∧ g (f x.1) n = (D : Int) * x.2) → Good f n D (bld ps its)
  | [], D, its, h => leaf_good its h
  | p :: ps, D, its, h => by
    refine ⟨bld_good ps D _ fun x hx => ?_, bld_good ps (D * p) _ fun x hx => ?_⟩
    · obtain ⟨h1, h2⟩ := List.mem_filter.mp hx
      obtain ⟨h3, h4⟩ := h x h1
      have h5 : (x.2 % p == 0) = false := by simpa using h2
      have h6 : (if x.2 % p == 0 then inCube ps (x.2 / p) else inCube ps x.2) = true := h3
      rw [h5] at h6
      exact ⟨h6, h4⟩
    · obtain ⟨y, hy, rfl⟩ := List.mem_map.mp hx
      obtain ⟨h1, h2⟩ := List.mem_filter.mp hy
      obtain ⟨h3, h4⟩ := h y h1
      have h6 : (if y.2 % p == 0 then inCube ps (y.2 / p) else inCube ps y.2) = true := h3
      rw [h2] at h6
      refine ⟨h6, ?_⟩
      have h7 : p * (y.2 / p) = y.2 := Nat.mul_div_cancel' (Nat.dvd_of_mod_eq_zero (beq_iff_eq.mp h2))
      show g (f y.1) n = ((D * p : Nat) : Int) * ((y.2 / p : Nat) : Int)
      rw [h4, ← Int.natCast_mul, ← Int.natCast_mul, Nat.mul_assoc, h7]
theorem perm_sum {α : Type} (F : α → Int) {l m : List α} (h : l.Perm m) : (l.map F).sum = (m.map F).sum := by
  induction h with
  | nil => rfl
  | cons x _ ih => rw [List.map_cons, List.map_cons, List.sum_cons, List.sum_cons, ih]
  | swap x y l => simp only [List.map_cons, List.sum_cons]; omega
  | trans _ _ h1 h2 => exact h1.trans h2
theorem map_range (row : List Int) : (List.range row.length).map (fun i => row.getD i 0) = row := by
  apply List.ext_getElem?
  intro i
  rw [List.getElem?_map]
  rcases Nat.lt_or_ge i row.length with h | h
  · rw [List.getElem?_range h, List.getElem?_eq_getElem h]
    show some (row.getD i 0) = _
    rw [List.getD_eq_getElem?_getD, List.getElem?_eq_getElem h]
    rfl
  · rw [List.getElem?_eq_none (by rw [List.length_range]; exact h), List.getElem?_eq_none h]
    rfl
theorem lot_exists {n : Int} (hn1 : 1 ≤ n) (hn2 : n ≤ 36) (row : List Int) (hl : (row.length : Int) = n) : ∃ s w, Ach n row s w ∧ s % n = 0 ∧ w ≤ n := by
  obtain ⟨h1, h2, h3⟩ := fac_of (m := n.toNat) (by omega) (by omega)
  let f : Nat → Int := fun i => row.getD i 0
  let its : List (Nat × Nat) := (List.range row.length).map fun i => (i, (g (f i) n).toNat)
  have hf : its.map (·.1) = List.range row.length := by
    show ((List.range row.length).map fun i => (i, (g (f i) n).toNat)).map (·.1) = _
    rw [List.map_map]
    exact List.map_id _
  have good : Good f n 1 (bld (fac n.toNat) its) := bld_good _ 1 its fun x hx => by
    obtain ⟨i, _, rfl⟩ := List.mem_map.mp hx
    have g1 := K44.g_pos (x := f i) hn1
    have g2 := K44.g_dvd_r (f i) n
    refine ⟨h3 _ (by show 1 ≤ (g (f i) n).toNat; omega) ?_, by show g (f i) n = 1 * (((g (f i) n).toNat : Nat) : Int); rw [Int.one_mul]; omega⟩
    show n.toNat % (g (f i) n).toNat = 0
    have e : ((n.toNat % (g (f i) n).toNat : Nat) : Int) = 0 := by
      rw [Int.natCast_emod, Int.toNat_of_nonneg (by omega), Int.toNat_of_nonneg (by omega)]
      exact g2
    omega
  have hz : size (sizes (bld (fac n.toNat) its)) = row.length := by rw [bld_size]; simp [its]
  have hr := (bring_fold (fac n.toNat) h1).1 1 (sizes (bld (fac n.toNat) its)) (by rw [hz, h2]; omega)
  obtain ⟨R, r1, r2, r3⟩ := get (bld (fac n.toNat) its) (fun p hp => by have := h1.two p hp; omega) good hr
  obtain ⟨l, rfl⟩ : ∃ l, R = [l] := by
    match R, r1 with
    | [l], _ => exact ⟨l, rfl⟩
  obtain ⟨l1, l2, l3⟩ := r2 l List.mem_cons_self
  rw [h2, Nat.one_mul] at l2 l3
  have en : ((n.toNat : Nat) : Int) = n := Int.toNat_of_nonneg (by omega)
  rw [en] at l2 l3
  have hc : ∀ i, l.count i ≤ (List.range row.length).count i := fun i => by
    have := r3 i
    rw [bld_cnt, hf] at this
    simpa using this
  have hnd : l.Nodup := List.nodup_iff_count.mpr fun i => Nat.le_trans (hc i) (List.nodup_iff_count.mp List.nodup_range i)
  have hlt : ∀ i ∈ l, i < row.length := fun i hi => by
    have h4 := List.count_pos_iff.mpr hi
    have h5 := hc i
    exact List.mem_range.mp (List.count_pos_iff.mp (Nat.lt_of_lt_of_le h4 h5))
  -- in order
  have hp : l.Perm ((List.range row.length).filter fun i => decide (i ∈ l)) := by
    refine (List.perm_ext_iff_of_nodup hnd (List.nodup_range.filter _)).mpr fun i => ?_
    rw [List.mem_filter, List.mem_range, decide_eq_true_eq]
    exact ⟨fun h => ⟨hlt i h, h⟩, fun h => h.2⟩
  refine ⟨(l.map f).sum, (l.map fun i => g (f i) n).sum, ⟨((List.range row.length).filter fun i => decide (i ∈ l)).map f, ?_, ?_, (perm_sum f hp).symm, ?_⟩, Int.emod_eq_zero_of_dvd l2, l3⟩
  · intro z
    have := List.map_eq_nil_iff.mp z
    rw [this] at hp
    exact l1 hp.eq_nil
  · have h6 : (((List.range row.length).filter fun i => decide (i ∈ l)).map f).Sublist ((List.range row.length).map f) := List.filter_sublist.map f
    rw [show (List.range row.length).map f = row from map_range row] at h6
    exact h6
  · rw [List.map_map]
    exact (perm_sum (fun i => g (f i) n) hp).symm
end PB
set_option maxRecDepth 100000
set_option maxHeartbeats 4000000
namespace K44
open PySem L2 SI
def top (i : Nat) : Stmt := PySem.Challenge.pw_pebblesreach_k44_divisor_lots.main.body.getD i (.Pass ⟨0, 0, 0, 0⟩)
abbrev sWorthOf : Stmt := top 10
abbrev sCheckDivided : Stmt := top 13
abbrev sKeepLeast : Stmt := top 14
abbrev sWithNumber : Stmt := top 15
abbrev sLeastLots : Stmt := top 16
abbrev sLeastLot : Stmt := top 17
abbrev sDivisorLot : Stmt := top 18
abbrev sLStart : Stmt := top 20
abbrev sLDraw : Stmt := top 21
abbrev sLShared : Stmt := top 22
abbrev sLChoices : Stmt := top 23
abbrev sLNumbers : Stmt := top 24
abbrev sLJudged : Stmt := top 25
abbrev sLRefusal : Stmt := top 26
abbrev sLIs : Stmt := top 27
abbrev sLaw : Stmt := top 28
abbrev sBadCountInit : Stmt := inClass (top 3) 0
abbrev sTooFewInit : Stmt := inClass (top 7) 0
structure Txt (P : Program) (w : World) (K : PySem.W.Frag) (mg : Str → Option Value) (base : Heap) (C1 C2 C3 C4 C5 : Addr) : Prop where
  b_len : mg "len" = none
  b_int : mg "int" = none
  b_tuple : mg "tuple" = none
  b_list : mg "list" = none
  b_range : mg "range" = none
  b_isinstance : mg "isinstance" = none
  b_bool : mg "bool" = none
  b_ValueError : mg "ValueError" = none
  b_enumerate : mg "enumerate" = none
  b_max : mg "max" = none
  c_MOST_DIVIDED : ∃ t, mg "MOST_DIVIDED" = some (.int 36 t)
  c_MOST_NUMBERS : ∃ t, mg "MOST_NUMBERS" = some (.int 100 t)
  rBadCount : Rs P w K mg base "BadCount" C2 (mk2 "what" "many" fun v => ∃ t : Str, v = .str t ∧ t.length ≤ 1000)
  rTooFew : Rs P w K mg base "TooFew" C5 (mk2 "have" "need" fun _ => True)
  d_worth_of : DefAt K mg "worth_of" sWorthOf ["number", "n"]
  d_check_divided : DefAt K mg "check_divided" sCheckDivided ["n"]
  d_keep_least : DefAt K mg "keep_least" sKeepLeast ["table", "remainder", "worth", "lot"]
  d_with_number : DefAt K mg "with_number" sWithNumber ["table", "index", "number", "n"]
  d_least_lots : DefAt K mg "least_lots" sLeastLots ["numbers", "n"]
  d_least_lot : DefAt K mg "least_lot" sLeastLot ["numbers", "n"]
  d_divisor_lot : DefAt K mg "divisor_lot" sDivisorLot ["numbers", "n"]
  d__law_start : DefAt K mg "_law_start" sLStart ["script"]
  d__law_draw : DefAt K mg "_law_draw" sLDraw ["pool", "size"]
  d__law_shared : DefAt K mg "_law_shared" sLShared ["number", "n"]
  d__law_choices : DefAt K mg "_law_choices" sLChoices ["pool", "n"]
  d__law_numbers : DefAt K mg "_law_numbers" sLNumbers ["pool", "n", "size"]
  d__law_judged : DefAt K mg "_law_judged" sLJudged ["row", "n", "lot"]
  d__law_refusal : DefAt K mg "_law_refusal" sLRefusal ["row", "n"]
  d__law_is : DefAt K mg "_law_is" sLIs ["told", "due"]
  d_law : DefAt K mg "law" sLaw ["script"]
  gPebbleError : mg "PebbleError" = some (.ref C1)
  gBadCount : mg "BadCount" = some (.ref C2)
  gWrongWidth : mg "WrongWidth" = some (.ref C3)
  gTooWide : mg "TooWide" = some (.ref C4)
  gTooFew : mg "TooFew" = some (.ref C5)
  ek : ErrK K
  eBadCount : ErrC K C2
  fBadCount_what : PySem.W.findIn K (.ref C2) "what" = some none
  fBadCount_many : PySem.W.findIn K (.ref C2) "many" = some none
  xBadCount_PebbleError : PySem.W.exmOne K (.ref C2) (.ref C1) = some true
  tBadCount_BadCount : PySem.W.kitOne K (.ref C2) (.ref C2) = some true
  tBadCount_TooFew : PySem.W.kitOne K (.ref C2) (.ref C5) = some false
  tBadCount_WrongWidth : PySem.W.kitOne K (.ref C2) (.ref C3) = some false
  tBadCount_TooWide : PySem.W.kitOne K (.ref C2) (.ref C4) = some false
  tBadCount_ValueError : PySem.W.kitOne K (.ref C2) (.type "ValueError") = some true
  eTooFew : ErrC K C5
  fTooFew_have : PySem.W.findIn K (.ref C5) "have" = some none
  fTooFew_need : PySem.W.findIn K (.ref C5) "need" = some none
  xTooFew_PebbleError : PySem.W.exmOne K (.ref C5) (.ref C1) = some true
  tTooFew_BadCount : PySem.W.kitOne K (.ref C5) (.ref C2) = some false
  tTooFew_TooFew : PySem.W.kitOne K (.ref C5) (.ref C5) = some true
  tTooFew_WrongWidth : PySem.W.kitOne K (.ref C5) (.ref C3) = some false
  tTooFew_TooWide : PySem.W.kitOne K (.ref C5) (.ref C4) = some false
  tTooFew_ValueError : PySem.W.kitOne K (.ref C5) (.type "ValueError") = some true
  ggcd : mg "gcd" = some (.builtin "math.gcd")
end K44
set_option maxRecDepth 100000
set_option maxHeartbeats 4000000
namespace K44
open PySem L2 SI
/-! ### the pool of the law's draws -/
@[irreducible] def spDraw : Sp := fun vs H Q _ => ∃ (a : Addr) (ns : List Int) (n : Int), vs = [.ref a, .int n] ∧ H a = some (.lst (ns.map V.int)) ∧ 0 < ns.length ∧ ns.length ≤ 64 ∧ CDivW 0 n ∧
  ∀ (d : Int) (ns' : List Int), 0 ≤ d → d < n → 0 < ns'.length → ns'.length ≤ 64 → Q (.int d) (upd H a (.lst (ns'.map V.int)))
section
variable {P : Program} {w : World} {K : PySem.W.Frag} {mg : Str → Option Value} {base : Heap} {C1 C2 C3 C4 C5 : Addr}
theorem scLDraw : FnScope ["pool", "size", "digit"] ["pool", "size"] (defScope sLDraw) := ⟨rfl, rfl, rfl, by decide +kernel, rfl, by decide +kernel, by decide +kernel⟩
theorem ok_LDraw (T : Txt P w K mg base C1 C2 C3 C4 C5) : Cl P w K mg base 1 "_law_draw" spDraw [] := by
  refine cl_of T.d__law_draw scLDraw (fun vs H Q E h => ?_) fun f cdv A outer s H vs Q E hr h => ?_
  · unfold spDraw at h
    obtain ⟨a, ns, n, rfl, _⟩ := h
    rfl
  · unfold spDraw at h
    obtain ⟨a, ns, n, rfl, ha, hl, hl2, hn, k⟩ := h
    refine ⟨_, (pss_cons (ps_if (pt_cmpR op_eq (pe_callB call_len_seq (by rfl) T.b_len (by decide +kernel) (pa_cons (pv 0) pa_nil)) pe_int (nomark _))
    (pss_cons (ps_asg (pe_op op_add (pe_ix ix_list (pv 0) pe_int (fun _ _ => rfl)) pe_int) (pg_sub (pv 0) pe_int set_list))
    (pss_one (ps_ret (pe_op op_mod (pe_callTy call_intI (by rfl) T.b_int (by decide +kernel) (pa_cons (pe_op op_sub (pe_ix ix_list (pv 0) pe_int (fun _ _ => rfl)) pe_int) pa_nil)) (pv 1)))))
    pss_nil)
  (pss_cons (ps_set (i := 2) scLDraw.nd rfl (by first | exact Or.inl rfl | exact Or.inr rfl) (pe_op op_mod (pe_callTy call_intI (by rfl) T.b_int (by decide +kernel) (pa_cons (pe_ix ix_list (pv 0) pe_int (fun _ _ => rfl)) pa_nil)) (pv 1)))
  (pss_cons (ps_asg (pe_op op_fdivW (pe_ix ix_list (pv 0) pe_int (fun _ _ => rfl)) (pv 1)) (pg_sub (pv 0) pe_int set_list))
  (pss_cons (ps_if (pt_cmpR op_eq (pe_ix ix_list (pv 0) pe_int (fun _ _ => rfl)) pe_int (nomark _))
    (pss_one (ps_expr (pe_bm PySem.F.plainAttrs_list PySem.F.slot_list_pop PySem.F.type_list_pop mt_popAt (pv 0) (pa_cons pe_int pa_nil))))
    pss_nil)
  (pss_one (ps_ret (pv 2))))))), ?_⟩
    have hn0 : 0 < n := hn.1
    -- if len(pool) == 1
    refine ⟨_, rfl, a, _, rfl, .inl (SqL.of ha), rfl, _, rfl, ?_⟩
    match ns, ha, hl, hl2, k with
    | [x], ha, _, _, k =>
      refine iteT ?_
      refine ⟨_, rfl, a, _, _, _, rfl, rfl, SqL.of ha, atI0, _, _, rfl, rfl, _, rfl, a, _, _, 0, rfl, rfl, ha, rfl, ?_⟩
      refine ⟨_, rfl, a, _, _, _, rfl, rfl, SqL.of upd_same, atI0, _, _, rfl, rfl, _, rfl, _, rfl, _, _, rfl, rfl, hn0, ?_⟩
      exact k _ [x + 1] (Int.emod_nonneg _ (by omega)) (Int.emod_lt_of_pos _ hn0) (by simp) (by simp)
    | x :: y :: r, ha, _, hl2, k =>
      refine ifI (fun h => absurd h (by simp only [List.length_map, List.length_cons]; omega)) fun _ => ?_
      -- digit = int(pool[1]) % size; pool[1] = pool[1] // size
      refine ⟨_, rfl, a, _, _, _, rfl, rfl, SqL.of ha, atI1, _, rfl, _, rfl, _, _, rfl, rfl, hn0, ?_⟩
      refine ⟨_, rfl, a, _, _, _, rfl, rfl, SqL.of ha, atI1, _, rfl, _, _, rfl, rfl, hn, _, rfl, a, _, _, 1, rfl, rfl, ha, ixN_of rfl len2, ?_⟩
      -- if pool[1] == 0: pool.pop(1)
      refine ⟨_, rfl, a, _, _, _, rfl, rfl, SqL.of upd_same, atI1, rfl, _, rfl, ?_⟩
      have h0 := Int.emod_nonneg y (show n ≠ 0 by omega)
      have h1 := Int.emod_lt_of_pos y hn0
      refine ifI (fun _ => ?_) fun _ => ?_
      · refine ⟨_, rfl, .inl ⟨rfl, _, SqL.of upd_same⟩, a, _, _, 1, _, rfl, rfl, upd_same, by decide, by decide, seqIx_of rfl len2, rfl, ?_⟩
        refine ⟨_, rfl, ?_⟩
        rw [upd_upd]
        have q := k (y % n) (x :: r) h0 h1 (by simp) (by simp only [List.length_cons] at hl2 ⊢; omega)
        exact q
      · refine ⟨_, rfl, ?_⟩
        have q := k (y % n) (x :: y / n :: r) h0 h1 (by simp) (by simpa using hl2)
        exact q
end
end K44
set_option maxRecDepth 100000
set_option maxHeartbeats 4000000
namespace K44
open PySem L2 SI
def spStart (K : PySem.W.Frag) : Sp := fun vs H Q _ => ∃ (a : Addr) (ns : List Int), vs = [.ref a] ∧ SqL K H a (ns.map V.int) ∧ ns.length ≤ 63 ∧
  ∀ (p : Addr) (H' : Hp) (ns' : List Int), Same H H' → H p = none → H' p = some (.lst (ns'.map V.int)) → 0 < ns'.length → ns'.length ≤ 64 → Q (.ref p) H'
section
variable {P : Program} {w : World} {K : PySem.W.Frag} {mg : Str → Option Value} {base : Heap} {C1 C2 C3 C4 C5 : Addr}
theorem scLStart : FnScope ["script", "cell"] ["script"] (defScope sLStart) := ⟨rfl, rfl, rfl, by decide +kernel, rfl, by decide +kernel, by decide +kernel⟩
theorem ok_LStart (T : Txt P w K mg base C1 C2 C3 C4 C5) : Cl P w K mg base 1 "_law_start" (spStart K) [] := by
  refine cl_of T.d__law_start scLStart (fun vs H Q E h => ?_) fun f cdv A outer s H vs Q E hr h => ?_
  · obtain ⟨a, ns, rfl, _⟩ := h
    rfl
  · obtain ⟨a, ns, rfl, ha, hl, k⟩ := h
    refine ⟨_, (pss_one (ps_ret (pe_op op_cat (pe_lst (pa_cons pe_int pa_nil)) (pe_lc (own := [(("cell" : Str), 1)]) (g := gName 1) (by rfl) scLStart.nd (pi_list (pe_slice sl_list (pv 0) po_none (po_some pe_int))) (blkOk_by (own := [(("cell" : Str), 1)]) (N := ["script", "cell"]) (sc := defScope sLStart) (by decide +kernel)) (fun _ _ _ _ _ => (pg_name (i := 1) scLStart.nd rfl (by first | exact Or.inl rfl | exact Or.inr rfl))) (fun _ _ _ _ _ => pts_nil) (fun _ _ _ _ _ => (pe_op op_mod (pe_callTy call_intI (by rfl) T.b_int (by decide +kernel) (pa_cons (pv 1) pa_nil)) (pe_op op_pow pe_int pe_int))))))), ?_⟩
    obtain ⟨ms, ecut, hms, _⟩ := cut_map V.int ns none (some 63)
    refine ⟨by show 1 ≤ sizeLine; decide, fun l1 h1 => ?_⟩
    have s1 : Same H (upd H l1 (.lst [.int 0])) := sm0 h1
    refine ⟨_, rfl, _, rfl, a, _, rfl, s1.seq ha, ?_⟩
    rw [ecut]
    intro p hp
    refine ⟨p, rfl, ⟨_, SqL.of upd_same⟩, fun D hD => lc_list (K := K) (a := p) (xs := ms.map V.int)
      (fun i H' => Same (upd (upd H l1 (.lst [.int 0])) p (.lst (ms.map V.int))) H' ∧ ∃ acc : List Int, H' D = some (.lst (acc.map V.int)) ∧ acc.length = i)
      ⟨sm0 hD, [], upd_same, rfl⟩ (fun i H' _ h => h.1.seq (SqL.of upd_same)) (fun i x H' hx h => ?_) fun H' h => ?_⟩
    · obtain ⟨sh, acc, hacc, hlen⟩ := h
      obtain ⟨z, hz, rfl⟩ := ints_at hx
      have hi : i < ms.length := (List.getElem?_eq_some_iff.mp hz).1
      refine ⟨rfl, ?_⟩
      refine ⟨_, rfl, _, rfl, _, _, rfl, rfl, pow10 (by decide) (by decide), _, _, rfl, rfl, (by show (0 : Int) < 10 ^ 60; decide), _, hacc, by rw [List.length_map]; exact sz_lt (by omega), smM sh hD, acc ++ [z % 10 ^ 60], ?_, by simp [hlen]⟩
      rw [upd_same, List.map_append]
      rfl
    · obtain ⟨sh, acc, hacc, hlen⟩ := h
      rw [List.length_map] at hlen
      have e1 := sh _ _ (atN upd_same hp)
      refine ⟨l1, D, _, _, rfl, rfl, e1, hacc, (by rw [List.length_map]; exact sz_small (by show 1 + acc.length ≤ _; omega)), fun q hq => ?_⟩
      refine k q _ (0 :: acc) ?_ ?_ (by rw [upd_same]; rfl) (by simp) (by simp; omega)
      · exact smN (s1.trans ((sm0 hp).trans sh)) hq
      · exact (s1.trans ((sm0 hp).trans sh)).free hq
end
end K44
set_option maxRecDepth 100000
set_option maxHeartbeats 4000000
namespace K44
open PySem L2 SI
abbrev lotV (lot : List Nat) : List V := lot.map fun i => V.int (i : Nat)
def EntV (H : Hp) (v : V) : Option (Int × List Nat) → Prop
  | none => v = .non
  | some e => ∃ p q, v = .ref p ∧ H p = some (.tup [.int e.1, .ref q]) ∧ H q = some (.tup (lotV e.2))
def TabV (H : Hp) (xs : List V) (t : Tb (List Nat)) : Prop := xs.length = t.length ∧ ∀ (r : Nat) v, xs[r]? = some v → ∃ o, t[r]? = some o ∧ EntV H v o
/-- tuples stay -/
def TupSame (H H' : Hp) : Prop := ∀ b xs, H b = some (.tup xs) → H' b = some (.tup xs)
theorem EntV.same {H H' : Hp} {v : V} (s : TupSame H H') : ∀ {o : Option (Int × List Nat)}, EntV H v o → EntV H' v o
  | none, h => h
  | some e, ⟨p, q, h1, h2, h3⟩ => ⟨p, q, h1, s _ _ h2, s _ _ h3⟩
theorem TabV.same {H H' : Hp} {xs : List V} {t : Tb (List Nat)} (s : TupSame H H') (h : TabV H xs t) : TabV H' xs t := ⟨h.1, fun r v e => by obtain ⟨o, h1, h2⟩ := h.2 r v e; exact ⟨o, h1, h2.same s⟩⟩
theorem same_tup {H H' : Hp} (s : Same H H') : TupSame H H' := fun b xs e => s _ _ e
theorem tup_upd {H : Hp} {a : Addr} {xs : List V} {o : HO} (h : H a = some (.lst xs)) : TupSame H (upd H a o) := fun b ys e => by rw [upd_ne (ne_of e h (by intro z; cases z))]; exact e
/-- all but the object at W stays -/
def But (W : Addr) (H H' : Hp) : Prop := ∀ b o, b ≠ W → H b = some o → H' b = some o
theorem But.tup {W : Addr} {H H' : Hp} {xs : List V} (s : But W H H') (h : H W = some (.lst xs)) : TupSame H H' := fun b ys e => s b _ (ne_of e h (by intro z; cases z)) e
theorem But.trans {W : Addr} {H H' H'' : Hp} (s : But W H H') (s' : But W H' H'') : But W H H'' := fun b o n e => s' b o n (s b o n e)
theorem But.of {W : Addr} {H H' : Hp} (s : Same H H') : But W H H' := fun b o _ e => s b o e
theorem But.upd {W : Addr} {H : Hp} {o : HO} : But W H (L2.upd H W o) := fun b u n e => by rw [upd_ne n]; exact e
theorem tab_set {H : Hp} {xs : List V} {t : Tb (List Nat)} {r : Nat} {v : V} {o : Option (Int × List Nat)} (h : TabV H xs t) (hr : r < t.length) (hv : EntV H v o) : TabV H (xs.set r v) (t.set r o) := by
  refine ⟨by simp [h.1], fun r' v' e => ?_⟩
  by_cases q : r' = r
  · subst q
    rw [List.getElem?_set_self (by rw [h.1]; exact hr)] at e
    cases e
    exact ⟨o, List.getElem?_set_self hr, hv⟩
  · rw [List.getElem?_set_ne (Ne.symm q)] at e ⊢
    exact h.2 r' v' e
def spWorth : Sp := fun vs H Q _ => ∃ x n : Int, vs = [.int x, .int n] ∧ Q (.int (g x n)) H
def spDivided (CB : Addr) : Sp := fun vs H Q E => ∃ n : Int, vs = [.int n] ∧ (1 ≤ n → n ≤ 36 → Q .non H) ∧ ((n < 1 ∨ 36 < n) → ∀ d, H d = none → E (.ref CB) (some d) (upd H d (.xd [("many", .int n), ("what", .str "n")])))
def spKeep : Sp := fun vs H Q _ => ∃ (W q : Addr) (rn : Nat) (w : Int) (xs : List V) (t : Tb (List Nat)) (lot : List Nat), vs = [.ref W, .int (rn : Nat), .int w, .ref q] ∧ rn < t.length ∧ H W = some (.lst xs) ∧ TabV H xs t ∧ H q = some (.tup (lotV lot)) ∧
  ∀ H' xs', But W H H' → H' W = some (.lst xs') → TabV H' xs' (keep t rn w lot) → Q .non H'
section
variable {P : Program} {w : World} {K : PySem.W.Frag} {mg : Str → Option Value} {base : Heap} {C1 C2 C3 C4 C5 : Addr}
theorem scWorthOf : FnScope ["number", "n"] ["number", "n"] (defScope sWorthOf) := ⟨rfl, rfl, rfl, by decide +kernel, rfl, by decide +kernel, by decide +kernel⟩
theorem ok_WorthOf (T : Txt P w K mg base C1 C2 C3 C4 C5) : Cl P w K mg base 1 "worth_of" spWorth [] := by
  refine cl_of T.d_worth_of scWorthOf (fun vs H Q E h => ?_) fun f cdv A outer s H vs Q E hr h => ?_
  · obtain ⟨x, n, rfl, _⟩ := h
    rfl
  · obtain ⟨x, n, rfl, k⟩ := h
    refine ⟨_, pss_one (ps_ret (pe_callBfun cr_gcd rfl T.ggcd (pa_cons (pv 0) (pa_cons (pv 1) pa_nil)))), ?_⟩
    exact ⟨_, rfl, _, rfl, _, _, rfl, k⟩
theorem scCheckDivided : FnScope ["n"] ["n"] (defScope sCheckDivided) := ⟨rfl, rfl, rfl, by decide +kernel, rfl, by decide +kernel, by decide +kernel⟩
theorem ok_CheckDivided (T : Txt P w K mg base C1 C2 C3 C4 C5) : Cl P w K mg base 3 "check_divided" (spDivided C2) [] := by
  refine cl_of T.d_check_divided scCheckDivided (fun vs H Q E h => ?_) fun f cdv A outer s H vs Q E hr h => ?_
  · obtain ⟨n, rfl, _⟩ := h
    rfl
  · obtain ⟨m, rfl, h1, h2⟩ := h
    refine ⟨_, (pss_one (ps_if (PW.pt (pw_or (pt_cmpR op_lt (pv 0) pe_int (nomark _)) (pw_or1 (pt_cmpR op_gt (pv 0) (pe_const rfl T.c_MOST_DIVIDED) (nomark _)))))
    (pss_one (ps_raise rfl (takes_of rfl rfl rfl rfl) (pmk_rs T.rBadCount hr (by decide) rfl (pa_cons pe_str (pa_cons (pv 0) pa_nil)))))
    pss_nil)), ?_⟩
    refine ⟨_, rfl, _, _, rfl, rfl, _, rfl, ?_⟩
    refine ifD (fun c => ?_) fun c => ?_
    · exact ⟨_, rfl, _, ⟨_, _, rfl, ⟨_, rfl, by decide +kernel⟩, rfl⟩, h2 (.inl c)⟩
    · refine ⟨_, rfl, _, _, rfl, rfl, _, rfl, ?_⟩
      refine ifD (fun c' => ?_) fun c' => ?_
      · exact ⟨_, rfl, _, ⟨_, _, rfl, ⟨_, rfl, by decide +kernel⟩, rfl⟩, h2 (.inr c')⟩
      · exact h1 (by omega) (by omega)
theorem scKeepLeast : FnScope ["table", "remainder", "worth", "lot"] ["table", "remainder", "worth", "lot"] (defScope sKeepLeast) := ⟨rfl, rfl, rfl, by decide +kernel, rfl, by decide +kernel, by decide +kernel⟩
theorem ok_KeepLeast (T : Txt P w K mg base C1 C2 C3 C4 C5) : Cl P w K mg base 1 "keep_least" spKeep [] := by
  refine cl_of T.d_keep_least scKeepLeast (fun vs H Q E h => ?_) fun f cdv A outer s H vs Q E hr h => ?_
  · obtain ⟨W, q, rn, w, xs, t, lot, rfl, _⟩ := h
    rfl
  · obtain ⟨W, q, rn, w, xs, t, lot, rfl, hr0, hW, hT, hq, k⟩ := h
    refine ⟨_, (pss_one (ps_if (PW.pt (pw_or (pt_cmpR op_isN (pe_ix ix_list (pv 0) (pv 1) (fun _ _ => rfl)) pe_non (nomark _)) (pw_or1 (pt_cmpR op_lt (pv 2) (pe_ix ix_tup (pe_ix ix_list (pv 0) (pv 1) (fun _ _ => rfl)) pe_int (fun _ _ => rfl)) (nomark _)))))
    (pss_one (ps_asg (pe_tup (pa_cons (pv 2) (pa_cons (pv 3) pa_nil))) (pg_sub (pv 0) (pv 1) set_list)))
    pss_nil)), ?_⟩
    have hxl : rn < xs.length := by rw [hT.1]; exact hr0
    obtain ⟨v, hv⟩ : ∃ v, xs[rn]? = some v := ⟨_, List.getElem?_eq_getElem hxl⟩
    obtain ⟨o, ho, hvo⟩ := hT.2 rn v hv
    have store : ∀ T0, H T0 = none → keep t rn w lot = t.set rn (some (w, lot)) → Q .non (upd (upd H T0 (.tup [.int w, .ref q])) W (.lst (xs.set rn (.ref T0)))) := fun T0 hT0 e => by
      have s1 : Same H (upd H T0 (.tup [.int w, .ref q])) := sm0 hT0
      have hW1 : upd H T0 (.tup [.int w, .ref q]) W = some (.lst xs) := s1 _ _ hW
      refine k _ _ ((But.of s1).trans But.upd) upd_same ?_
      rw [e]
      refine tab_set ((hT.same (same_tup s1)).same (tup_upd hW1)) hr0 ⟨T0, q, rfl, ?_, ?_⟩
      · exact tup_upd hW1 _ _ upd_same
      · exact tup_upd hW1 _ _ (s1 _ _ hq)
    refine ⟨_, rfl, _, rfl, W, _, _, v, rfl, rfl, SqL.of hW, atI_nat hv, rfl, _, rfl, ?_⟩
    cases o with
    | none =>
      obtain rfl : v = .non := hvo
      refine ifD (fun _ => ?_) fun z => absurd rfl z
      refine ⟨_, rfl, _, rfl, by show 2 ≤ sizeLine; decide, fun T0 hT0 => ?_⟩
      exact ⟨_, rfl, _, rfl, W, _, _, rn, rfl, rfl, sm0 hT0 _ _ hW, ixN_of rfl hxl, store T0 hT0 (by unfold keep; rw [ho])⟩
    | some e0 =>
      obtain ⟨p, q0, rfl, hp, hq0⟩ := hvo
      refine ifD (fun z => by cases z) fun _ => ?_
      refine ⟨_, rfl, _, rfl, _, rfl, W, _, _, _, rfl, rfl, SqL.of hW, atI_nat hv, p, _, _, _, rfl, rfl, SqT.of hp, atI0, _, _, rfl, rfl, _, rfl, ?_⟩
      refine ifD (fun c => ?_) fun c => ?_
      · refine ⟨_, rfl, _, rfl, by show 2 ≤ sizeLine; decide, fun T0 hT0 => ?_⟩
        exact ⟨_, rfl, _, rfl, W, _, _, rn, rfl, rfl, sm0 hT0 _ _ hW, ixN_of rfl hxl, store T0 hT0 (by unfold keep; rw [ho]; simp only; rw [if_pos c])⟩
      · refine k H xs (fun b o _ e => e) hW ?_
        rw [show keep t rn w lot = t by unfold keep; rw [ho]; simp only; rw [if_neg c]]
        exact hT
end
end K44
set_option maxRecDepth 100000
set_option maxHeartbeats 4000000
namespace K44
open PySem L2 SI
def Small (t : Tb (List Nat)) (m : Nat) : Prop := ∀ (r : Nat) e, t[r]? = some (some e) → e.2 ≠ [] ∧ e.2.length ≤ m
def spWith : Sp := fun vs H Q _ => ∃ (a : Addr) (i : Nat) (x n : Int) (xs : List V) (t : Tb (List Nat)), vs = [.ref a, .int (i : Nat), .int x, .int n] ∧ 1 ≤ n ∧ n ≤ 36 ∧ t.length = n.toNat ∧ H a = some (.lst xs) ∧ TabV H xs t ∧ Small t 200 ∧
  ∀ W H' xs', Same H H' → H W = none → H' W = some (.lst xs') → TabV H' xs' (withN n x i t) → Q (.ref W) H'
section
variable {P : Program} {w : World} {K : PySem.W.Frag} {mg : Str → Option Value} {base : Heap} {C1 C2 C3 C4 C5 : Addr}
theorem scWithNumber : FnScope ["table", "index", "number", "n", "wider", "share", "remainder", "worth", "lot"] ["table", "index", "number", "n"] (defScope sWithNumber) := ⟨rfl, rfl, rfl, by decide +kernel, rfl, by decide +kernel, by decide +kernel⟩
theorem ok_WithNumber (T : Txt P w K mg base C1 C2 C3 C4 C5) : Cl P w K mg base 2 "with_number" spWith [] := by
  have c_WorthOf := ok_WorthOf T
  have c_KeepLeast := ok_KeepLeast T
  refine cl_of T.d_with_number scWithNumber (fun vs H Q E h => ?_) fun f cdv A outer s H vs Q E hr h => ?_
  · obtain ⟨a, i, x, n, xs, t, rfl, _⟩ := h
    rfl
  · obtain ⟨a, i, x, n, xs, t, rfl, hn1, hn2, hl, ha, hT, hS, k⟩ := h
    refine ⟨_, (pss_cons (ps_set (i := 4) scWithNumber.nd rfl (by first | exact Or.inl rfl | exact Or.inr rfl) (pe_callTy call_list_of (by rfl) T.b_list (by decide +kernel) (pa_cons (pv 0) pa_nil)))
  (pss_cons (ps_set (i := 5) scWithNumber.nd rfl (by first | exact Or.inl rfl | exact Or.inr rfl) (pe_c c_WorthOf hr (by decide) rfl (pa_cons (pv 2) (pa_cons (pv 3) pa_nil))))
  (pss_cons (ps_expr (pe_c c_KeepLeast hr (by decide) rfl (pa_cons (pv 4) (pa_cons (pe_op op_mod (pv 2) (pv 3)) (pa_cons (pv 5) (pa_cons (pe_tup (pa_cons (pv 1) pa_nil)) pa_nil))))))
  (pss_cons (ps_for (passes_of rfl) rfl (pi_range1 (by rfl) T.b_range (pa_cons (pv 3) pa_nil)) (pg_name (i := 6) scWithNumber.nd rfl (by first | exact Or.inl rfl | exact Or.inr rfl))
    (pss_one (ps_if (pt_cmpR op_notN (pe_ix ix_list (pv 0) (pv 6) (fun _ _ => rfl)) pe_non (nomark _))
      (pss_cons (ps_asg (pe_ix ix_list (pv 0) (pv 6) (fun _ _ => rfl)) (pg_tup rfl (pgs_cons (pg_name (i := 7) scWithNumber.nd rfl (by first | exact Or.inl rfl | exact Or.inr rfl)) (pgs_cons (pg_name (i := 8) scWithNumber.nd rfl (by first | exact Or.inl rfl | exact Or.inr rfl)) pgs_nil))))
      (pss_one (ps_expr (pe_c c_KeepLeast hr (by decide) rfl (pa_cons (pv 4) (pa_cons (pe_op op_mod (pe_op op_add (pv 6) (pv 2)) (pv 3)) (pa_cons (pe_op op_add (pv 7) (pv 5)) (pa_cons (pe_op op_catT (pv 8) (pe_tup (pa_cons (pv 1) pa_nil))) pa_nil))))))))
      pss_nil)))
  (pss_one (ps_ret (pv 4))))))), ?_⟩
    have hm : ∀ z : Int, ((z % n).toNat : Int) = z % n := fun z => Int.toNat_of_nonneg (Int.emod_nonneg _ (by omega))
    have hm2 : ∀ z : Int, (z % n).toNat < t.length := fun z => by rw [hl]; exact toNat_lt hn1
    -- wider
    refine ⟨_, rfl, a, _, rfl, .inl (SqL.of ha), fun W hW => ?_⟩
    have s1 : Same H (upd H W (.lst xs)) := sm0 hW
    have hW1 : upd H W (.lst xs) W = some (.lst xs) := upd_same
    generalize upd H W (.lst xs) = H1 at s1 hW1 ⊢
    -- share
    refine ⟨_, rfl, _, rfl, x, n, rfl, ?_⟩
    -- keep_least
    refine ⟨_, rfl, _, rfl, _, rfl, _, _, rfl, rfl, (by omega), _, rfl, _, rfl, by show 1 ≤ sizeLine; decide, fun q hq => ?_⟩
    have s2 : Same H (upd H1 q (.tup [.int (i : Nat)])) := smN s1 hq
    have hW2 : upd H1 q (.tup [.int (i : Nat)]) W = some (.lst xs) := atN hW1 hq
    have hq2 : upd H1 q (.tup [.int (i : Nat)]) q = some (.tup (lotV [i])) := upd_same
    generalize upd H1 q (.tup [.int (i : Nat)]) = H2 at s2 hW2 hq2 ⊢
    refine ⟨W, q, (x % n).toNat, g x n, xs, t, [i], (by rw [hm]; rfl), hm2 x, hW2, hT.same (same_tup s2), hq2, fun H3 xs3 b3 hW3 hT3 => ?_⟩
    have s3 : Same H H3 := fun b o e => b3 b o (ne_of_none e hW) (s2 b o e)
    -- the loop
    refine ⟨_, rfl, n, rfl, (by omega), (by omega), for_range (lo := 0) (n := n.toNat) (fun j σ H' => ∃ (v6 v7 v8 : Option V) (ys : List V), σ = [some (.ref a), some (.int (i : Nat)), some (.int x), some (.int n), some (.ref W), some (.int (g x n)), v6, v7, v8] ∧ Same H H' ∧ H' W = some (.lst ys) ∧ TabV H' ys (steps n x (· ++ [i]) t (keep t (x % n).toNat (g x n) [i]) j))
      ⟨none, none, none, xs3, rfl, s3, hW3, hT3⟩ (fun j σ H' hj h => ?_) fun σ H' h => ?_⟩
    · obtain ⟨v6, v7, v8, ys, rfl, s4, hW4, hT4⟩ := h
      rw [Int.zero_add]
      have hjx : j < xs.length := by rw [hT.1, hl]; exact hj
      obtain ⟨v, hv⟩ : ∃ v, xs[j]? = some v := ⟨_, List.getElem?_eq_getElem hjx⟩
      obtain ⟨o, ho, hvo⟩ := hT.2 j v hv
      have ha4 := s4 _ _ ha
      refine ⟨_, rfl, _, rfl, a, _, _, v, rfl, rfl, SqL.of ha4, atI_nat hv, rfl, _, rfl, ?_⟩
      cases o with
      | none =>
        obtain rfl : v = .non := hvo
        refine ifN (fun z => absurd rfl z) fun _ => ?_
        refine ⟨_, _, _, ys, rfl, s4, hW4, ?_⟩
        show TabV H' ys (step n x (· ++ [i]) t _ j)
        rw [show step n x (· ++ [i]) t (steps n x (· ++ [i]) t (keep t (x % n).toNat (g x n) [i]) j) j = steps n x (· ++ [i]) t (keep t (x % n).toNat (g x n) [i]) j by unfold step; rw [ho]]
        exact hT4
      | some e0 =>
        obtain ⟨p, q0, rfl, hp, hq0⟩ := EntV.same (same_tup s4) hvo
        obtain ⟨hne, hsz⟩ := hS j e0 ho
        refine ifN (fun _ => ?_) fun z => by cases z
        refine ⟨_, rfl, _, rfl, a, _, _, _, rfl, rfl, SqL.of ha4, atI_nat hv, p, _, rfl, SqT.of hp, rfl, _, _, rfl, _, _, rfl, rfl, ?_⟩
        refine ⟨_, rfl, _, rfl, _, rfl, _, _, rfl, rfl, _, rfl, _, _, rfl, rfl, (by omega), _, rfl, _, rfl, _, _, rfl, rfl, ?_⟩
        refine ⟨_, rfl, _, rfl, by show 1 ≤ sizeLine; decide, fun q1 hq1 => ?_⟩
        have s5 : Same H' (upd H' q1 (.tup [.int (i : Nat)])) := sm0 hq1
        have hq5 : upd H' q1 (.tup [.int (i : Nat)]) q1 = some (.tup [.int (i : Nat)]) := upd_same
        generalize upd H' q1 (.tup [.int (i : Nat)]) = H5 at s5 hq5 ⊢
        refine ⟨q0, q1, lotV e0.2, [.int (i : Nat)], rfl, rfl, SqT.of (s5 _ _ hq0), SqT.of hq5, by simp [hne], sz_small (by simp; omega), (fun z => by cases z), fun _ q2 hq2 => ?_⟩
        have s6 : Same H' (upd H5 q2 (.tup (lotV e0.2 ++ [.int (i : Nat)]))) := smN s5 hq2
        have hq6 : upd H5 q2 (.tup (lotV e0.2 ++ [.int (i : Nat)])) q2 = some (.tup (lotV (e0.2 ++ [i]))) := by rw [upd_same]; simp
        generalize upd H5 q2 (.tup (lotV e0.2 ++ [.int (i : Nat)])) = H6 at s6 hq6 ⊢
        refine ⟨W, q2, (((j : Int) + x) % n).toNat, e0.1 + g x n, ys, _, e0.2 ++ [i], (by rw [hm]; rfl), ?_, s6 _ _ hW4, hT4.same (same_tup s6), hq6, fun H7 ys7 b7 hW7 hT7 => ?_⟩
        · rw [steps_len, keep_len]
          exact hm2 _
        · refine ⟨_, _, _, ys7, rfl, fun b o e => b7 b o (ne_of_none e hW) (s6 _ _ (s4 _ _ e)), hW7, ?_⟩
          show TabV H7 ys7 (step n x (· ++ [i]) t _ j)
          rw [show step n x (· ++ [i]) t (steps n x (· ++ [i]) t (keep t (x % n).toNat (g x n) [i]) j) j = keep (steps n x (· ++ [i]) t (keep t (x % n).toNat (g x n) [i]) j) (((j : Int) + x) % n).toNat (e0.1 + g x n) (e0.2 ++ [i]) by unfold step; rw [ho]]
          exact hT7
    · obtain ⟨v6, v7, v8, ys, rfl, s4, hW4, hT4⟩ := h
      exact ⟨_, rfl, k W H' ys s4 hW hW4 hT4⟩
end
end K44
set_option maxRecDepth 100000
set_option maxHeartbeats 4000000
namespace K44
open PySem L2 SI
abbrev Row (K : PySem.W.Frag) (H : Hp) (a : Addr) (row : List Int) : Prop := SqL K H a (row.map V.int) ∨ SqT K H a (row.map V.int)
abbrev tab0 (n : Int) : Tb (List Nat) := List.replicate n.toNat none
def spLots (K : PySem.W.Frag) : Sp := fun vs H Q _ => ∃ (a : Addr) (n : Int) (row : List Int), vs = [.ref a, .int n] ∧ 1 ≤ n ∧ n ≤ 36 ∧ row.length ≤ 100 ∧ Row K H a row ∧
  ∀ W H' xs, Same H H' → H' W = some (.lst xs) → TabV H' xs (lots n row 0 (tab0 n)) → Q (.ref W) H'
def spLot (K : PySem.W.Frag) (CB : Addr) : Sp := fun vs H Q E => ∃ (a : Addr) (n : Int) (row : List Int), vs = [.ref a, .int n] ∧ row.length ≤ 1000 ∧ Row K H a row ∧
  (1 ≤ n → n ≤ 36 → row.length ≤ 100 → ∀ v H', Same H H' → EntV H' v (leastLot n row) → Q v H') ∧
  ((n < 1 ∨ 36 < n) → ∀ d, H d = none → E (.ref CB) (some d) (upd H d (.xd [("many", .int n), ("what", .str "n")]))) ∧
  (1 ≤ n → n ≤ 36 → 100 < row.length → ∀ d, H d = none → E (.ref CB) (some d) (upd H d (.xd [("many", .int (row.length : Nat)), ("what", .str "numbers")])))
theorem tab0_v {n : Int} {H : Hp} : TabV H (List.replicate n.toNat V.non) (tab0 n) := ⟨by simp, fun r v e => by
  rw [List.getElem?_replicate] at e
  split at e
  · cases e
    exact ⟨none, by rw [List.getElem?_replicate, if_pos (by assumption)], rfl⟩
  · cases e⟩
theorem small_lots {n : Int} {row : List Int} {i : Nat} (hn : 1 ≤ n) (hi : i ≤ row.length) (h : i ≤ 200) : Small (lots n (row.take i) 0 (tab0 n)) 200 := fun r e he => by
  obtain ⟨a, b, c, _⟩ := (lots_ok hn row i hi).2 r e he
  exact ⟨a, by have := incr_len e.2 0 b (fun j hj => ⟨Nat.zero_le _, c j hj⟩) (Nat.zero_le _); omega⟩
section
variable {P : Program} {w : World} {K : PySem.W.Frag} {mg : Str → Option Value} {base : Heap} {C1 C2 C3 C4 C5 : Addr}
theorem rep_nil {n : Int} {v : V} : (List.replicate n.toNat [v]).flatten = List.replicate n.toNat v := by
  induction n.toNat with
  | zero => rfl
  | succ k ih => rw [List.replicate_succ, List.flatten_cons, ih]; rfl
theorem scLeastLots : FnScope ["numbers", "n", "table", "index", "number"] ["numbers", "n"] (defScope sLeastLots) := ⟨rfl, rfl, rfl, by decide +kernel, rfl, by decide +kernel, by decide +kernel⟩
theorem ok_LeastLots (T : Txt P w K mg base C1 C2 C3 C4 C5) : Cl P w K mg base 3 "least_lots" (spLots K) [] := by
  have c_WithNumber := ok_WithNumber T
  refine cl_of T.d_least_lots scLeastLots (fun vs H Q E h => ?_) fun f cdv A outer s H vs Q E hr h => ?_
  · obtain ⟨a, n, row, rfl, _⟩ := h
    rfl
  · obtain ⟨a, n, row, rfl, hn1, hn2, hl, ha, k⟩ := h
    rcases ha with ha | ha
    · refine ⟨_, (pss_cons (ps_set (i := 2) scLeastLots.nd rfl (by first | exact Or.inl rfl | exact Or.inr rfl) (pe_op op_rep (pe_lst (pa_cons pe_non pa_nil)) (pv 1)))
  (pss_cons (ps_for (passes_of rfl) rfl (pi_enum (by rfl) T.b_enumerate (pa_cons (pv 0) pa_nil)) (pg_tup rfl (pgs_cons (pg_name (i := 3) scLeastLots.nd rfl (by first | exact Or.inl rfl | exact Or.inr rfl)) (pgs_cons (pg_name (i := 4) scLeastLots.nd rfl (by first | exact Or.inl rfl | exact Or.inr rfl)) pgs_nil)))
    (pss_one (ps_set (i := 2) scLeastLots.nd rfl (by first | exact Or.inl rfl | exact Or.inr rfl) (pe_c c_WithNumber hr (by decide) rfl (pa_cons (pv 2) (pa_cons (pv 3) (pa_cons (pv 4) (pa_cons (pv 1) pa_nil))))))))
  (pss_one (ps_ret (pv 2))))), ?_⟩
      have step0 : ∀ (D : Addr), H D = none → True := fun _ _ => trivial
      refine ⟨by show 1 ≤ sizeLine; decide, fun l1 h1 => ?_⟩
      refine ⟨_, rfl, l1, n, _, rfl, rfl, upd_same, by omega, by omega, sz_small (by simp; omega), fun W0 hW0 => ?_⟩
      rw [rep_nil]
      have s0 : Same H (upd (upd H l1 (.lst [.non])) W0 (.lst (List.replicate n.toNat .non))) := smN (sm0 h1) hW0
      refine ⟨_, rfl, a, _, rfl, s0.seq ha, for_enumL (K := K) (a := a) (xs := row.map V.int) (fun i σ H' => i ≤ row.length ∧ ∃ (W : Addr) (v3 v4 : Option V) (xs : List V), σ = [some (.ref a), some (.int n), some (.ref W), v3, v4] ∧ Same H H' ∧ H' W = some (.lst xs) ∧ TabV H' xs (lots n (row.take i) 0 (tab0 n)))
        ⟨Nat.zero_le _, W0, none, none, _, rfl, s0, upd_same, by rw [List.take_zero]; exact tab0_v⟩ (fun i σ H' h => by obtain ⟨_, _, _, _, _, _, st, _⟩ := h; exact st.seq ha) (fun i x Tq σ H' hx h hT => ?_) fun σ H' h => ?_⟩
      · obtain ⟨hi, W, v3, v4, xs, rfl, st, hW, hTb⟩ := h
        obtain ⟨z, hz, rfl⟩ := ints_at hx
        have hil : i < row.length := (List.getElem?_eq_some_iff.mp hz).1
        refine ⟨Tq, _, rfl, .inl (.inl upd_same), rfl, ?_⟩
        have st1 : Same H' (upd H' Tq (.tup [.int (i : Nat), .int z])) := sm0 hT
        generalize upd H' Tq (.tup [.int (i : Nat), .int z]) = H1 at st1 ⊢
        refine ⟨_, _, rfl, _, _, rfl, rfl, _, rfl, _, rfl, _, rfl, _, rfl, W, i, z, n, xs, _, rfl, hn1, hn2, by rw [lots_len]; simp, st1 _ _ hW, hTb.same (same_tup st1), small_lots hn1 hi (by omega), fun W2 H2 xs2 s2 _ hW2 hT2 => ?_⟩
        refine ⟨hil, W2, _, _, xs2, rfl, (st.trans st1).trans s2, hW2, ?_⟩
        have e1 : row.take (i + 1) = row.take i ++ [z] := by rw [List.take_succ, hz]; rfl
        have e2 : (row.take i).length = i := by rw [List.length_take]; omega
        rw [e1, lots_snoc, e2, Nat.zero_add]
        exact hT2
      · obtain ⟨hi, W, v3, v4, xs, rfl, st, hW, hTb⟩ := h
        rw [List.length_map, List.take_length] at hTb
        exact ⟨_, rfl, k W H' xs st hW hTb⟩

    · refine ⟨_, (pss_cons (ps_set (i := 2) scLeastLots.nd rfl (by first | exact Or.inl rfl | exact Or.inr rfl) (pe_op op_rep (pe_lst (pa_cons pe_non pa_nil)) (pv 1)))
  (pss_cons (ps_for (passes_of rfl) rfl (pi_enumT (by rfl) T.b_enumerate (pa_cons (pv 0) pa_nil)) (pg_tup rfl (pgs_cons (pg_name (i := 3) scLeastLots.nd rfl (by first | exact Or.inl rfl | exact Or.inr rfl)) (pgs_cons (pg_name (i := 4) scLeastLots.nd rfl (by first | exact Or.inl rfl | exact Or.inr rfl)) pgs_nil)))
    (pss_one (ps_set (i := 2) scLeastLots.nd rfl (by first | exact Or.inl rfl | exact Or.inr rfl) (pe_c c_WithNumber hr (by decide) rfl (pa_cons (pv 2) (pa_cons (pv 3) (pa_cons (pv 4) (pa_cons (pv 1) pa_nil))))))))
  (pss_one (ps_ret (pv 2))))), ?_⟩
      have step0 : ∀ (D : Addr), H D = none → True := fun _ _ => trivial
      refine ⟨by show 1 ≤ sizeLine; decide, fun l1 h1 => ?_⟩
      refine ⟨_, rfl, l1, n, _, rfl, rfl, upd_same, by omega, by omega, sz_small (by simp; omega), fun W0 hW0 => ?_⟩
      rw [rep_nil]
      have s0 : Same H (upd (upd H l1 (.lst [.non])) W0 (.lst (List.replicate n.toNat .non))) := smN (sm0 h1) hW0
      refine ⟨_, rfl, a, _, rfl, smT s0 ha, for_enumT (K := K) (a := a) (xs := row.map V.int) (fun i σ H' => i ≤ row.length ∧ ∃ (W : Addr) (v3 v4 : Option V) (xs : List V), σ = [some (.ref a), some (.int n), some (.ref W), v3, v4] ∧ Same H H' ∧ H' W = some (.lst xs) ∧ TabV H' xs (lots n (row.take i) 0 (tab0 n)))
        ⟨Nat.zero_le _, W0, none, none, _, rfl, s0, upd_same, by rw [List.take_zero]; exact tab0_v⟩ (fun i σ H' h => by obtain ⟨_, _, _, _, _, _, st, _⟩ := h; exact smT st ha) (fun i x Tq σ H' hx h hT => ?_) fun σ H' h => ?_⟩
      · obtain ⟨hi, W, v3, v4, xs, rfl, st, hW, hTb⟩ := h
        obtain ⟨z, hz, rfl⟩ := ints_at hx
        have hil : i < row.length := (List.getElem?_eq_some_iff.mp hz).1
        refine ⟨Tq, _, rfl, .inl (.inl upd_same), rfl, ?_⟩
        have st1 : Same H' (upd H' Tq (.tup [.int (i : Nat), .int z])) := sm0 hT
        generalize upd H' Tq (.tup [.int (i : Nat), .int z]) = H1 at st1 ⊢
        refine ⟨_, _, rfl, _, _, rfl, rfl, _, rfl, _, rfl, _, rfl, _, rfl, W, i, z, n, xs, _, rfl, hn1, hn2, by rw [lots_len]; simp, st1 _ _ hW, hTb.same (same_tup st1), small_lots hn1 hi (by omega), fun W2 H2 xs2 s2 _ hW2 hT2 => ?_⟩
        refine ⟨hil, W2, _, _, xs2, rfl, (st.trans st1).trans s2, hW2, ?_⟩
        have e1 : row.take (i + 1) = row.take i ++ [z] := by rw [List.take_succ, hz]; rfl
        have e2 : (row.take i).length = i := by rw [List.length_take]; omega
        rw [e1, lots_snoc, e2, Nat.zero_add]
        exact hT2
      · obtain ⟨hi, W, v3, v4, xs, rfl, st, hW, hTb⟩ := h
        rw [List.length_map, List.take_length] at hTb
        exact ⟨_, rfl, k W H' xs st hW hTb⟩

theorem scLeastLot : FnScope ["numbers", "n"] ["numbers", "n"] (defScope sLeastLot) := ⟨rfl, rfl, rfl, by decide +kernel, rfl, by decide +kernel, by decide +kernel⟩
theorem ok_LeastLot (T : Txt P w K mg base C1 C2 C3 C4 C5) : Cd P w K mg base 4 "least_lot" sLeastLot ["numbers", "n"] (spLot K C2) := by
  have c_CheckDivided := ok_CheckDivided T
  have c_LeastLots := ok_LeastLots T
  refine cd_of T.d_least_lot scLeastLot (fun vs H Q E h => ?_) fun f cdv A outer s H vs Q E hr h => ?_
  · obtain ⟨a, n, row, rfl, _⟩ := h
    rfl
  · obtain ⟨a, n, row, rfl, hl, ha, k1, k2, k3⟩ := h
    refine ⟨_, (pss_cons (ps_expr (pe_cX (takes_of rfl rfl rfl rfl) c_CheckDivided hr (by decide) rfl (pa_cons (pv 1) pa_nil)))
  (pss_cons (ps_if (pt_cmpR op_gt (pe_callB call_len_seq (by rfl) T.b_len (by decide +kernel) (pa_cons (pv 0) pa_nil)) (pe_const rfl T.c_MOST_NUMBERS) (nomark _))
    (pss_one (ps_raise rfl (takes_of rfl rfl rfl rfl) (pmk_rs T.rBadCount hr (by decide) rfl (pa_cons pe_str (pa_cons (pe_callB call_len_seq (by rfl) T.b_len (by decide +kernel) (pa_cons (pv 0) pa_nil)) pa_nil)))))
    pss_nil)
  (pss_one (ps_ret (pe_ix ix_list (pe_c c_LeastLots hr (by decide) rfl (pa_cons (pv 0) (pa_cons (pv 1) pa_nil))) pe_int (fun _ _ => rfl)))))), ?_⟩
    have lenR : ∃ (b : Addr) (xs : List V), [V.ref a] = [V.ref b] ∧ (SqL K H b xs ∨ SqT K H b xs) ∧ xs.length = row.length := ⟨a, _, rfl, ha, by simp⟩
    refine ⟨_, rfl, n, rfl, fun hn1 hn2 => ?_, fun hn d hd => k2 hn d hd⟩
    refine ⟨_, rfl, a, _, rfl, ha, _, _, rfl, rfl, _, rfl, ?_⟩
    refine ifD (fun c => ?_) fun c => ?_
    · refine ⟨_, rfl, a, _, rfl, ha, _, ⟨_, _, rfl, ⟨_, rfl, by decide +kernel⟩, rfl⟩, fun d hd => ?_⟩
      have := k3 hn1 hn2 (by have c1 : (100 : Int) < (((row.map V.int).length : Nat) : Int) := c; rw [List.length_map] at c1; omega) d hd
      rw [List.length_map]
      exact this
    · have c' : row.length ≤ 100 := by
        have c1 : ¬ (100 : Int) < (((row.map V.int).length : Nat) : Int) := c
        rw [List.length_map] at c1
        omega
      refine ⟨_, rfl, _, rfl, a, n, row, rfl, hn1, hn2, c', ha, fun W H' xs st hW hT => ?_⟩
      have h0 := leastLot_at (row := row) hn1
      have hx0 : 0 < xs.length := by rw [hT.1]; exact (List.getElem?_eq_some_iff.mp h0).1
      obtain ⟨v, hv⟩ : ∃ v, xs[0]? = some v := ⟨_, List.getElem?_eq_getElem hx0⟩
      obtain ⟨o, ho, hvo⟩ := hT.2 0 v hv
      rw [h0] at ho
      cases ho
      exact ⟨W, _, _, v, rfl, rfl, SqL.of hW, atI_nat (j := 0) hv, k1 hn1 hn2 c' v H' st hvo⟩
end
end K44
set_option maxRecDepth 100000
set_option maxHeartbeats 4000000
set_option exponentiation.threshold 20000
namespace K44
open PySem L2 SI
theorem cdiv_small {n : Int} (h0 : 0 < n) (h1 : n ≤ 10 ^ 130) : CDivW 0 n := ⟨h0, by
  have e : n.natAbs < 2 ^ 500 := by
    have : (10 : Int) ^ 130 < 2 ^ 500 := by decide +kernel
    omega
  exact Nat.lt_of_lt_of_le (PySem.Flt.log2_lt_of (by decide) e) (by decide)⟩
theorem cmul_small {i j : Int} (h0 : i.natAbs < 2 ^ 10000) (h1 : j.natAbs < 2 ^ 10000) : CMulW i j := wide_mul h0 h1 (by decide) (by decide) (by decide)
theorem abs_small {n : Int} (h0 : -(10 ^ 200) ≤ n) (h1 : n ≤ 10 ^ 200) : n.natAbs < 2 ^ 10000 := by
  have h : (10 : Int) ^ 200 < 2 ^ 700 := by decide +kernel
  have h2 : (2 : Nat) ^ 700 ≤ 2 ^ 10000 := Nat.pow_le_pow_right (by decide) (by decide)
  refine Nat.lt_of_lt_of_le ?_ h2
  omega
def PoolAt (H : Hp) (p : Addr) : Prop := ∃ ns : List Int, H p = some (.lst (ns.map V.int)) ∧ 0 < ns.length ∧ ns.length ≤ 64
theorem draw_of {H : Hp} {p : Addr} {n : Int} {Q : VK} {E : XK} (hp : PoolAt H p) (h0 : 0 < n) (h1 : n ≤ 10 ^ 130) (k : ∀ d H', But p H H' → PoolAt H' p → 0 ≤ d → d < n → Q (.int d) H') : spDraw [.ref p, .int n] H Q E := by
  obtain ⟨ns, e, l1, l2⟩ := hp
  unfold spDraw
  exact ⟨p, ns, n, rfl, e, l1, l2, cdiv_small h0 h1, fun d ns' d0 d1 l3 l4 => k d _ But.upd ⟨ns', upd_same, l3, l4⟩ d0 d1⟩
theorem ix_ints {ns : List Int} {d : Int} (h0 : 0 ≤ d) (h1 : d < ((ns.map V.int).length : Nat)) : ∃ z, z ∈ ns ∧ atI (ns.map V.int) d = some (.int z) := by
  obtain ⟨j, rfl⟩ : ∃ j : Nat, d = (j : Int) := ⟨d.toNat, by omega⟩
  have hj : j < ns.length := by rw [List.length_map] at h1; omega
  exact ⟨ns[j], List.getElem_mem hj, atI_nat (at_ints (List.getElem?_eq_getElem hj))⟩
def spShared : Sp := fun vs H Q _ => ∃ x n : Int, vs = [.int x, .int n] ∧ 1 ≤ n ∧ n ≤ 36 ∧ Q (.int (g x n)) H
def spChoices : Sp := fun vs H Q _ => ∃ (p : Addr) (n : Int), vs = [.ref p, .int n] ∧ PoolAt H p ∧ 1 ≤ n ∧ n ≤ 36 ∧ ∀ M H' ms, But p H H' → PoolAt H' p → H M = none → H' M = some (.lst (List.map V.int ms)) → ms.length = 20 → (∀ z ∈ ms, -(10 ^ 200) ≤ z ∧ z ≤ 10 ^ 200) → Q (.ref M) H'
section
variable {P : Program} {w : World} {K : PySem.W.Frag} {mg : Str → Option Value} {base : Heap} {C1 C2 C3 C4 C5 : Addr}
theorem scLShared : FnScope ["number", "n", "j", "divisor"] ["number", "n"] (defScope sLShared) := ⟨rfl, rfl, rfl, by decide +kernel, rfl, by decide +kernel, by decide +kernel⟩
theorem ok_LShared (T : Txt P w K mg base C1 C2 C3 C4 C5) : Cl P w K mg base 1 "_law_shared" spShared [] := by
  refine cl_of T.d__law_shared scLShared (fun vs H Q E h => ?_) fun f cdv A outer s H vs Q E hr h => ?_
  · obtain ⟨x, n, rfl, _⟩ := h
    rfl
  · obtain ⟨x, n, rfl, hn1, hn2, k⟩ := h
    refine ⟨_, (pss_cons (ps_for (passes_of rfl) rfl (pi_range1 (by rfl) T.b_range (pa_cons (pv 1) pa_nil)) (pg_name (i := 2) scLShared.nd rfl (by first | exact Or.inl rfl | exact Or.inr rfl))
    (pss_cons (ps_set (i := 3) scLShared.nd rfl (by first | exact Or.inl rfl | exact Or.inr rfl) (pe_op op_sub (pv 1) (pv 2)))
    (pss_one (ps_if (PW.pt (pw_and (pt_cmpR op_eq (pe_op op_mod (pe_callTy call_intI (by rfl) T.b_int (by decide +kernel) (pa_cons (pv 1) pa_nil)) (pv 3)) pe_int (nomark _)) (pw_and1 (pt_cmpR op_eq (pe_op op_mod (pe_callTy call_intI (by rfl) T.b_int (by decide +kernel) (pa_cons (pv 0) pa_nil)) (pv 3)) pe_int (nomark _)))))
      (pss_one (ps_ret (pv 3)))
      pss_nil))))
  (pss_one (ps_ret pe_int))), ?_⟩
    refine ⟨_, rfl, n, rfl, (by omega), (by omega), for_range (lo := 0) (n := n.toNat) (fun j σ H' => ∃ v2 v3 : Option V, σ = [some (.int x), some (.int n), v2, v3] ∧ H' = H ∧ ∀ d', n - j < d' → d' ≤ n → ¬ (n % d' = 0 ∧ x % d' = 0))
      ⟨none, none, rfl, rfl, fun d' a b => by omega⟩ (fun j σ H' hj h => ?_) fun σ H' h => ?_⟩
    · obtain ⟨v2, v3, rfl, rfl, hd⟩ := h
      rw [Int.zero_add]
      refine ⟨_, rfl, _, rfl, _, _, rfl, rfl, _, rfl, _, rfl, _, rfl, _, _, rfl, rfl, (by omega), rfl, _, rfl, ifI (fun c => ?_) fun c => ?_⟩
      · refine ⟨_, rfl, _, rfl, _, rfl, _, _, rfl, rfl, (by omega), rfl, _, rfl, ifI (fun c2 => ?_) fun c2 => ?_⟩
        · refine ⟨_, rfl, ?_⟩
          have e := shared_is hn1 (by omega) c c2 hd
          show Q (.int (n - j)) H'
          rw [e]
          exact k
        · refine ⟨_, _, rfl, rfl, fun d' a b => ?_⟩
          by_cases q : d' = n - j
          · rw [q]; exact fun z => c2 z.2
          · exact hd d' (by omega) b
      · refine ⟨_, _, rfl, rfl, fun d' a b => ?_⟩
        by_cases q : d' = n - j
        · rw [q]; exact fun z => c z.1
        · exact hd d' (by omega) b
    · obtain ⟨v2, v3, rfl, rfl, hd⟩ := h
      exact (hd 1 (by omega) hn1 ⟨Int.emod_one n, Int.emod_one x⟩).elim
theorem scLChoices : FnScope ["pool", "n", "some", "divisors", "j", "menu", "k"] ["pool", "n"] (defScope sLChoices) := ⟨rfl, rfl, rfl, by decide +kernel, rfl, by decide +kernel, by decide +kernel⟩
theorem ok_LChoices (T : Txt P w K mg base C1 C2 C3 C4 C5) : Cl P w K mg base 2 "_law_choices" spChoices [] := by
  have c_LDraw := ok_LDraw T
  refine cl_of T.d__law_choices scLChoices (fun vs H Q E h => ?_) fun f cdv A outer s H vs Q E hr h => ?_
  · obtain ⟨p, n, rfl, _⟩ := h
    rfl
  · obtain ⟨p, n, rfl, hp, hn1, hn2, k⟩ := h
    refine ⟨_, (pss_cons (ps_set (i := 2) scLChoices.nd rfl (by first | exact Or.inl rfl | exact Or.inr rfl) (pe_c c_LDraw hr (by decide) rfl (pa_cons (pv 0) (pa_cons pe_int pa_nil))))
  (pss_cons (ps_setLc (i := 3) (own := [(("j" : Str), 4)]) (g := gName 4) (by rfl) scLChoices.nd rfl rfl (sw_true rfl rfl rfl (by decide +kernel)) (pi_range1 (by rfl) T.b_range (pa_cons (pv 1) pa_nil)) (blkOk_by (own := [(("j" : Str), 4)]) (N := ["pool", "n", "some", "divisors", "j", "menu", "k"]) (sc := defScope sLChoices) (by decide +kernel)) (fun _ _ _ _ _ => (pg_name (i := 4) scLChoices.nd rfl (by first | exact Or.inl rfl | exact Or.inr rfl))) (fun _ _ _ _ _ => (pts_one (pt_cmpR op_eq (pe_op op_mod (pe_callTy call_intI (by rfl) T.b_int (by decide +kernel) (pa_cons (pv 1) pa_nil)) (pe_op op_add (pv 4) pe_int)) pe_int (nomark _)))) (fun _ _ _ _ _ => (pe_op op_add (pv 4) pe_int)))
  (pss_cons (ps_set (i := 5) scLChoices.nd rfl (by first | exact Or.inl rfl | exact Or.inr rfl) (pe_lst (pa_cons pe_int (pa_cons pe_int (pa_cons (pe_un un_neg pe_int) (pa_cons (pv 1) (pa_cons (pe_un un_neg (pv 1)) (pa_cons (pe_op op_add (pv 1) pe_int) (pa_cons (pe_op op_sub (pv 1) pe_int) (pa_cons (pv 2) (pa_cons (pe_un un_neg (pv 2)) (pa_cons (pe_op op_mulW (pv 1) (pv 2)) pa_nil))))))))))))
  (pss_cons (ps_for (passes_of rfl) rfl (pi_range1 (by rfl) T.b_range (pa_cons pe_int pa_nil)) (pg_name (i := 6) scLChoices.nd rfl (by first | exact Or.inl rfl | exact Or.inr rfl))
    (pss_one (ps_expr (pe_bm PySem.F.plainAttrs_list PySem.F.slot_list_append PySem.F.type_list_append mt_append (pv 5) (pa_cons (pe_op op_mulW (pe_ix ix_list (pv 3) (pe_c c_LDraw hr (by decide) rfl (pa_cons (pv 0) (pa_cons (pe_callB call_len_seq (by rfl) T.b_len (by decide +kernel) (pa_cons (pv 3) pa_nil)) pa_nil))) (fun _ _ => rfl)) (pe_op op_sub (pe_c c_LDraw hr (by decide) rfl (pa_cons (pv 0) (pa_cons pe_int pa_nil))) pe_int)) pa_nil)))))
  (pss_one (ps_ret (pe_op op_cat (pv 5) (pe_lst (pa_cons (pe_op op_pow pe_int pe_int) (pa_cons (pe_op op_sub (pe_un un_neg (pe_op op_pow pe_int pe_int)) (pv 2)) (pa_cons (pe_op op_mulW (pe_op op_pow pe_int pe_int) (pe_op op_pow pe_int pe_int)) (pa_cons (pe_op op_sub pe_int (pe_op op_mulW (pe_op op_pow pe_int pe_int) (pe_op op_pow pe_int pe_int))) pa_nil)))))))))))), ?_⟩
    -- some
    refine ⟨_, rfl, draw_of hp (by decide) (by decide) fun d H1 b1 hp1 d0 d1 => ?_⟩
    -- divisors
    refine ⟨_, rfl, n, rfl, (by omega), (by omega), fun D hD => ?_⟩
    have npD : p ≠ D := by obtain ⟨ns, e, _⟩ := hp1; exact ne_of_none e hD
    refine lc_range (lo := 0) (n := n.toNat) (fun i H' => ∃ acc : List Int, Same H1 H' ∧ H' D = some (.lst (acc.map V.int)) ∧ acc.length ≤ i ∧ (0 < i → 0 < acc.length) ∧ ∀ z ∈ acc, 1 ≤ z ∧ z ≤ 36)
      ⟨[], sm0 hD, upd_same, Nat.le_refl _, fun z => absurd z (Nat.lt_irrefl _), fun z hz => by cases hz⟩ (fun i H' hi h => ?_) fun H' h => ?_
    · obtain ⟨acc, sh, hacc, hlen, hpos, hz⟩ := h
      rw [Int.zero_add]
      refine ⟨rfl, _, rfl, _, rfl, _, rfl, _, _, rfl, rfl, _, _, rfl, rfl, (by omega), rfl, _, rfl, ifI (fun c => ?_) fun c => ?_⟩
      · refine ⟨_, rfl, _, _, rfl, rfl, _, hacc, by rw [List.length_map]; exact sz_lt (by omega), acc ++ [(i : Int) + 1], smM sh hD, by rw [upd_same, List.map_append] <;> rfl, by simp; omega, fun _ => by simp, fun z hz2 => ?_⟩
        rcases List.mem_append.mp hz2 with q | q
        · exact hz z q
        · have e : z = (i : Int) + 1 := by simpa using q
          omega
      · refine ⟨acc, sh, hacc, by omega, fun _ => ?_, hz⟩
        by_cases q : i = 0
        · subst q
          exact absurd (Int.emod_one n) c
        · exact hpos (by omega)
    obtain ⟨dv, sh, hDv, hlen, hpos, hdv⟩ := h
    have hpos' : 0 < dv.length := hpos (by omega)
    have hp2 : PoolAt H' p := by obtain ⟨ns, e, l⟩ := hp1; exact ⟨ns, sh _ _ e, l⟩
    -- menu
    refine ⟨_, rfl, _, rfl, _, rfl, _, rfl, _, rfl, _, _, rfl, rfl, _, rfl, _, _, rfl, rfl, _, rfl, _, rfl, _, rfl, _, rfl, _, rfl, _, _, rfl, rfl, cmul_small (abs_small (by omega) (by omega)) (abs_small (by omega) (by omega)), by show 10 ≤ sizeLine; decide, fun M hM => ?_⟩
    have sM : Same H' (upd H' M (.lst (([0, 1, -1, n, -n, n + 1, n - 1, d, -d, n * d] : List Int).map V.int))) := sm0 hM
    have hM0 : upd H' M (.lst (([0, 1, -1, n, -n, n + 1, n - 1, d, -d, n * d] : List Int).map V.int)) M = some (.lst (([0, 1, -1, n, -n, n + 1, n - 1, d, -d, n * d] : List Int).map V.int)) := upd_same
    have npM : p ≠ M := by obtain ⟨ns, e, _⟩ := hp2; exact ne_of_none e hM
    have nDM : D ≠ M := ne_of_none hDv hM
    have hp3 : PoolAt (upd H' M (.lst (([0, 1, -1, n, -n, n + 1, n - 1, d, -d, n * d] : List Int).map V.int))) p := by obtain ⟨ns, e, l⟩ := hp2; exact ⟨ns, sM _ _ e, l⟩
    have hMH : H M = none := by
      cases e : H M with
      | none => rfl
      | some u =>
        have h1 := b1 M u (Ne.symm npM) e
        rw [sh _ _ h1] at hM
        cases hM
    have b3 : But p H (upd H' M (.lst (([0, 1, -1, n, -n, n + 1, n - 1, d, -d, n * d] : List Int).map V.int))) := (b1.trans (But.of sh)).trans (But.of sM)
    have hnd0 : 0 ≤ n * d := Int.mul_nonneg (by omega) d0
    have hnd1 : n * d ≤ 36 * 1000 := Int.mul_le_mul hn2 (by omega) d0 (by decide)
    have hb0 : ∀ z ∈ ([0, 1, -1, n, -n, n + 1, n - 1, d, -d, n * d] : List Int), -(10 ^ 9) ≤ z ∧ z ≤ 10 ^ 9 := fun z hz => by
      simp only [List.mem_cons, List.not_mem_nil, or_false] at hz
      omega
    refine ⟨6, rfl, (by decide), (by decide), for_range (lo := 0) (n := 6) (fun i σ H'' => ∃ (v : Option V) (acc : List Int), σ = [some (.ref p), some (.int n), some (.int d), some (.ref D), none, some (.ref M), v] ∧ But p H H'' ∧ PoolAt H'' p ∧ H'' M = some (.lst (acc.map V.int)) ∧ acc.length = 10 + i ∧ H'' D = some (.lst (dv.map V.int)) ∧ ∀ z ∈ acc, -(10 ^ 9) ≤ z ∧ z ≤ 10 ^ 9)
      ⟨none, [0, 1, -1, n, -n, n + 1, n - 1, d, -d, n * d], rfl, b3, hp3, hM0, rfl, sM _ _ hDv, hb0⟩ (fun i σ H'' hi h => ?_) fun σ H'' h => ?_⟩
    · obtain ⟨v, acc, rfl, b4, hp4, hM4, hl4, hD4, hbd⟩ := h
      refine ⟨_, rfl, .inl ⟨rfl, _, SqL.of hM4⟩, _, rfl, _, rfl, _, rfl, D, _, rfl, .inl (SqL.of hD4), draw_of hp4 (by rw [List.length_map]; omega) (by rw [List.length_map]; omega) fun d5 H5 b5 hp5 d50 d51 => ?_⟩
      have hD5 := b5 _ _ (Ne.symm npD) hD4
      have hM5 := b5 _ _ (Ne.symm npM) hM4
      obtain ⟨z, hz, hat⟩ := ix_ints d50 d51
      refine ⟨D, _, _, _, rfl, rfl, SqL.of hD5, hat, _, rfl, draw_of hp5 (by decide) (by decide) fun d6 H6 b6 hp6 d60 d61 => ?_⟩
      have hD6 := b6 _ _ (Ne.symm npD) hD5
      have hM6 := b6 _ _ (Ne.symm npM) hM5
      have bz := hdv z hz
      refine ⟨_, _, rfl, rfl, _, _, rfl, rfl, cmul_small (abs_small (by omega) (by omega)) (abs_small (by omega) (by omega)), M, _, _, rfl, rfl, hM6, by rw [List.length_map]; exact sz_lt (by omega), ?_⟩
      refine ⟨_, acc ++ [z * (d6 - 3)], rfl, ?_, ?_, by rw [upd_same, List.map_append] <;> rfl, by simp; omega, by rw [upd_ne nDM]; exact hD6, ?_⟩
      · exact fun b o nb e => by
          rw [upd_ne (ne_of_none e hMH)]
          exact b6 b o nb (b5 b o nb (b4 b o nb e))
      · obtain ⟨ns, e, l⟩ := hp6
        exact ⟨ns, by rw [upd_ne npM]; exact e, l⟩
      · intro y hy
        rcases List.mem_append.mp hy with q | q
        · exact hbd y q
        · have e : y = z * (d6 - 3) := by simpa using q
          have m1 : z * (d6 - 3) ≤ z * 4 := Int.mul_le_mul_of_nonneg_left (by omega) (by omega)
          have m2 : z * (-4) ≤ z * (d6 - 3) := Int.mul_le_mul_of_nonneg_left (by omega) (by omega)
          omega
    · obtain ⟨v, acc, rfl, b4, hp4, hM4, hl4, hD4, hbd⟩ := h
      refine ⟨_, rfl, _, _, rfl, rfl, pow10 (by decide) (by decide), _, _, rfl, rfl, pow10 (by decide) (by decide), _, rfl, _, rfl, _, _, rfl, rfl, _, _, rfl, rfl, pow10 (by decide) (by decide), _, _, rfl, rfl, pow10 (by decide) (by decide), _, _, rfl, rfl, cmul_small (abs_small (by decide +kernel) (by decide +kernel)) (abs_small (by decide +kernel) (by decide +kernel)), _, _, rfl, rfl, pow10 (by decide) (by decide), _, _, rfl, rfl, pow10 (by decide) (by decide), _, _, rfl, rfl, cmul_small (abs_small (by decide +kernel) (by decide +kernel)) (abs_small (by decide +kernel) (by decide +kernel)), _, _, rfl, rfl, by show 4 ≤ sizeLine; decide, fun L hL => ?_⟩
      refine ⟨M, L, _, _, rfl, rfl, atN hM4 hL, upd_same, by rw [List.length_map]; exact sz_small (by show acc.length + 4 ≤ _; omega), fun q hq => ?_⟩
      have sq : ∀ o, Same H'' (upd (upd H'' L _) q o) := fun o => smN (sm0 hL) hq
      have hqH : H q = none := by
        cases e : H q with
        | none => rfl
        | some u =>
          exfalso
          have nq : q ≠ p := by obtain ⟨ns, e, _⟩ := hp4; exact fun z => by rw [z, atN e hL] at hq; cases hq
          rw [(sm0 hL) _ _ (b4 q u nq e)] at hq
          cases hq
      refine k q _ (acc ++ [10 ^ Int.toNat 50, -10 ^ Int.toNat 50 - d, 10 ^ Int.toNat 60 * 10 ^ Int.toNat 60, 7 - 10 ^ Int.toNat 60 * 10 ^ Int.toNat 60]) (b4.trans (But.of (sq _))) ?_ hqH (by rw [upd_same, List.map_append] <;> rfl) (by simp; omega) ?_
      · obtain ⟨ns, e, l⟩ := hp4
        exact ⟨ns, sq _ _ _ e, l⟩
      · intro y hy
        have hc1 : (10 : Int) ^ Int.toNat 60 * 10 ^ Int.toNat 60 ≤ 10 ^ 190 := by decide +kernel
        have hc2 : (10 : Int) ^ Int.toNat 50 ≤ 10 ^ 190 := by decide +kernel
        have hc3 : (0 : Int) ≤ 10 ^ Int.toNat 60 * 10 ^ Int.toNat 60 := by decide +kernel
        have hc4 : (0 : Int) ≤ 10 ^ Int.toNat 50 := by decide +kernel
        rcases List.mem_append.mp hy with q | q
        · have := hbd y q
          omega
        · simp only [List.mem_cons, List.not_mem_nil, or_false] at q
          generalize (10 : Int) ^ Int.toNat 60 * 10 ^ Int.toNat 60 = X at q hc1 hc3
          generalize (10 : Int) ^ Int.toNat 50 = Y at q hc2 hc4
          omega
end
end K44
set_option maxRecDepth 100000
set_option maxHeartbeats 4000000
namespace K44
open PySem L2 SI
theorem cut_n {row : List Int} {n : Int} (h : 0 ≤ n) : cutV (row.map V.int) none (some n) = (row.take n.toNat).map V.int := by
  obtain ⟨ms, e, _, h2⟩ := cut_map V.int row none (some n)
  obtain ⟨k, rfl⟩ : ∃ k : Nat, n = (k : Int) := ⟨n.toNat, by omega⟩
  rw [HT.sIx_none, HT.sIx_nat, List.drop_zero, Nat.sub_zero] at h2
  rw [e, h2, Int.toNat_natCast, ← List.take_eq_take_min]
theorem leastLot_some {n : Int} {row : List Int} (hn1 : 1 ≤ n) (hn2 : n ≤ 36) (hl : (row.length : Int) = n) : ∃ w lot, leastLot n row = some (w, lot) ∧ w ≤ n := by
  obtain ⟨s, w, h1, h2, h3⟩ := PB.lot_exists hn1 hn2 row hl
  have ok := (leastLot_ok (row := row) hn1).1
  cases e : leastLot n row with
  | none =>
    rw [e] at ok
    exact (ok s w h1 h2).elim
  | some e0 =>
    rw [e] at ok
    have := ok.2 s w h1 h2
    exact ⟨e0.1, e0.2, rfl, by have h4 : e0.1 ≤ w := this; omega⟩
def spDiv (K : PySem.W.Frag) (CB CT : Addr) : Sp := fun vs H Q E => ∃ (a : Addr) (n : Int) (row : List Int), vs = [.ref a, .int n] ∧ row.length ≤ 1000 ∧ Row K H a row ∧
  (1 ≤ n → n ≤ 36 → n ≤ (row.length : Nat) → ∀ q w lot H', Same H H' → leastLot n (row.take n.toNat) = some (w, lot) → w ≤ n → H' q = some (.tup (lotV lot)) → Q (.ref q) H') ∧
  ((n < 1 ∨ 36 < n) → ∀ d, H d = none → E (.ref CB) (some d) (upd H d (.xd [("many", .int n), ("what", .str "n")]))) ∧
  (1 ≤ n → n ≤ 36 → ((row.length : Nat) : Int) < n → ∀ d, H d = none → E (.ref CT) (some d) (upd H d (.xd [("need", .int n), ("have", .int (row.length : Nat))])))
section
variable {P : Program} {w : World} {K : PySem.W.Frag} {mg : Str → Option Value} {base : Heap} {C1 C2 C3 C4 C5 : Addr}
theorem scDivisorLot : FnScope ["numbers", "n"] ["numbers", "n"] (defScope sDivisorLot) := ⟨rfl, rfl, rfl, by decide +kernel, rfl, by decide +kernel, by decide +kernel⟩
theorem ok_DivisorLot (T : Txt P w K mg base C1 C2 C3 C4 C5) : Cd P w K mg base 5 "divisor_lot" sDivisorLot ["numbers", "n"] (spDiv K C2 C5) := by
  have c_CheckDivided := ok_CheckDivided T
  have c_LeastLot := (ok_LeastLot T).cl
  refine cd_of T.d_divisor_lot scDivisorLot (fun vs H Q E h => ?_) fun f cdv A outer s H vs Q E hr h => ?_
  · obtain ⟨a, n, row, rfl, _⟩ := h
    rfl
  · obtain ⟨a, n, row, rfl, hl, ha, k1, k2, k3⟩ := h
    rcases ha with ha | ha
    · refine ⟨_, (pss_cons (ps_expr (pe_cX (takes_of rfl rfl rfl rfl) c_CheckDivided hr (by decide) rfl (pa_cons (pv 1) pa_nil)))
  (pss_cons (ps_if (pt_cmpR op_lt (pe_callB call_len_seq (by rfl) T.b_len (by decide +kernel) (pa_cons (pv 0) pa_nil)) (pv 1) (nomark _))
    (pss_one (ps_raise rfl (takes_of rfl rfl rfl rfl) (pmk_rs T.rTooFew hr (by decide) rfl (pa_cons (pe_callB call_len_seq (by rfl) T.b_len (by decide +kernel) (pa_cons (pv 0) pa_nil)) (pa_cons (pv 1) pa_nil)))))
    pss_nil)
  (pss_one (ps_ret (pe_ix ix_tup (pe_cX (takes_of rfl rfl rfl rfl) c_LeastLot hr (by decide) rfl (pa_cons (pe_slice sl_list (pv 0) po_none (po_some (pv 1))) (pa_cons (pv 1) pa_nil))) pe_int (fun _ _ => rfl)))))), ?_⟩
      refine ⟨_, rfl, n, rfl, fun hn1 hn2 => ?_, fun hn d hd => k2 hn d hd⟩
      refine ⟨_, rfl, a, _, rfl, .inl ha, _, rfl, _, _, rfl, rfl, _, rfl, ?_⟩
      refine ifD (fun c => ?_) fun c => ?_
      · have c1 : (((row.map V.int).length : Nat) : Int) < n := c
        rw [List.length_map] at c1
        refine ⟨_, rfl, a, _, rfl, .inl ha, _, rfl, _, ⟨_, _, rfl, trivial, rfl⟩, fun d hd => ?_⟩
        rw [List.length_map]
        exact k3 hn1 hn2 c1 d hd
      · have c1 : ¬ (((row.map V.int).length : Nat) : Int) < n := c
        rw [List.length_map] at c1
        have hln : ((row.take n.toNat).length : Int) = n := by rw [List.length_take]; omega
        obtain ⟨w0, lot, e, hw⟩ := leastLot_some hn1 hn2 hln
        have fin : ∀ (l1 : Addr) (H1 : Hp), Same H H1 → Row K H1 l1 (row.take n.toNat) → spLot K C2 [.ref l1, .int n] H1 (fun x H2 => ∃ p xs i v, x = .ref p ∧ V.int 1 = .int i ∧ SqT K H2 p xs ∧ atI xs i = some v ∧ Q v H2) E := fun l1 H1 s1 hr1 => by
          refine ⟨l1, n, row.take n.toNat, rfl, by omega, hr1, fun _ _ _ v H2 s2 hv => ?_, fun c => by omega, fun _ _ c => by omega⟩
          rw [e] at hv
          obtain ⟨p, q, rfl, hp, hq⟩ := hv
          exact ⟨p, _, _, _, rfl, rfl, SqT.of hp, atI1, k1 hn1 hn2 (by omega) q w0 lot H2 (s1.trans s2) e hw hq⟩
        refine ⟨_, rfl, _, rfl, _, rfl, a, _, rfl, ha, ?_⟩
        rw [cut_n (by omega)]
        intro l1 h1
        refine ⟨_, rfl, ?_⟩
        exact fin l1 _ (sm0 h1) (.inl (SqL.of upd_same))
    · refine ⟨_, (pss_cons (ps_expr (pe_cX (takes_of rfl rfl rfl rfl) c_CheckDivided hr (by decide) rfl (pa_cons (pv 1) pa_nil)))
  (pss_cons (ps_if (pt_cmpR op_lt (pe_callB call_len_seq (by rfl) T.b_len (by decide +kernel) (pa_cons (pv 0) pa_nil)) (pv 1) (nomark _))
    (pss_one (ps_raise rfl (takes_of rfl rfl rfl rfl) (pmk_rs T.rTooFew hr (by decide) rfl (pa_cons (pe_callB call_len_seq (by rfl) T.b_len (by decide +kernel) (pa_cons (pv 0) pa_nil)) (pa_cons (pv 1) pa_nil)))))
    pss_nil)
  (pss_one (ps_ret (pe_ix ix_tup (pe_cX (takes_of rfl rfl rfl rfl) c_LeastLot hr (by decide) rfl (pa_cons (pe_slice sl_tupA (pv 0) po_none (po_some (pv 1))) (pa_cons (pv 1) pa_nil))) pe_int (fun _ _ => rfl)))))), ?_⟩
      refine ⟨_, rfl, n, rfl, fun hn1 hn2 => ?_, fun hn d hd => k2 hn d hd⟩
      refine ⟨_, rfl, a, _, rfl, .inr ha, _, rfl, _, _, rfl, rfl, _, rfl, ?_⟩
      refine ifD (fun c => ?_) fun c => ?_
      · have c1 : (((row.map V.int).length : Nat) : Int) < n := c
        rw [List.length_map] at c1
        refine ⟨_, rfl, a, _, rfl, .inr ha, _, rfl, _, ⟨_, _, rfl, trivial, rfl⟩, fun d hd => ?_⟩
        rw [List.length_map]
        exact k3 hn1 hn2 c1 d hd
      · have c1 : ¬ (((row.map V.int).length : Nat) : Int) < n := c
        rw [List.length_map] at c1
        have hln : ((row.take n.toNat).length : Int) = n := by rw [List.length_take]; omega
        obtain ⟨w0, lot, e, hw⟩ := leastLot_some hn1 hn2 hln
        have fin : ∀ (l1 : Addr) (H1 : Hp), Same H H1 → Row K H1 l1 (row.take n.toNat) → spLot K C2 [.ref l1, .int n] H1 (fun x H2 => ∃ p xs i v, x = .ref p ∧ V.int 1 = .int i ∧ SqT K H2 p xs ∧ atI xs i = some v ∧ Q v H2) E := fun l1 H1 s1 hr1 => by
          refine ⟨l1, n, row.take n.toNat, rfl, by omega, hr1, fun _ _ _ v H2 s2 hv => ?_, fun c => by omega, fun _ _ c => by omega⟩
          rw [e] at hv
          obtain ⟨p, q, rfl, hp, hq⟩ := hv
          exact ⟨p, _, _, _, rfl, rfl, SqT.of hp, atI1, k1 hn1 hn2 (by omega) q w0 lot H2 (s1.trans s2) e hw hq⟩
        refine ⟨_, rfl, _, rfl, _, rfl, a, _, rfl, ha, fun hz => ?_, fun hz => ?_⟩
        · refine ⟨_, rfl, ?_⟩
          have e3 : row.take n.toNat = row := by
            have h2 := hz.2
            obtain ⟨kk, hkk⟩ : ∃ kk : Nat, n = (kk : Int) := ⟨n.toNat, by omega⟩
            rw [hkk, HT.sIx_nat, List.length_map] at h2
            exact List.take_of_length_le (by omega)
          exact fin a H (Same.refl H) (.inr (by rw [e3]; exact ha))
        · rw [cut_n (by omega)]
          intro l1 h1
          refine ⟨_, rfl, ?_⟩
          exact fin l1 _ (sm0 h1) (.inr (SqT.of upd_same))
end
end K44
set_option maxRecDepth 100000
set_option maxHeartbeats 4000000
set_option exponentiation.threshold 20000
namespace K44
open PySem L2 SI
local macro_rules | `(tactic| walk_at "lk") => `(tactic| first | exact lk_hit | exact lk_nil | (refine lk_next (by decide +kernel) ?_; walk_at "lk"))
theorem But.free {p q : Addr} {H H' : Hp} (b : But p H H') (hp : PoolAt H' p) (hq : H' q = none) : H q = none := by
  cases e : H q with
  | none => rfl
  | some u =>
    have nq : q ≠ p := by obtain ⟨ns, e, _⟩ := hp; exact fun z => by rw [z, e] at hq; cases hq
    rw [b q u nq e] at hq
    cases hq
theorem PoolAt.same {p : Addr} {H H' : Hp} (s : Same H H') (hp : PoolAt H p) : PoolAt H' p := by
  obtain ⟨ns, e, l⟩ := hp
  exact ⟨ns, s _ _ e, l⟩
theorem PoolAt.ne {p q : Addr} {H : Hp} (hp : PoolAt H p) (hq : H q = none) : p ≠ q := by
  obtain ⟨ns, e, l⟩ := hp
  exact ne_of_none e hq
def spNumbers : Sp := fun vs H Q _ => ∃ (p : Addr) (n size : Int), vs = [.ref p, .int n, .int size] ∧ PoolAt H p ∧ 1 ≤ n ∧ n ≤ 36 ∧ 0 ≤ size ∧ size ≤ 1000 ∧
  ∀ R H' row, But p H H' → PoolAt H' p → H R = none → H' R = some (.lst (List.map V.int row)) → row.length = size.toNat → Q (.ref R) H'
section
variable {P : Program} {w : World} {K : PySem.W.Frag} {mg : Str → Option Value} {base : Heap} {C1 C2 C3 C4 C5 : Addr}
theorem scLNumbers : FnScope ["pool", "n", "size", "style", "menu", "alike", "row", "k", "number"] ["pool", "n", "size"] (defScope sLNumbers) := ⟨rfl, rfl, rfl, by decide +kernel, rfl, by decide +kernel, by decide +kernel⟩
theorem ok_LNumbers (T : Txt P w K mg base C1 C2 C3 C4 C5) : Cl P w K mg base 3 "_law_numbers" spNumbers [] := by
  have c_LDraw := ok_LDraw T
  have c_LChoices := ok_LChoices T
  refine cl_of T.d__law_numbers scLNumbers (fun vs H Q E h => ?_) fun f cdv A outer s H vs Q E hr h => ?_
  · obtain ⟨p, n, size, rfl, _⟩ := h
    rfl
  · obtain ⟨p, n, size, rfl, hp, hn1, hn2, hs0, hs1, k⟩ := h
    refine ⟨_, (pss_cons (ps_set (i := 3) scLNumbers.nd rfl (by first | exact Or.inl rfl | exact Or.inr rfl) (pe_c c_LDraw hr (by decide) rfl (pa_cons (pv 0) (pa_cons pe_int pa_nil))))
  (pss_cons (ps_set (i := 4) scLNumbers.nd rfl (by first | exact Or.inl rfl | exact Or.inr rfl) (pe_c c_LChoices hr (by decide) rfl (pa_cons (pv 0) (pa_cons (pv 1) pa_nil))))
  (pss_cons (ps_set (i := 5) scLNumbers.nd rfl (by first | exact Or.inl rfl | exact Or.inr rfl) (pe_ix ix_list (pv 4) (pe_c c_LDraw hr (by decide) rfl (pa_cons (pv 0) (pa_cons pe_int pa_nil))) (fun _ _ => rfl)))
  (pss_cons (ps_set (i := 6) scLNumbers.nd rfl (by first | exact Or.inl rfl | exact Or.inr rfl) (pe_lst pa_nil))
  (pss_cons (ps_for (passes_of rfl) rfl (pi_range1 (by rfl) T.b_range (pa_cons (pv 2) pa_nil)) (pg_name (i := 7) scLNumbers.nd rfl (by first | exact Or.inl rfl | exact Or.inr rfl))
    (pss_cons (ps_set (i := 8) scLNumbers.nd rfl (by first | exact Or.inl rfl | exact Or.inr rfl) (pe_ix ix_list (pv 4) (pe_c c_LDraw hr (by decide) rfl (pa_cons (pv 0) (pa_cons pe_int pa_nil))) (fun _ _ => rfl)))
    (C8.pss_cut (ps_if (pt_cmpR op_eq (pv 3) pe_int (nomark _))
      (pss_one (ps_set (i := 8) scLNumbers.nd rfl (by first | exact Or.inl rfl | exact Or.inr rfl) (pv 5)))
      pss_nil)
    (C8.pss_cut (ps_if (pt_cmpR op_eq (pv 3) pe_int (nomark _))
      (pss_one (ps_set (i := 8) scLNumbers.nd rfl (by first | exact Or.inl rfl | exact Or.inr rfl) pe_int))
      pss_nil)
    (C8.pss_cut (ps_if (pt_cmpR op_eq (pv 3) pe_int (nomark _))
      (pss_one (ps_set (i := 8) scLNumbers.nd rfl (by first | exact Or.inl rfl | exact Or.inr rfl) (pe_op op_mulW (pe_ix ix_list (pv 4) pe_int (fun _ _ => rfl)) (pe_op op_add pe_int (pe_c c_LDraw hr (by decide) rfl (pa_cons (pv 0) (pa_cons pe_int pa_nil)))))))
      pss_nil)
    (C8.pss_cut (ps_if (pt_cmpR op_eq (pv 3) pe_int (nomark _))
      (pss_one (ps_set (i := 8) scLNumbers.nd rfl (by first | exact Or.inl rfl | exact Or.inr rfl) (pe_op op_sub (pe_c c_LDraw hr (by decide) rfl (pa_cons (pv 0) (pa_cons (pe_op op_add (pe_op op_mulW pe_int (pe_op op_pow pe_int pe_int)) pe_int) pa_nil))) (pe_op op_pow pe_int pe_int))))
      pss_nil)
    (C8.pss_cut (ps_if (pt_cmpR op_eq (pv 3) pe_int (nomark _))
      (pss_one (ps_set (i := 8) scLNumbers.nd rfl (by first | exact Or.inl rfl | exact Or.inr rfl) (pe_op op_sub (pe_op op_add pe_int (pe_c c_LDraw hr (by decide) rfl (pa_cons (pv 0) (pa_cons (pe_callB (call_max2 rfl) (by rfl) T.b_max (by decide +kernel) (pa_cons pe_int (pa_cons (pe_op op_sub (pv 1) pe_int) pa_nil))) pa_nil)))) (pe_op op_mulW (pv 1) (pe_c c_LDraw hr (by decide) rfl (pa_cons (pv 0) (pa_cons pe_int pa_nil)))))))
      pss_nil)
    (pss_one (ps_expr (pe_bm PySem.F.plainAttrs_list PySem.F.slot_list_append PySem.F.type_list_append mt_append (pv 6) (pa_cons (pv 8) pa_nil)))))))))))
  (pss_one (ps_ret (pv 6)))))))), ?_⟩
    refine ⟨_, rfl, draw_of hp (by decide) (by decide) fun style H1 b1 hp1 st0 st1 => ?_⟩
    refine ⟨_, rfl, _, rfl, p, n, rfl, hp1, hn1, hn2, fun m H2 ms b2 hp2 hm0 hm2 hml hbd => ?_⟩
    have npm : p ≠ m := hp1.ne hm0
    have hmH : H m = none := b1.free hp1 hm0
    refine ⟨_, rfl, _, rfl, draw_of hp2 (by decide) (by decide) fun d2 H3 b3 hp3 d20 d21 => ?_⟩
    have hm3 := b3 _ _ npm.symm hm2
    obtain ⟨alike, _, hat⟩ := ix_ints (ns := ms) d20 (by rw [List.length_map, hml]; exact d21)
    refine ⟨m, _, _, _, rfl, rfl, SqL.of hm3, hat, ?_⟩
    refine ⟨by show 0 ≤ sizeLine; decide, fun R hR => ?_⟩
    have hRH : H R = none := ((b1.trans b2).trans b3).free hp3 hR
    have s3 : Same H3 (upd H3 R (.lst [])) := sm0 hR
    have npR : p ≠ R := hp3.ne hR
    have nmR : m ≠ R := ne_of_none hm3 hR
    have put : ∀ {H' : Hp} {o : HO}, But p H H' → PoolAt H' p → But p H (upd H' R o) ∧ PoolAt (upd H' R o) p := fun {H' o} b hp => ⟨fun c u nc e => by rw [upd_ne (ne_of_none e hRH)]; exact b c u nc e, by obtain ⟨ns, e, l⟩ := hp; exact ⟨ns, by rw [upd_ne npR]; exact e, l⟩⟩
    refine ⟨_, rfl, size, rfl, (by omega), (by omega), for_range (lo := 0) (n := size.toNat) (fun i σ H' => ∃ (v7 v8 : Option V) (acc : List Int), σ = [some (.ref p), some (.int n), some (.int size), some (.int style), some (.ref m), some (.int alike), some (.ref R), v7, v8] ∧ But p H H' ∧ PoolAt H' p ∧ H' R = some (.lst (acc.map V.int)) ∧ H' m = some (.lst (ms.map V.int)) ∧ acc.length = i)
      ⟨none, none, [], rfl, ((b1.trans b2).trans b3).trans (But.of s3), hp3.same s3, upd_same, s3 _ _ hm3, rfl⟩ (fun i σ H' hi h => ?_) fun σ H' h => ?_⟩
    · obtain ⟨v7, v8, acc, rfl, b4, hp4, hR4, hm4, hl4⟩ := h
      rw [Int.zero_add]
      refine ⟨_, rfl, _, rfl, draw_of hp4 (by decide) (by decide) fun d5 H5 b45 hp5 d50 d51 => ?_⟩
      have b5 := b4.trans b45
      have hm5 := b45 _ _ npm.symm hm4
      have hR5 := b45 _ _ (Ne.symm npR) hR4
      obtain ⟨x5, _, hat5⟩ := ix_ints (ns := ms) d50 (by rw [List.length_map, hml]; exact d51)
      refine ⟨m, _, _, _, rfl, rfl, SqL.of hm5, hat5, ?_⟩
      refine ⟨fun σ' H' => ∃ x : Int, σ' = [some (.ref p), some (.int n), some (.int size), some (.int style), some (.ref m), some (.int alike), some (.ref R), some (.int (i : Nat)), some (.int x)] ∧ But p H H' ∧ PoolAt H' p ∧ H' R = some (.lst (acc.map V.int)) ∧ H' m = some (.lst (ms.map V.int)), ?_, ?_⟩
      · refine ⟨_, rfl, rfl, _, rfl, ifI (fun _ => ?_) fun _ => ?_⟩
        · exact ⟨_, rfl, alike, rfl, b5, hp5, hR5, hm5⟩
        · exact ⟨x5, rfl, b5, hp5, hR5, hm5⟩
      rintro _ H6 ⟨x6, rfl, b6, hp6, hR6, hm6⟩
      refine ⟨fun σ' H' => ∃ x : Int, σ' = [some (.ref p), some (.int n), some (.int size), some (.int style), some (.ref m), some (.int alike), some (.ref R), some (.int (i : Nat)), some (.int x)] ∧ But p H H' ∧ PoolAt H' p ∧ H' R = some (.lst (acc.map V.int)) ∧ H' m = some (.lst (ms.map V.int)), ?_, ?_⟩
      · refine ⟨_, rfl, rfl, _, rfl, ifI (fun _ => ?_) fun _ => ?_⟩
        · exact ⟨1, rfl, b6, hp6, hR6, hm6⟩
        · exact ⟨x6, rfl, b6, hp6, hR6, hm6⟩
      rintro _ H7 ⟨x7, rfl, b7, hp7, hR7, hm7⟩
      refine ⟨fun σ' H' => ∃ x : Int, σ' = [some (.ref p), some (.int n), some (.int size), some (.int style), some (.ref m), some (.int alike), some (.ref R), some (.int (i : Nat)), some (.int x)] ∧ But p H H' ∧ PoolAt H' p ∧ H' R = some (.lst (acc.map V.int)) ∧ H' m = some (.lst (ms.map V.int)), ?_, ?_⟩
      · refine ⟨_, rfl, rfl, _, rfl, ifI (fun _ => ?_) fun _ => ?_⟩
        · obtain ⟨y, hy, hat7⟩ := ix_ints (ns := ms) (d := 10) (by decide) (by rw [List.length_map, hml]; decide)
          have hyb := hbd y hy
          refine ⟨_, rfl, m, _, _, _, rfl, rfl, SqL.of hm7, hat7, _, rfl, draw_of hp7 (by decide) (by decide) fun d8 H8 b8 hp8 d80 d81 => ?_⟩
          exact ⟨_, _, rfl, rfl, _, _, rfl, rfl, cmul_small (abs_small hyb.1 hyb.2) (abs_small (by omega) (by omega)), _, rfl, b7.trans b8, hp8, b8 _ _ (Ne.symm npR) hR7, b8 _ _ npm.symm hm7⟩
        · exact ⟨x7, rfl, b7, hp7, hR7, hm7⟩
      rintro _ H8 ⟨x8, rfl, b8, hp8, hR8, hm8⟩
      refine ⟨fun σ' H' => ∃ x : Int, σ' = [some (.ref p), some (.int n), some (.int size), some (.int style), some (.ref m), some (.int alike), some (.ref R), some (.int (i : Nat)), some (.int x)] ∧ But p H H' ∧ PoolAt H' p ∧ H' R = some (.lst (acc.map V.int)) ∧ H' m = some (.lst (ms.map V.int)), ?_, ?_⟩
      · refine ⟨_, rfl, rfl, _, rfl, ifI (fun _ => ?_) fun _ => ?_⟩
        · refine ⟨_, rfl, _, _, rfl, rfl, pow10 (by decide) (by decide), _, _, rfl, rfl, cmul_small (abs_small (by decide +kernel) (by decide +kernel)) (abs_small (by decide +kernel) (by decide +kernel)), _, _, rfl, rfl, draw_of hp8 (by decide +kernel) (by decide +kernel) fun d9 H9 b9 hp9 d90 d91 => ?_⟩
          exact ⟨_, _, rfl, rfl, pow10 (by decide) (by decide), _, _, rfl, rfl, _, rfl, b8.trans b9, hp9, b9 _ _ (Ne.symm npR) hR8, b9 _ _ npm.symm hm8⟩
        · exact ⟨x8, rfl, b8, hp8, hR8, hm8⟩
      rintro _ H9 ⟨x9, rfl, b9, hp9, hR9, hm9⟩
      refine ⟨fun σ' H' => ∃ x : Int, σ' = [some (.ref p), some (.int n), some (.int size), some (.int style), some (.ref m), some (.int alike), some (.ref R), some (.int (i : Nat)), some (.int x)] ∧ But p H H' ∧ PoolAt H' p ∧ H' R = some (.lst (acc.map V.int)) ∧ H' m = some (.lst (ms.map V.int)), ?_, ?_⟩
      · refine ⟨_, rfl, rfl, _, rfl, ifI (fun _ => ?_) fun _ => ?_⟩
        · refine ⟨_, rfl, _, rfl, _, _, rfl, rfl, _, _, rfl, draw_of hp9 (by split <;> omega) (by split <;> omega) fun d10 H10 b10 hp10 d100 d101 => ?_⟩
          refine ⟨_, _, rfl, rfl, _, rfl, _, rfl, draw_of hp10 (by decide) (by decide) fun d11 H11 b11 hp11 d110 d111 => ?_⟩
          exact ⟨_, _, rfl, rfl, cmul_small (abs_small (by omega) (by omega)) (abs_small (by omega) (by omega)), _, _, rfl, rfl, _, rfl, (b9.trans b10).trans b11, hp11, b11 _ _ (Ne.symm npR) (b10 _ _ (Ne.symm npR) hR9), b11 _ _ npm.symm (b10 _ _ npm.symm hm9)⟩
        · exact ⟨x9, rfl, b9, hp9, hR9, hm9⟩
      rintro _ H10 ⟨x10, rfl, b10, hp10, hR10, hm10⟩
      obtain ⟨b12, hp12⟩ := put (o := .lst (acc.map V.int ++ [.int x10])) b10 hp10
      exact ⟨_, rfl, .inl ⟨rfl, _, SqL.of hR10⟩, _, rfl, R, _, _, rfl, rfl, hR10, by rw [List.length_map]; exact sz_lt (by omega), _, _, acc ++ [x10], rfl, b12, hp12, by rw [upd_same, List.map_append] <;> rfl, by rw [upd_ne nmR]; exact hm10, by simp [hl4]⟩
    · obtain ⟨v7, v8, acc, rfl, b4, hp4, hR4, hm4, hl4⟩ := h
      exact ⟨_, rfl, k R H' acc b4 hp4 hRH hR4 hl4⟩
end
end K44
set_option maxRecDepth 100000
set_option maxHeartbeats 4000000
namespace K44
open PySem L2 SI
local macro_rules | `(tactic| walk_at "lk") => `(tactic| first | exact lk_hit | exact lk_nil | (refine lk_next (by decide +kernel) ?_; walk_at "lk"))
def JOk (n : Int) (row : List Int) (lot : List Nat) : Prop := lot ≠ [] ∧ lot.Pairwise (· < ·) ∧ (∀ j ∈ lot, j < row.length) ∧ (at' row lot).sum % n = 0 ∧ ((at' row lot).map fun x => g x n).sum ≤ n
def spJudged : Sp := fun vs H Q _ => ∃ (a q : Addr) (n : Int) (row : List Int) (lot : List Nat), vs = [.ref a, .int n, .ref q] ∧ H a = some (.lst (row.map V.int)) ∧ 1 ≤ n ∧ n ≤ 36 ∧ H q = some (.tup (lotV lot)) ∧ JOk n row lot ∧ Q (.bl true) H
def spRefusal (K : PySem.W.Frag) : Sp := fun vs H Q _ => ∃ (a : Addr) (n : Int) (row : List Int) (xs : List V), vs = [.ref a, .int n] ∧ H a = some (.lst (row.map V.int)) ∧ row.length ≤ 1000 ∧
  (((n < 1 ∨ 36 < n) ∧ xs = [.str "BadCount", .str "n", .int n]) ∨ (1 ≤ n ∧ n ≤ 36 ∧ ((row.length : Nat) : Int) < n ∧ xs = [.str "TooFew", .int (row.length : Nat), .int n])) ∧
  ∀ L H', Same H H' → H' L = some (.lst xs) → Q (.ref L) H'
def spIs : Sp := fun vs H Q _ => ∃ (a b : Addr) (xs : List V), vs = [.ref a, .ref b] ∧ H a = some (.lst xs) ∧ H b = some (.lst xs) ∧ xs.length ≤ 1000 ∧ (∀ x ∈ xs, (∃ s : Str, x = .str s ∧ SeqAt.shaped (.str s) = true) ∨ ∃ i : Int, x = .int i) ∧ Q (.bl true) H
section
variable {P : Program} {w : World} {K : PySem.W.Frag} {mg : Str → Option Value} {base : Heap} {C1 C2 C3 C4 C5 : Addr}
theorem bt_list : PySem.bootBuiltins "list" = some (.type "list") := by decide +kernel
theorem is_int : PySem.W.kitOne K (.type "int") (.type "int") = some true := kit_ty (by decide +kernel)
theorem is_bool : PySem.W.kitOne K (.type "int") (.type "bool") = some false := kit_ty (by decide +kernel)
theorem is_tup : PySem.W.kitOne K (.type "tuple") (.type "tuple") = some true := kit_ty (by decide +kernel)
theorem is_sb : PySem.W.kitOne K (.type "str") (.type "bool") = some false := kit_ty (by decide +kernel)
theorem scLJudged : FnScope ["row", "n", "lot", "worth", "total", "last", "index"] ["row", "n", "lot"] (defScope sLJudged) := ⟨rfl, rfl, rfl, by decide +kernel, rfl, by decide +kernel, by decide +kernel⟩
theorem ok_LJudged (T : Txt P w K mg base C1 C2 C3 C4 C5) : Cl P w K mg base 2 "_law_judged" spJudged [] := by
  have c_LShared := ok_LShared T
  refine cl_of T.d__law_judged scLJudged (fun vs H Q E h => ?_) fun f cdv A outer s H vs Q E hr h => ?_
  · obtain ⟨a, q, n, row, lot, rfl, _⟩ := h
    rfl
  · obtain ⟨a, q, n, row, lot, rfl, ha, hn1, hn2, hq, ⟨o1, o2, o3, o4, o5⟩, k⟩ := h
    refine ⟨_, (pss_cons (ps_if (PW.pt (pw_or (pt_not (pt_val (pe_callB call_isi (by rfl) T.b_isinstance (by decide +kernel) (pa_cons (pv 2) (pa_cons (pe_bltn (v := .ty "tuple") (u := .type "tuple") (by rfl) T.b_tuple (by decide +kernel) rfl) pa_nil))))) (pw_or1 (pt_cmpR op_eq (pe_callB call_len_seq (by rfl) T.b_len (by decide +kernel) (pa_cons (pv 2) pa_nil)) pe_int (nomark _)))))
    (pss_one (ps_ret pe_bl))
    pss_nil)
  (pss_cons (ps_set (i := 3) scLJudged.nd rfl (by first | exact Or.inl rfl | exact Or.inr rfl) pe_int)
  (pss_cons (ps_set (i := 4) scLJudged.nd rfl (by first | exact Or.inl rfl | exact Or.inr rfl) pe_int)
  (pss_cons (ps_set (i := 5) scLJudged.nd rfl (by first | exact Or.inl rfl | exact Or.inr rfl) (pe_un un_neg pe_int))
  (pss_cons (ps_for (passes_of rfl) rfl (pi_tup (pv 2)) (pg_name (i := 6) scLJudged.nd rfl (by first | exact Or.inl rfl | exact Or.inr rfl))
    (pss_cons (ps_if (PW.pt (pw_or (pt_not (pt_val (pe_callB call_isi (by rfl) T.b_isinstance (by decide +kernel) (pa_cons (pv 6) (pa_cons (pe_bltn (v := .ty "int") (u := .type "int") (by rfl) T.b_int (by decide +kernel) rfl) pa_nil))))) (pw_or1 (pt_val (pe_callB call_isi (by rfl) T.b_isinstance (by decide +kernel) (pa_cons (pv 6) (pa_cons (pe_bltn (v := .ty "bool") (u := .type "bool") (by rfl) T.b_bool (by decide +kernel) rfl) pa_nil)))))))
      (pss_one (ps_ret pe_bl))
      pss_nil)
    (pss_cons (ps_if (PW.pt (pw_or (pt_cmpR op_le (pv 6) (pv 5) (nomark _)) (pw_or1 (pt_cmpR op_ge (pv 6) (pe_callB call_len_seq (by rfl) T.b_len (by decide +kernel) (pa_cons (pv 0) pa_nil)) (nomark _)))))
      (pss_one (ps_ret pe_bl))
      pss_nil)
    (pss_cons (ps_set (i := 5) scLJudged.nd rfl (by first | exact Or.inl rfl | exact Or.inr rfl) (pv 6))
    (pss_cons (ps_set (i := 3) scLJudged.nd rfl (by first | exact Or.inl rfl | exact Or.inr rfl) (pe_op op_add (pv 3) (pe_c c_LShared hr (by decide) rfl (pa_cons (pe_ix ix_list (pv 0) (pv 6) (fun _ _ => rfl)) (pa_cons (pv 1) pa_nil)))))
    (pss_one (ps_set (i := 4) scLJudged.nd rfl (by first | exact Or.inl rfl | exact Or.inr rfl) (pe_op op_add (pv 4) (pe_ix ix_list (pv 0) (pv 6) (fun _ _ => rfl))))))))))
  (pss_one (ps_ret (pe_and (pe_cmpR op_eq (pe_op op_mod (pe_callTy call_intI (by rfl) T.b_int (by decide +kernel) (pa_cons (pv 4) pa_nil)) (pv 1)) pe_int (nomark _)) (pe_one (pe_cmpR op_le (pv 3) (pv 1) (nomark _))))))))))), ?_⟩
    refine ⟨_, rfl, _, _, _, _, _, rfl, .ty "tuple", .base (.tup hq), is_tup, _, rfl, iteF ?_⟩
    have hl0 : lot.length ≠ 0 := fun z => o1 (List.length_eq_zero_iff.mp z)
    refine ⟨_, rfl, q, _, rfl, .inr (SqT.of hq), rfl, _, rfl, ifI (fun c => absurd c (by rw [List.length_map]; omega)) fun _ => ?_⟩
    refine ⟨_, rfl, _, rfl, q, rfl, ⟨_, SqT.of hq⟩, for_tup (K := K) (a := q) (xs := lotV lot) (fun i σ H' => H' = H ∧ ∃ (la : Int) (v8 : Option V), σ = [some (.ref a), some (.int n), some (.ref q), some (.int ((at' row (lot.take i)).map fun x => g x n).sum), some (.int (at' row (lot.take i)).sum), some (.int la), v8] ∧ ∀ j, lot[i]? = some j → la < (j : Int))
      ⟨rfl, -1, none, rfl, fun j _ => by omega⟩ (fun i σ H' _ h => by rw [h.1]; exact SqT.of hq) (fun i x σ H' hx h => ?_) fun σ H' h => ?_⟩
    · obtain ⟨rfl, la, v8, rfl, hla⟩ := h
      have hi : i < lot.length := by
        have := (List.getElem?_eq_some_iff.mp hx).1
        rw [List.length_map] at this
        exact this
      obtain ⟨j, hj⟩ : ∃ j, lot[i]? = some j := ⟨_, List.getElem?_eq_getElem hi⟩
      obtain rfl : x = .int (j : Nat) := by
        rw [List.getElem?_map, hj] at hx
        exact (Option.some.inj hx).symm
      have hjr := o3 j (List.mem_of_getElem? hj)
      obtain ⟨y, hy⟩ : ∃ y, row[j]? = some y := ⟨_, List.getElem?_eq_getElem hjr⟩
      have hlaj := hla j hj
      refine ⟨_, rfl, _, _, _, _, _, rfl, .ty "int", .base (.int _), is_int, _, rfl, iteF ?_⟩
      refine ⟨_, rfl, _, _, _, _, _, rfl, .ty "bool", .base (.int _), is_bool, _, rfl, iteF ?_⟩
      refine ⟨_, rfl, _, rfl, _, _, rfl, rfl, _, rfl, ifD (fun c => by omega) fun _ => ?_⟩
      refine ⟨_, rfl, _, rfl, a, _, rfl, .inl (SqL.of ha), _, _, rfl, rfl, _, rfl, ifD (fun c => by rw [List.length_map] at c; omega) fun _ => ?_⟩
      refine ⟨_, rfl, _, rfl, _, rfl, _, rfl, a, _, _, _, rfl, rfl, SqL.of ha, atI_nat (at_ints hy), _, rfl, y, n, rfl, hn1, hn2, _, _, rfl, rfl, ?_⟩
      refine ⟨_, rfl, _, rfl, _, rfl, a, _, _, _, rfl, rfl, SqL.of ha, atI_nat (at_ints hy), _, _, rfl, rfl, ?_⟩
      have et : lot.take (i + 1) = lot.take i ++ [j] := by rw [List.take_succ, hj]; rfl
      have ea : at' row (lot.take (i + 1)) = at' row (lot.take i) ++ [y] := by
        rw [et, at', at', List.map_append]
        show _ ++ [row.getD j 0] = _
        rw [List.getD_eq_getElem?_getD, hy]
        rfl
      refine ⟨rfl, (j : Int), some (.int (j : Nat)), ?_, fun j' hj' => ?_⟩
      · rw [ea, List.map_append, sum_app, sum_app]
        simp
      · have h1 : (lot[i]'hi) < (lot[i + 1]'(List.getElem?_eq_some_iff.mp hj').1) := List.pairwise_iff_getElem.mp o2 i (i + 1) hi (List.getElem?_eq_some_iff.mp hj').1 (by omega)
        have h2 := (List.getElem?_eq_some_iff.mp hj).2
        have h3 := (List.getElem?_eq_some_iff.mp hj').2
        omega
    · obtain ⟨rfl, la, v8, rfl, hla⟩ := h
      rw [List.length_map, List.take_length]
      refine ⟨_, rfl, _, rfl, _, rfl, _, _, rfl, rfl, (by omega), rfl, _, rfl, ifI (fun c => ?_) fun c => absurd o4 c⟩
      refine ⟨_, rfl, _, rfl, _, _, rfl, rfl, ?_⟩
      show Q (V.bl (decide ((List.map (fun x => g x n) (at' row lot)).sum ≤ n))) H'
      rw [decide_eq_true o5]
      exact k
theorem scLRefusal : FnScope ["row", "n", "told", "e", "marks"] ["row", "n"] (defScope sLRefusal) := ⟨rfl, rfl, rfl, by decide +kernel, rfl, by decide +kernel, by decide +kernel⟩
theorem ok_LRefusal (T : Txt P w K mg base C1 C2 C3 C4 C5) : Cl P w K mg base 6 "_law_refusal" (spRefusal K) [] := by
  have c_DivisorLot := (ok_DivisorLot T).cl
  refine cl_of T.d__law_refusal scLRefusal (fun vs H Q E h => ?_) fun f cdv A outer s H vs Q E hr h => ?_
  · obtain ⟨a, n, row, xs, rfl, _⟩ := h
    rfl
  · obtain ⟨a, n, row, xs, rfl, ha, hl, hc, k⟩ := h
    refine ⟨_, (pss_cons (ps_set (i := 2) scLRefusal.nd rfl (by first | exact Or.inl rfl | exact Or.inr rfl) (pe_lst (pa_cons pe_str pa_nil)))
  (pss_cons (ps_try_as (i := 3) rfl rfl scLRefusal.nd rfl rfl ⟨rfl, by decide, Or.inl T.gPebbleError⟩ takes0
    (fun W pn xe tk po => (pss_one (ps_expr (pe_cX tk c_DivisorLot hr (by decide) rfl (pa_cons (pe_callTy call_list_ofT (by rfl) T.b_list bt_list (pa_cons (pv 0) pa_nil)) (pa_cons (pv 1) pa_nil))))))
    (fun a oe cls d pn hz hf => (pss_cons (ps_set (i := 2) scLRefusal.nd rfl (by first | exact Or.inl rfl | exact Or.inr rfl) (pe_lst (pa_cons pe_str pa_nil)))
    (pss_cons (ps_set (i := 4) scLRefusal.nd rfl (by first | exact Or.inl rfl | exact Or.inr rfl) (pe_lst (pa_cons (pe_callB (call_isS T.ek hz hf) (by rfl) T.b_isinstance (by decide +kernel) (pa_cons (pv 3) (pa_cons (pe_glob (v := .ref C2) rfl T.gBadCount rfl) pa_nil))) (pa_cons (pe_callB (call_isS T.ek hz hf) (by rfl) T.b_isinstance (by decide +kernel) (pa_cons (pv 3) (pa_cons (pe_glob (v := .ref C5) rfl T.gTooFew rfl) pa_nil))) (pa_cons (pe_callB (call_isS T.ek hz hf) (by rfl) T.b_isinstance (by decide +kernel) (pa_cons (pv 3) (pa_cons (pe_glob (v := .ref C3) rfl T.gWrongWidth rfl) pa_nil))) pa_nil)))))
    (pss_cons (ps_set (i := 4) scLRefusal.nd rfl (by first | exact Or.inl rfl | exact Or.inr rfl) (pe_op op_cat (pv 4) (pe_lst (pa_cons (pe_callB (call_isS T.ek hz hf) (by rfl) T.b_isinstance (by decide +kernel) (pa_cons (pv 3) (pa_cons (pe_glob (v := .ref C4) rfl T.gTooWide rfl) pa_nil))) (pa_cons (pe_callB (call_isS T.ek hz hf) (by rfl) T.b_isinstance (by decide +kernel) (pa_cons (pv 3) (pa_cons (pe_bltn (v := .ty "ValueError") (u := .type "ValueError") (by rfl) T.b_ValueError (by decide +kernel) rfl) pa_nil))) pa_nil)))))
    (C8.pss_cut (ps_if (pt_cmpR (op_eqDS (X := cxd P w K mg base ["row", "n", "told", "e", "marks"] "_law_refusal" sLRefusal f cdv A outer s H E) hr.units) (pv 4) (pe_lst (pa_cons pe_bl (pa_cons pe_bl (pa_cons pe_bl (pa_cons pe_bl (pa_cons pe_bl pa_nil)))))) (nomark _))
      (pss_one (ps_set (i := 2) scLRefusal.nd rfl (by first | exact Or.inl rfl | exact Or.inr rfl) (pe_lst (pa_cons pe_str (pa_cons (pe_errS hz hf (pv 3)) (pa_cons (pe_errS hz hf (pv 3)) pa_nil))))))
      pss_nil)
    (pss_one (ps_if (pt_cmpR (op_eqDS (X := cxd P w K mg base ["row", "n", "told", "e", "marks"] "_law_refusal" sLRefusal f cdv A outer s H E) hr.units) (pv 4) (pe_lst (pa_cons pe_bl (pa_cons pe_bl (pa_cons pe_bl (pa_cons pe_bl (pa_cons pe_bl pa_nil)))))) (nomark _))
      (pss_one (ps_set (i := 2) scLRefusal.nd rfl (by first | exact Or.inl rfl | exact Or.inr rfl) (pe_lst (pa_cons pe_str (pa_cons (pe_errS hz hf (pv 3)) (pa_cons (pe_errS hz hf (pv 3)) pa_nil))))))
      pss_nil))))))))
  (pss_one (ps_ret (pv 2))))), ?_⟩
    refine ⟨by show 1 ≤ sizeLine; decide, fun l0 h0 => ?_⟩
    have s0 : Same H (upd H l0 (.lst [.str "none"])) := sm0 h0
    refine ⟨_, rfl, a, _, rfl, .inl (SqL.of (s0 _ _ ha)), fun b hb => ?_⟩
    have s1 : Same H (upd (upd H l0 (.lst [.str "none"])) b (.lst (row.map V.int))) := smN s0 hb
    have hb1 : upd (upd H l0 (.lst [.str "none"])) b (.lst (row.map V.int)) b = some (.lst (row.map V.int)) := upd_same
    have hl0 : upd (upd H l0 (.lst [.str "none"])) b (.lst (row.map V.int)) l0 = some (.lst [.str "none"]) := atN upd_same hb
    generalize upd (upd H l0 (.lst [.str "none"])) b (.lst (row.map V.int)) = H2 at s1 hb1 hl0 ⊢
    refine ⟨_, rfl, b, n, row, rfl, hl, .inl (SqL.of hb1), fun n1 n2 n3 => ?_, fun n0 d hd => ?_, fun n1 n2 n3 d hd => ?_⟩
    · rcases hc with hc | hc <;> omega
    · have ew : xs = [.str "BadCount", .str "n", .int n] := by
        rcases hc with hc | hc
        · exact hc.2
        · omega
      subst ew
      have nl0 : l0 ≠ d := ne_of_none hl0 hd
      have hx0 : ∀ m, upd H2 d m d = some m := fun m => upd_same
      refine ⟨true, T.xBadCount_PebbleError, fun _ ad na => ?_, fun z => nomatch z⟩
      refine ⟨by show 1 ≤ sizeLine; decide, fun l1 h1 => ?_⟩
      have tr : ∀ {Hx : Hp} {fs}, Hx d = some (.xd fs) → ∀ dd, some d = some dd → ∃ fs, Hx dd = some (.xd fs) := fun e dd z => by cases z; exact ⟨_, e⟩
      have e1 := atN (q := l1) (o := .lst [.str "odd"]) (hx0 (.xd [("many", .int n), ("what", .str "n")])) h1
      refine ⟨_, rfl, C2, _, _, true, rfl, T.eBadCount, rfl, .own C2, T.tBadCount_BadCount, tr e1, ?_⟩
      refine ⟨_, rfl, C2, _, _, false, rfl, T.eBadCount, rfl, .own C5, T.tBadCount_TooFew, tr e1, ?_⟩
      refine ⟨_, rfl, C2, _, _, false, rfl, T.eBadCount, rfl, .own C3, T.tBadCount_WrongWidth, tr e1, ?_⟩
      refine ⟨by show 3 ≤ sizeLine; decide, fun l2 h2 => ?_⟩
      have e2 := atN (q := l2) (o := .lst [.bl true, .bl false, .bl false]) e1 h2
      refine ⟨_, rfl, _, rfl, C2, _, _, false, rfl, T.eBadCount, rfl, .own C4, T.tBadCount_TooWide, tr e2, ?_⟩
      refine ⟨_, rfl, C2, _, _, true, rfl, T.eBadCount, rfl, .ty "ValueError", T.tBadCount_ValueError, tr e2, ?_⟩
      refine ⟨by show 2 ≤ sizeLine; decide, fun l3 h3 => ?_⟩
      have e3 := atN (q := l3) (o := .lst [.bl false, .bl true]) e2 h3
      refine ⟨l2, l3, _, _, rfl, rfl, atN upd_same h3, upd_same, by show 5 ≤ sizeLine; decide, fun l4 h4 => ?_⟩
      have e4 := atN (q := l4) (o := .lst ([.bl true, .bl false, .bl false] ++ [.bl false, .bl true])) e3 h4
      have s4 := smN (o := .lst ([.bl true, .bl false, .bl false] ++ [.bl false, .bl true])) (smN (o := .lst [.bl false, .bl true]) (smN (o := .lst [.bl true, .bl false, .bl false]) (smN (o := .lst [.str "odd"]) (smN (o := .xd [("many", .int n), ("what", .str "n")]) s1 hd) h1) h2) h3) h4
      have g4 : ∀ {Hz : Hp}, upd Hz l4 (.lst ([.bl true, .bl false, .bl false] ++ [.bl false, .bl true])) l4 = some (.lst [.bl true, .bl false, .bl false, .bl false, .bl true]) := upd_same
      have f4 := g4 (Hz := upd (upd (upd (upd H2 d (.xd [("many", .int n), ("what", .str "n")])) l1 (.lst [.str "odd"])) l2 (.lst [.bl true, .bl false, .bl false])) l3 (.lst [.bl false, .bl true]))
      generalize upd (upd (upd (upd (upd H2 d (.xd [("many", .int n), ("what", .str "n")])) l1 (.lst [.str "odd"])) l2 (.lst [.bl true, .bl false, .bl false])) l3 (.lst [.bl false, .bl true])) l4 (.lst ([.bl true, .bl false, .bl false] ++ [.bl false, .bl true])) = H4 at e4 s4 f4 ⊢
      refine ⟨fun σ' H' => ∃ l9 : Addr, σ' = [some (.ref a), some (.int n), some (.ref l9), some (.ref ad), some (.ref l4)] ∧ Same H H' ∧ H' d = some (.xd [("many", .int n), ("what", .str "n")]) ∧ H' l4 = some (.lst [.bl true, .bl false, .bl false, .bl false, .bl true]) ∧ H' l9 = some (.lst [.str "BadCount", .str "n", .int n]), ?_, ?_⟩
      · refine ⟨_, rfl, by show 5 ≤ sizeLine; decide, fun l5 h5 => ?_⟩
        have e5 := atN (q := l5) (o := .lst [.bl true, .bl false, .bl false, .bl false, .bl true]) e4 h5
        refine ⟨.list [.bool true, .bool false, .bool false, .bool false, .bool true], .list [.bool true, .bool false, .bool false, .bool false, .bool true], .lst (SqL.of (atN f4 h5)) (.cons (.bl _) (.cons (.bl _) (.cons (.bl _) (.cons (.bl _) (.cons (.bl _) .nil))))), .lst (SqL.of upd_same) (.cons (.bl _) (.cons (.bl _) (.cons (.bl _) (.cons (.bl _) (.cons (.bl _) .nil))))), by decide +kernel, by decide +kernel, _, rfl, ?_⟩
        refine ifT (by decide +kernel) ?_
        refine ⟨C2, d, rfl, T.eBadCount, T.fBadCount_what, rfl, _, rfl, rfl, _, _, e5, by walk_at "lk", ?_⟩
        refine ⟨C2, d, rfl, T.eBadCount, T.fBadCount_many, rfl, _, rfl, rfl, _, _, e5, by walk_at "lk", ?_⟩
        refine ⟨by show 3 ≤ sizeLine; decide, fun l6 h6 => ?_⟩
        exact ⟨l6, rfl, smN (smN s4 h5) h6, atN e5 h6, atN (atN f4 h5) h6, upd_same⟩
      rintro _ H5 ⟨l9, rfl, s5, e4, f4, h9⟩
      · refine ⟨_, rfl, by show 5 ≤ sizeLine; decide, fun l5 h5 => ?_⟩
        have e5 := atN (q := l5) (o := .lst [.bl false, .bl true, .bl false, .bl false, .bl true]) e4 h5
        refine ⟨.list [.bool true, .bool false, .bool false, .bool false, .bool true], .list [.bool false, .bool true, .bool false, .bool false, .bool true], .lst (SqL.of (atN f4 h5)) (.cons (.bl _) (.cons (.bl _) (.cons (.bl _) (.cons (.bl _) (.cons (.bl _) .nil))))), .lst (SqL.of upd_same) (.cons (.bl _) (.cons (.bl _) (.cons (.bl _) (.cons (.bl _) (.cons (.bl _) .nil))))), by decide +kernel, by decide +kernel, _, rfl, ?_⟩
        refine ifF (by decide +kernel) ?_
        exact ⟨_, rfl, k l9 _ (smN s5 h5) (atN h9 h5)⟩
    · have ew : xs = [.str "TooFew", .int (row.length : Nat), .int n] := by
        rcases hc with hc | hc
        · omega
        · exact hc.2.2.2
      subst ew
      have nl0 : l0 ≠ d := ne_of_none hl0 hd
      have hx0 : ∀ m, upd H2 d m d = some m := fun m => upd_same
      refine ⟨true, T.xTooFew_PebbleError, fun _ ad na => ?_, fun z => nomatch z⟩
      refine ⟨by show 1 ≤ sizeLine; decide, fun l1 h1 => ?_⟩
      have tr : ∀ {Hx : Hp} {fs}, Hx d = some (.xd fs) → ∀ dd, some d = some dd → ∃ fs, Hx dd = some (.xd fs) := fun e dd z => by cases z; exact ⟨_, e⟩
      have e1 := atN (q := l1) (o := .lst [.str "odd"]) (hx0 (.xd [("need", .int n), ("have", .int (row.length : Nat))])) h1
      refine ⟨_, rfl, C5, _, _, false, rfl, T.eTooFew, rfl, .own C2, T.tTooFew_BadCount, tr e1, ?_⟩
      refine ⟨_, rfl, C5, _, _, true, rfl, T.eTooFew, rfl, .own C5, T.tTooFew_TooFew, tr e1, ?_⟩
      refine ⟨_, rfl, C5, _, _, false, rfl, T.eTooFew, rfl, .own C3, T.tTooFew_WrongWidth, tr e1, ?_⟩
      refine ⟨by show 3 ≤ sizeLine; decide, fun l2 h2 => ?_⟩
      have e2 := atN (q := l2) (o := .lst [.bl false, .bl true, .bl false]) e1 h2
      refine ⟨_, rfl, _, rfl, C5, _, _, false, rfl, T.eTooFew, rfl, .own C4, T.tTooFew_TooWide, tr e2, ?_⟩
      refine ⟨_, rfl, C5, _, _, true, rfl, T.eTooFew, rfl, .ty "ValueError", T.tTooFew_ValueError, tr e2, ?_⟩
      refine ⟨by show 2 ≤ sizeLine; decide, fun l3 h3 => ?_⟩
      have e3 := atN (q := l3) (o := .lst [.bl false, .bl true]) e2 h3
      refine ⟨l2, l3, _, _, rfl, rfl, atN upd_same h3, upd_same, by show 5 ≤ sizeLine; decide, fun l4 h4 => ?_⟩
      have e4 := atN (q := l4) (o := .lst ([.bl false, .bl true, .bl false] ++ [.bl false, .bl true])) e3 h4
      have s4 := smN (o := .lst ([.bl false, .bl true, .bl false] ++ [.bl false, .bl true])) (smN (o := .lst [.bl false, .bl true]) (smN (o := .lst [.bl false, .bl true, .bl false]) (smN (o := .lst [.str "odd"]) (smN (o := .xd [("need", .int n), ("have", .int (row.length : Nat))]) s1 hd) h1) h2) h3) h4
      have g4 : ∀ {Hz : Hp}, upd Hz l4 (.lst ([.bl false, .bl true, .bl false] ++ [.bl false, .bl true])) l4 = some (.lst [.bl false, .bl true, .bl false, .bl false, .bl true]) := upd_same
      have f4 := g4 (Hz := upd (upd (upd (upd H2 d (.xd [("need", .int n), ("have", .int (row.length : Nat))])) l1 (.lst [.str "odd"])) l2 (.lst [.bl false, .bl true, .bl false])) l3 (.lst [.bl false, .bl true]))
      generalize upd (upd (upd (upd (upd H2 d (.xd [("need", .int n), ("have", .int (row.length : Nat))])) l1 (.lst [.str "odd"])) l2 (.lst [.bl false, .bl true, .bl false])) l3 (.lst [.bl false, .bl true])) l4 (.lst ([.bl false, .bl true, .bl false] ++ [.bl false, .bl true])) = H4 at e4 s4 f4 ⊢
      refine ⟨fun σ' H' => ∃ l9 : Addr, σ' = [some (.ref a), some (.int n), some (.ref l9), some (.ref ad), some (.ref l4)] ∧ Same H H' ∧ H' d = some (.xd [("need", .int n), ("have", .int (row.length : Nat))]) ∧ H' l4 = some (.lst [.bl false, .bl true, .bl false, .bl false, .bl true]) ∧ True, ?_, ?_⟩
      · refine ⟨_, rfl, by show 5 ≤ sizeLine; decide, fun l5 h5 => ?_⟩
        have e5 := atN (q := l5) (o := .lst [.bl true, .bl false, .bl false, .bl false, .bl true]) e4 h5
        refine ⟨.list [.bool false, .bool true, .bool false, .bool false, .bool true], .list [.bool true, .bool false, .bool false, .bool false, .bool true], .lst (SqL.of (atN f4 h5)) (.cons (.bl _) (.cons (.bl _) (.cons (.bl _) (.cons (.bl _) (.cons (.bl _) .nil))))), .lst (SqL.of upd_same) (.cons (.bl _) (.cons (.bl _) (.cons (.bl _) (.cons (.bl _) (.cons (.bl _) .nil))))), by decide +kernel, by decide +kernel, _, rfl, ?_⟩
        refine ifF (by decide +kernel) ?_
        exact ⟨l1, rfl, smN s4 h5, e5, atN f4 h5, trivial⟩
      rintro _ H5 ⟨l9, rfl, s5, e4, f4, h9⟩
      · refine ⟨_, rfl, by show 5 ≤ sizeLine; decide, fun l5 h5 => ?_⟩
        have e5 := atN (q := l5) (o := .lst [.bl false, .bl true, .bl false, .bl false, .bl true]) e4 h5
        refine ⟨.list [.bool false, .bool true, .bool false, .bool false, .bool true], .list [.bool false, .bool true, .bool false, .bool false, .bool true], .lst (SqL.of (atN f4 h5)) (.cons (.bl _) (.cons (.bl _) (.cons (.bl _) (.cons (.bl _) (.cons (.bl _) .nil))))), .lst (SqL.of upd_same) (.cons (.bl _) (.cons (.bl _) (.cons (.bl _) (.cons (.bl _) (.cons (.bl _) .nil))))), by decide +kernel, by decide +kernel, _, rfl, ?_⟩
        refine ifT (by decide +kernel) ?_
        refine ⟨C5, d, rfl, T.eTooFew, T.fTooFew_have, rfl, _, rfl, rfl, _, _, e5, by walk_at "lk", ?_⟩
        refine ⟨C5, d, rfl, T.eTooFew, T.fTooFew_need, rfl, _, rfl, rfl, _, _, e5, by walk_at "lk", ?_⟩
        refine ⟨by show 3 ≤ sizeLine; decide, fun l6 h6 => ?_⟩
        exact ⟨_, rfl, k l6 _ (smN (smN s5 h5) h6) upd_same⟩
theorem scLIs : FnScope ["told", "due", "k"] ["told", "due"] (defScope sLIs) := ⟨rfl, rfl, rfl, by decide +kernel, rfl, by decide +kernel, by decide +kernel⟩
theorem ok_LIs (T : Txt P w K mg base C1 C2 C3 C4 C5) : Cl P w K mg base 1 "_law_is" spIs [] := by
  refine cl_of T.d__law_is scLIs (fun vs H Q E h => ?_) fun f cdv A outer s H vs Q E hr h => ?_
  · obtain ⟨a, b, xs, rfl, _⟩ := h
    rfl
  · obtain ⟨a, b, xs, rfl, ha, hb, hl, hx, k⟩ := h
    refine ⟨_, (pss_cons (ps_if (pt_cmpR op_ne (pe_callB call_len_seq (by rfl) T.b_len (by decide +kernel) (pa_cons (pv 0) pa_nil)) (pe_callB call_len_seq (by rfl) T.b_len (by decide +kernel) (pa_cons (pv 1) pa_nil)) (nomark _))
    (pss_one (ps_ret pe_bl))
    pss_nil)
  (pss_cons (ps_for (passes_of rfl) rfl (pi_range1 (by rfl) T.b_range (pa_cons (pe_callB call_len_seq (by rfl) T.b_len (by decide +kernel) (pa_cons (pv 1) pa_nil)) pa_nil)) (pg_name (i := 2) scLIs.nd rfl (by first | exact Or.inl rfl | exact Or.inr rfl))
    (pss_one (ps_if (PW.pt (pw_or (pt_val (pe_callB call_isi (by rfl) T.b_isinstance (by decide +kernel) (pa_cons (pe_ix ix_list (pv 0) (pv 2) (fun _ _ => rfl)) (pa_cons (pe_bltn (v := .ty "bool") (u := .type "bool") (by rfl) T.b_bool (by decide +kernel) rfl) pa_nil)))) (pw_or1 (pt_cmpR (op_neD hr.units) (pe_ix ix_list (pv 0) (pv 2) (fun _ _ => rfl)) (pe_ix ix_list (pv 1) (pv 2) (fun _ _ => rfl)) (nomark _)))))
      (pss_one (ps_ret pe_bl))
      pss_nil)))
  (pss_one (ps_ret pe_bl)))), ?_⟩
    refine ⟨_, rfl, a, _, rfl, .inl (SqL.of ha), _, rfl, b, _, rfl, .inl (SqL.of hb), rfl, _, rfl, ifIN (fun c => absurd rfl c) fun _ => ?_⟩
    refine ⟨_, rfl, b, _, rfl, .inl (SqL.of hb), _, rfl, by omega, by omega, ?_⟩
    rw [Int.toNat_natCast]
    refine for_range (lo := 0) (n := xs.length) (fun j σ H' => ∃ v2 : Option V, σ = [some (.ref a), some (.ref b), v2] ∧ H' = H)
      ⟨none, rfl, rfl⟩ (fun j σ H' hj h => ?_) fun σ H' h => ?_
    · obtain ⟨v2, rfl, rfl⟩ := h
      obtain ⟨x, hxj⟩ : ∃ x, xs[j]? = some x := ⟨_, List.getElem?_eq_getElem hj⟩
      have e : ∃ (dx : PyData) (t : Value), Dp K H' x dx ∧ SeqAt.shaped dx = true ∧ PyData.eqv dx dx = true ∧ TyX K H' x t ∧ PySem.W.kitOne K t (.type "bool") = some false := by
        rcases hx x (List.mem_of_getElem? hxj) with ⟨s1, rfl, hs⟩ | ⟨i, rfl⟩
        · exact ⟨.str s1, .type "str", .str _, hs, by show (s1 == s1) = true; simp, .base (.str _), is_sb⟩
        · exact ⟨.int i, .type "int", .int _, by rfl, by show (i == i) = true; simp, .base (.int _), is_bool⟩
      obtain ⟨dx, t, hd, hsh, heq, hty, hkb⟩ := e
      rw [Int.zero_add]
      refine ⟨_, rfl, _, rfl, a, _, _, _, rfl, rfl, SqL.of ha, atI_nat hxj, _, _, _, _, _, rfl, .ty "bool", hty, hkb, _, rfl, iteF ?_⟩
      refine ⟨_, rfl, _, rfl, a, _, _, _, rfl, rfl, SqL.of ha, atI_nat hxj, _, rfl, _, rfl, b, _, _, _, rfl, rfl, SqL.of hb, atI_nat hxj, dx, dx, hd, hd, hsh, hsh, _, rfl, ?_⟩
      rw [heq]
      exact ifF rfl ⟨_, rfl, rfl⟩
    · obtain ⟨v2, rfl, rfl⟩ := h
      exact k
end
end K44
set_option maxRecDepth 100000
set_option maxHeartbeats 4000000
set_option exponentiation.threshold 20000
namespace K44
open PySem L2 SI
def spLaw (K : PySem.W.Frag) : Sp := fun vs H Q _ => ∃ (a : Addr) (ns : List Int), vs = [.ref a] ∧ SqL K H a (ns.map V.int) ∧ ns.length ≤ 63 ∧ ∀ H', Q (.bl true) H'
def swp {α : Type} : List α → List α
  | [x, y] => [y, x]
  | l => l
theorem swp_rel {zs : List V} {ws : List Value} (r : L2.Vals zs ws) : L2.Vals (swp zs) (swp ws) := by
  cases r with
  | nil => exact .nil
  | cons a r => cases r with
    | nil => exact .cons a .nil
    | cons b r => cases r with
      | nil => exact .cons b (.cons a .nil)
      | cons c r => exact .cons a (.cons b (.cons c r))
theorem lot_d {K : PySem.W.Frag} {H : Hp} {q : Addr} {lot : List Nat} (h : H q = some (.tup (lotV lot))) : Dp K H (.ref q) (.tuple ((lot.map fun i => ((i : Nat) : Int)).map PyData.int)) := by
  refine dpT (ns := lot.map fun i => ((i : Nat) : Int)) (SqT.of ?_)
  rw [h, List.map_map]
  rfl
theorem jok {n : Int} {row : List Int} {w : Int} {lot : List Nat} (hn1 : 1 ≤ n) (hl : n ≤ (row.length : Nat)) (e : leastLot n (row.take n.toNat) = some (w, lot)) (hw : w ≤ n) : JOk n row lot := by
  obtain ⟨h1, h2, h3, h4, h5⟩ := (leastLot_ok hn1).2 _ e
  replace h3 : ∀ j ∈ lot, j < (row.take n.toNat).length := h3
  have h6 : ∀ j ∈ lot, j < n.toNat := fun j hj => by have := h3 j hj; rw [List.length_take] at this; omega
  have ea : at' (row.take n.toNat) lot = at' row lot := List.map_congr_left fun j hj => by
    rw [List.getD_eq_getElem?_getD, List.getD_eq_getElem?_getD, List.getElem?_take_of_lt (h6 j hj)]
  replace h4 : (at' (row.take n.toNat) lot).sum % n = 0 := h4
  replace h5 : ((at' (row.take n.toNat) lot).map fun x => g x n).sum = w := h5
  rw [ea] at h4 h5
  exact ⟨h1, h2, fun j hj => by have := h6 j hj; omega, h4, by omega⟩
section
variable {P : Program} {w : World} {K : PySem.W.Frag} {mg : Str → Option Value} {base : Heap} {C1 C2 C3 C4 C5 : Addr}
theorem sh_few : SeqAt.shaped (.str "TooFew") = true := by decide +kernel
theorem sh_bad : SeqAt.shaped (.str "BadCount") = true := by decide +kernel
theorem sh_n : SeqAt.shaped (.str "n") = true := by decide +kernel
theorem flat_few {i j : Int} : ∀ x ∈ ([.str "TooFew", .int i, .int j] : List V), (∃ s : Str, x = .str s ∧ SeqAt.shaped (.str s) = true) ∨ ∃ i : Int, x = .int i := fun x hx => by
  simp only [List.mem_cons, List.not_mem_nil, or_false] at hx
  rcases hx with e | e | e
  · exact .inl ⟨_, e, sh_few⟩
  · exact .inr ⟨_, e⟩
  · exact .inr ⟨_, e⟩
theorem flat_bad {i : Int} : ∀ x ∈ ([.str "BadCount", .str "n", .int i] : List V), (∃ s : Str, x = .str s ∧ SeqAt.shaped (.str s) = true) ∨ ∃ i : Int, x = .int i := fun x hx => by
  simp only [List.mem_cons, List.not_mem_nil, or_false] at hx
  rcases hx with e | e | e
  · exact .inl ⟨_, e, sh_bad⟩
  · exact .inl ⟨_, e, sh_n⟩
  · exact .inr ⟨_, e⟩
theorem scLaw : FnScope ["script", "pool", "n", "size", "extra", "row", "bad", "given", "lot", "least", "again"] ["script"] (defScope sLaw) := ⟨rfl, rfl, rfl, by decide +kernel, rfl, by decide +kernel, by decide +kernel⟩
theorem ok_Law (T : Txt P w K mg base C1 C2 C3 C4 C5) : Cd P w K mg base 7 "law" sLaw ["script"] (spLaw K) := by
  have c_LStart := ok_LStart T
  have c_LDraw := ok_LDraw T
  have c_LNumbers := ok_LNumbers T
  have d_DivisorLot := ok_DivisorLot T
  have c_DivisorLot := d_DivisorLot.cl
  have c_LJudged := ok_LJudged T
  have c_LRefusal := ok_LRefusal T
  have c_LIs := ok_LIs T
  refine cd_of T.d_law scLaw (fun vs H Q E h => ?_) fun f cdv A outer s H vs Q E hr h => ?_
  · obtain ⟨a, ns, rfl, _⟩ := h
    rfl
  · obtain ⟨a, ns, rfl, ha, hl, k⟩ := h
    refine ⟨_, (pss_cons (ps_set (i := 1) scLaw.nd rfl (by first | exact Or.inl rfl | exact Or.inr rfl) (pe_c c_LStart hr (by decide) rfl (pa_cons (pv 0) pa_nil)))
  (pss_cons (ps_set (i := 2) scLaw.nd rfl (by first | exact Or.inl rfl | exact Or.inr rfl) (pe_op op_sub pe_int (pe_c c_LDraw hr (by decide) rfl (pa_cons (pv 1) (pa_cons pe_int pa_nil)))))
  (pss_cons (ps_set (i := 3) scLaw.nd rfl (by first | exact Or.inl rfl | exact Or.inr rfl) (pv 2))
  (pss_cons (ps_set (i := 4) scLaw.nd rfl (by first | exact Or.inl rfl | exact Or.inr rfl) (pe_c c_LDraw hr (by decide) rfl (pa_cons (pv 1) (pa_cons pe_int pa_nil))))
  (C8.pss_cut (ps_if (pt_cmpR op_eq (pe_op op_mod (pe_callTy call_intI (by rfl) T.b_int (by decide +kernel) (pa_cons (pv 4) pa_nil)) pe_int) pe_int (nomark _))
    (pss_one (ps_set (i := 3) scLaw.nd rfl (by first | exact Or.inl rfl | exact Or.inr rfl) (pe_op op_add (pe_op op_add (pv 2) pe_int) (pe_op op_fdivW (pv 4) pe_int))))
    pss_nil)
  (C8.pss_cut (ps_if (pt_cmpR op_eq (pe_op op_mod (pe_callTy call_intI (by rfl) T.b_int (by decide +kernel) (pa_cons (pv 4) pa_nil)) pe_int) pe_int (nomark _))
    (pss_one (ps_set (i := 3) scLaw.nd rfl (by first | exact Or.inl rfl | exact Or.inr rfl) pe_int))
    pss_nil)
  (pss_cons (ps_set (i := 5) scLaw.nd rfl (by first | exact Or.inl rfl | exact Or.inr rfl) (pe_c c_LNumbers hr (by decide) rfl (pa_cons (pv 1) (pa_cons (pv 2) (pa_cons (pv 3) pa_nil)))))
  (pss_cons (ps_set (i := 6) scLaw.nd rfl (by first | exact Or.inl rfl | exact Or.inr rfl) (pe_ix ix_list (pe_lst (pa_cons pe_int (pa_cons pe_int (pa_cons (pe_op op_sub (pe_un un_neg pe_int) (pe_c c_LDraw hr (by decide) rfl (pa_cons (pv 1) (pa_cons pe_int pa_nil)))) (pa_cons (pe_op op_add pe_int (pe_c c_LDraw hr (by decide) rfl (pa_cons (pv 1) (pa_cons pe_int pa_nil)))) pa_nil))))) (pe_c c_LDraw hr (by decide) rfl (pa_cons (pv 1) (pa_cons pe_int pa_nil))) (fun _ _ => rfl)))
  (pss_cons (ps_set (i := 7) scLaw.nd rfl (by first | exact Or.inl rfl | exact Or.inr rfl) (pe_callTy call_list_of (by rfl) T.b_list (by decide +kernel) (pa_cons (pv 5) pa_nil)))
  (pss_cons (ps_set (i := 8) scLaw.nd rfl (by first | exact Or.inl rfl | exact Or.inr rfl) (pe_c c_DivisorLot hr (by decide) rfl (pa_cons (pv 7) (pa_cons (pv 2) pa_nil))))
  (pss_cons (ps_if (PW.pt (pw_or (pt_cmpR (op_neD hr.units) (pv 7) (pv 5) (nomark _)) (pw_or1 (pt_not (pt_val (pe_c c_LJudged hr (by decide) rfl (pa_cons (pv 5) (pa_cons (pv 2) (pa_cons (pv 8) pa_nil)))))))))
    (pss_one (ps_ret pe_bl))
    pss_nil)
  (pss_cons (ps_asg (pe_op op_add (pe_ix ix_list (pv 7) pe_int (fun _ _ => rfl)) pe_int) (pg_sub (pv 7) pe_int set_list))
  (pss_cons (ps_if (pt_not (pt_val (pe_c c_LIs hr (by decide) rfl (pa_cons (pe_c c_LRefusal hr (by decide) rfl (pa_cons (pe_slice sl_list (pv 5) po_none (po_some (pe_op op_sub (pv 2) pe_int))) (pa_cons (pv 2) pa_nil))) (pa_cons (pe_lst (pa_cons pe_str (pa_cons (pe_op op_sub (pv 2) pe_int) (pa_cons (pv 2) pa_nil)))) pa_nil)))))
    (pss_one (ps_ret pe_bl))
    pss_nil)
  (pss_cons (ps_if (pt_not (pt_val (pe_c c_LIs hr (by decide) rfl (pa_cons (pe_c c_LRefusal hr (by decide) rfl (pa_cons (pe_lst pa_nil) (pa_cons (pv 2) pa_nil))) (pa_cons (pe_lst (pa_cons pe_str (pa_cons pe_int (pa_cons (pv 2) pa_nil)))) pa_nil)))))
    (pss_one (ps_ret pe_bl))
    pss_nil)
  (pss_cons (ps_if (pt_not (pt_val (pe_c c_LIs hr (by decide) rfl (pa_cons (pe_c c_LRefusal hr (by decide) rfl (pa_cons (pv 5) (pa_cons (pv 6) pa_nil))) (pa_cons (pe_lst (pa_cons pe_str (pa_cons pe_str (pa_cons (pv 6) pa_nil)))) pa_nil)))))
    (pss_one (ps_ret pe_bl))
    pss_nil)
  (pss_cons (ps_if (pt_not (pt_val (pe_c c_LIs hr (by decide) rfl (pa_cons (pe_c c_LRefusal hr (by decide) rfl (pa_cons (pe_lst pa_nil) (pa_cons (pv 6) pa_nil))) (pa_cons (pe_lst (pa_cons pe_str (pa_cons pe_str (pa_cons (pv 6) pa_nil)))) pa_nil)))))
    (pss_one (ps_ret pe_bl))
    pss_nil)
  (pss_cons (ps_set (i := 9) scLaw.nd rfl (by first | exact Or.inl rfl | exact Or.inr rfl) (pe_c c_DivisorLot hr (by decide) rfl (pa_cons (pe_lst (pa_cons (pe_ix ix_list (pv 5) pe_int (fun _ _ => rfl)) pa_nil)) (pa_cons pe_int pa_nil))))
  (pss_cons (ps_if (pt_not (pt_val (pe_c c_LJudged hr (by decide) rfl (pa_cons (pe_lst (pa_cons (pe_ix ix_list (pv 5) pe_int (fun _ _ => rfl)) pa_nil)) (pa_cons pe_int (pa_cons (pv 9) pa_nil))))))
    (pss_one (ps_ret pe_bl))
    pss_nil)
  (pss_cons (ps_set (i := 10) scLaw.nd rfl (by first | exact Or.inl rfl | exact Or.inr rfl) (pe_cK0 (ks := ["n", "numbers"]) (g := swp) d_DivisorLot hr (by decide) rfl (pk_cons (pv 2) (pk_cons (pe_callTy call_tuple_of (by rfl) T.b_tuple (by decide +kernel) (pa_cons (pv 5) pa_nil)) pk_nil)) (fun _ _ _ _ _ _ ws hl => match ws, hl with | [_, _], _ => rfl) swp_rel))
  (pss_one (ps_ret (pe_and (pe_callB call_isi (by rfl) T.b_isinstance (by decide +kernel) (pa_cons (pv 10) (pa_cons (pe_bltn (v := .ty "tuple") (u := .type "tuple") (by rfl) T.b_tuple (by decide +kernel) rfl) pa_nil))) (pe_one (pe_cmpR (op_eqD hr.units) (pv 10) (pv 8) (nomark _))))))))))))))))))))))))), ?_⟩
    -- pool, n, size, extra
    refine ⟨_, rfl, a, ns, rfl, ha, hl, fun p H1 n1 _ _ hp1 l1 m1 => ?_⟩
    have pp1 : PoolAt H1 p := ⟨n1, hp1, l1, m1⟩
    refine ⟨_, rfl, draw_of pp1 (by decide) (by decide) fun d1 H2 b2 pp2 d10 d11 => ?_⟩
    refine ⟨_, _, rfl, rfl, _, rfl, _, rfl, draw_of pp2 (by decide) (by decide) fun ex H3 b3 pp3 ex0 ex1 => ?_⟩
    have hn1 : 1 ≤ 36 - d1 := by omega
    have hn2 : 36 - d1 ≤ 36 := by omega
    refine ⟨fun σ' H' => ∃ n size : Int, 1 ≤ n ∧ n ≤ 36 ∧ n ≤ size ∧ size ≤ 1000 ∧ H' = H3 ∧ σ' = [some (.ref a), some (.ref p), some (.int n), some (.int size), some (.int ex), none, none, none, none, none, none], ?_, ?_⟩
    · refine ⟨_, rfl, _, rfl, _, _, rfl, rfl, (by show (0 : Int) < 3; decide), rfl, _, rfl, ifI (fun _ => ?_) fun _ => ?_⟩
      · refine ⟨_, rfl, _, _, rfl, rfl, _, rfl, _, _, rfl, rfl, cdiv_small (by decide) (by decide), _, _, rfl, rfl, ?_⟩
        refine ⟨36 - d1, 36 - d1 + 1 + ex / 6, hn1, hn2, by omega, by omega, rfl, rfl⟩
      · exact ⟨36 - d1, 36 - d1, hn1, hn2, by omega, by omega, rfl, rfl⟩
    clear hn1 hn2
    rintro _ H3 ⟨n, size, hn1, hn2, hs1, hs2, rfl, rfl⟩
    refine ⟨fun σ' H' => ∃ size : Int, n ≤ size ∧ size ≤ 1000 ∧ H' = H3 ∧ σ' = [some (.ref a), some (.ref p), some (.int n), some (.int size), some (.int ex), none, none, none, none, none, none], ?_, ?_⟩
    · refine ⟨_, rfl, _, rfl, _, _, rfl, rfl, (by show (0 : Int) < 16; decide), rfl, _, rfl, ifI (fun _ => ?_) fun _ => ?_⟩
      · exact ⟨1000, by omega, by omega, rfl, rfl⟩
      · exact ⟨size, hs1, hs2, rfl, rfl⟩
    clear hs1 hs2
    rintro _ H3 ⟨size, hs1, hs2, rfl, rfl⟩
    -- row
    refine ⟨_, rfl, _, rfl, _, rfl, p, n, size, rfl, pp3, hn1, hn2, by omega, hs2, fun R H4 row b4 pp4 hR0 hR4 hlr => ?_⟩
    have npR : p ≠ R := pp3.ne hR0
    have hnl : n ≤ ((row.length : Nat) : Int) := by omega
    have hl1000 : row.length ≤ 1000 := by omega
    -- bad
    refine ⟨_, rfl, _, rfl, draw_of pp4 (by decide) (by decide) fun d2 H5 b5 pp5 d20 d21 => ?_⟩
    refine ⟨_, _, rfl, rfl, _, rfl, draw_of pp5 (by decide) (by decide) fun d3 H6 b6 pp6 d30 d31 => ?_⟩
    refine ⟨_, _, rfl, rfl, by show 4 ≤ sizeLine; decide, fun l9 h9 => ?_⟩
    have np9 := pp6.ne h9
    have hl9 : upd H6 l9 (.lst [.int 0, .int 37, .int (-1 - d2), .int (38 + d3)]) l9 = some (.lst (([0, 37, -1 - d2, 38 + d3] : List Int).map V.int)) := upd_same
    refine ⟨_, rfl, draw_of (pp6.same (sm0 h9)) (by decide) (by decide) fun d4 H7 b7 pp7 d40 d41 => ?_⟩
    obtain ⟨bad, hbad, hat⟩ := ix_ints (ns := [0, 37, -1 - d2, 38 + d3]) d40 d41
    have hbad2 : bad < 1 ∨ 36 < bad := by
      simp only [List.mem_cons, List.not_mem_nil, or_false] at hbad
      omega
    refine ⟨l9, _, _, _, rfl, rfl, SqL.of (b7 _ _ np9.symm hl9), hat, ?_⟩
    have hR7 : H7 R = some (.lst (row.map V.int)) := b7 _ _ npR.symm (sm0 h9 _ _ (b6 _ _ npR.symm (b5 _ _ npR.symm hR4)))
    clear hl9 hat
    -- given
    refine ⟨_, rfl, R, _, rfl, .inl (SqL.of hR7), fun G hG => ?_⟩
    have nRG : R ≠ G := ne_of_none hR7 hG
    have hR8 := atN (q := G) (o := .lst (row.map V.int)) hR7 hG
    have hG8 : upd H7 G (.lst (row.map V.int)) G = some (.lst (row.map V.int)) := upd_same
    generalize upd H7 G (.lst (row.map V.int)) = H8 at hR8 hG8 ⊢
    -- lot
    refine ⟨_, rfl, _, rfl, G, n, row, rfl, hl1000, .inl (SqL.of hG8), fun _ _ _ q w0 lot H9 s9 hlot hw0 hq => ?_, fun c => by omega, fun _ _ c => by omega⟩
    have hG9 := s9 _ _ hG8
    have hR9 := s9 _ _ hR8
    refine ⟨_, rfl, _, rfl, _, _, dpL (SqL.of hG9), dpL (SqL.of hR9), shL _, shL _, ?_⟩
    rw [eqvL, decide_eq_true rfl]
    refine ⟨_, rfl, ifF rfl ?_⟩
    refine ⟨_, rfl, _, rfl, _, rfl, R, q, n, row, lot, rfl, hR9, hn1, hn2, hq, jok hn1 hnl hlot hw0, true, rfl, ifF rfl ?_⟩
    -- given[0]
    obtain ⟨r0, hr0⟩ : ∃ z, row[0]? = some z := ⟨_, List.getElem?_eq_getElem (by omega)⟩
    refine ⟨_, rfl, G, _, _, _, rfl, rfl, SqL.of hG9, atI_nat (j := 0) (at_ints hr0), _, _, rfl, rfl, _, rfl, G, _, _, 0, rfl, rfl, hG9, ixN_of rfl (by rw [List.length_map]; omega), ?_⟩
    have hqA : upd H9 G (.lst ((row.map V.int).set 0 (.int (r0 + 1)))) q = some (.tup (lotV lot)) := tup_upd hG9 _ _ hq
    have hRA : upd H9 G (.lst ((row.map V.int).set 0 (.int (r0 + 1)))) R = some (.lst (row.map V.int)) := by rw [upd_ne nRG]; exact hR9
    generalize upd H9 G (.lst ((row.map V.int).set 0 (.int (r0 + 1)))) = HA at hqA hRA ⊢
    -- refusal(row[:n - 1], n)
    refine ⟨_, rfl, _, rfl, _, _, rfl, rfl, _, rfl, R, _, rfl, SqL.of hRA, ?_⟩
    rw [cut_n (by omega)]
    intro l2 h2
    have hlt : ((row.take (n - 1).toNat).length : Int) = n - 1 := by rw [List.length_take]; omega
    refine ⟨_, rfl, l2, n, row.take (n - 1).toNat, [.str "TooFew", .int (n - 1), .int n], rfl, upd_same, by omega, .inr ⟨hn1, hn2, by omega, by rw [hlt]⟩, fun L3 HB sB hL3 => ?_⟩
    refine ⟨_, rfl, _, _, rfl, rfl, _, rfl, by show 3 ≤ sizeLine; decide, fun l4 h4 => ?_⟩
    refine ⟨L3, l4, [.str "TooFew", .int (n - 1), .int n], rfl, atN hL3 h4, upd_same, by show 3 ≤ 1000; decide, flat_few, true, rfl, ifF rfl ?_⟩
    have sC := ((sm0 (o := .lst ((row.take (n - 1).toNat).map V.int)) h2).trans sB).trans (sm0 (o := .lst [.str "TooFew", .int (n - 1), .int n]) h4)
    have hqC := sC _ _ hqA
    have hRC := sC _ _ hRA
    generalize upd HB l4 (.lst [.str "TooFew", .int (n - 1), .int n]) = HC at hqC hRC ⊢
    clear sC sB hL3 h4 h2
    -- refusal([], n)
    refine ⟨by show 0 ≤ sizeLine; decide, fun l2 h2 => ?_⟩
    refine ⟨_, rfl, l2, n, [], [.str "TooFew", .int 0, .int n], rfl, upd_same, by decide, .inr ⟨hn1, hn2, by show (0 : Int) < n; omega, rfl⟩, fun L3 HD sD hL3 => ?_⟩
    refine ⟨_, rfl, by show 3 ≤ sizeLine; decide, fun l4 h4 => ?_⟩
    refine ⟨L3, l4, [.str "TooFew", .int 0, .int n], rfl, atN hL3 h4, upd_same, by show 3 ≤ 1000; decide, flat_few, true, rfl, ifF rfl ?_⟩
    have sE := ((sm0 (o := .lst []) h2).trans sD).trans (sm0 (o := .lst [.str "TooFew", .int 0, .int n]) h4)
    have hqE := sE _ _ hqC
    have hRE := sE _ _ hRC
    generalize upd HD l4 (.lst [.str "TooFew", .int 0, .int n]) = HE at hqE hRE ⊢
    clear sE sD hL3 h4 h2
    -- refusal(row, bad)
    refine ⟨_, rfl, _, rfl, R, bad, row, [.str "BadCount", .str "n", .int bad], rfl, hRE, hl1000, .inl ⟨hbad2, rfl⟩, fun L3 HF sF hL3 => ?_⟩
    refine ⟨_, rfl, by show 3 ≤ sizeLine; decide, fun l4 h4 => ?_⟩
    refine ⟨L3, l4, [.str "BadCount", .str "n", .int bad], rfl, atN hL3 h4, upd_same, by show 3 ≤ 1000; decide, flat_bad, true, rfl, ifF rfl ?_⟩
    have sG := sF.trans (sm0 (o := .lst [.str "BadCount", .str "n", .int bad]) h4)
    have hqG := sG _ _ hqE
    have hRG := sG _ _ hRE
    generalize upd HF l4 (.lst [.str "BadCount", .str "n", .int bad]) = HG at hqG hRG ⊢
    clear sG sF hL3 h4
    -- refusal([], bad)
    refine ⟨by show 0 ≤ sizeLine; decide, fun l2 h2 => ?_⟩
    refine ⟨_, rfl, l2, bad, [], [.str "BadCount", .str "n", .int bad], rfl, upd_same, by decide, .inl ⟨hbad2, rfl⟩, fun L3 HI sI hL3 => ?_⟩
    refine ⟨_, rfl, by show 3 ≤ sizeLine; decide, fun l4 h4 => ?_⟩
    refine ⟨L3, l4, [.str "BadCount", .str "n", .int bad], rfl, atN hL3 h4, upd_same, by show 3 ≤ 1000; decide, flat_bad, true, rfl, ifF rfl ?_⟩
    have sJ := ((sm0 (o := .lst []) h2).trans sI).trans (sm0 (o := .lst [.str "BadCount", .str "n", .int bad]) h4)
    have hqJ := sJ _ _ hqG
    have hRJ := sJ _ _ hRG
    generalize upd HI l4 (.lst [.str "BadCount", .str "n", .int bad]) = HJ at hqJ hRJ ⊢
    clear sJ sI hL3 h4 h2
    -- least
    refine ⟨_, rfl, R, _, _, _, rfl, rfl, SqL.of hRJ, atI_nat (j := 0) (at_ints hr0), by show 1 ≤ sizeLine; decide, fun l2 h2 => ?_⟩
    refine ⟨l2, 1, [r0], rfl, by show 1 ≤ 1000; decide, .inl (SqL.of upd_same), fun _ _ _ q2 w2 lot2 HK sK hlot2 hw2 hq2 => ?_, fun c => by omega, fun _ _ c => absurd c (by show ¬ ((1 : Nat) : Int) < 1; decide)⟩
    have sL := (sm0 (o := .lst [.int r0]) h2).trans sK
    refine ⟨_, rfl, R, _, _, _, rfl, rfl, SqL.of (sL _ _ hRJ), atI_nat (j := 0) (at_ints hr0), by show 1 ≤ sizeLine; decide, fun l4 h4 => ?_⟩
    refine ⟨_, rfl, l4, q2, 1, [r0], lot2, rfl, upd_same, by decide, by decide, atN hq2 h4, jok (by decide) (by show (1 : Int) ≤ ((1 : Nat) : Int); decide) hlot2 hw2, true, rfl, ifF rfl ?_⟩
    have sM := sL.trans (sm0 (o := .lst [.int r0]) h4)
    have hqM := sM _ _ hqJ
    have hRM := sM _ _ hRJ
    generalize upd HK l4 (.lst [.int r0]) = HM at hqM hRM ⊢
    -- again
    refine ⟨_, rfl, _, rfl, R, _, rfl, .inl ⟨SqL.of hRM, fun l5 h5 => ?_⟩⟩
    refine ⟨rfl, l5, n, row, rfl, hl1000, .inr (SqT.of upd_same), fun _ _ _ q3 w3 lot3 HN sN hlot3 hw3 hq3 => ?_, fun c => by omega, fun _ _ c => by omega⟩
    have hqN := sN _ _ (sm0 (o := .tup (row.map V.int)) h5 _ _ hqM)
    rw [hlot] at hlot3
    cases hlot3
    refine ⟨_, rfl, _, _, _, _, _, rfl, .ty "tuple", .base (.tup hq3), is_tup, _, rfl, iteT ?_⟩
    refine ⟨_, rfl, _, rfl, _, _, lot_d hq3, lot_d hqN, shT _, shT _, ?_⟩
    rw [eqvT, decide_eq_true rfl]
    exact k _
end
end K44
set_option maxRecDepth 100000
set_option maxHeartbeats 4000000
open PySem PySem.W PyProof.Rows L2 SI K44
set_option maxRecDepth 100000 in
set_option maxHeartbeats 0 in
theorem PySem.Challenge.cw_pebblesreach_k44_divisor_lots_holds : PySem.Challenge.rw_pebblesreach_k44_divisor_lots.Holds := by
  w_on; o_law; k_head; (case hw => w_witness2)
  k_fill
  refine walkK (l := PySem.Challenge.rw_pebblesreach_k44_divisor_lots) (n := 63) (k := 7) (x := "script") (sp := spLaw) rfl (by decide) rfl ⟨rfl, by decide, by decide⟩ (fun K H a ns hl hS => ⟨a, ns, rfl, hS, hl, fun _ => rfl⟩) (fun w h Y => PySem.W.kIn_of Y) ?F
  case F =>
    intro w mg fa h KX G hmg
    refine' exc_at (x := "PebbleError") KX G ?h1a ?h1l ?h1rf ?h1sa ?h1exC ?h1tyC ?h1kC ?h1ga ?h1gg ?h1hd ?h1ac ?h1mo fun g_PebbleError o_PebbleError e_PebbleError => ?_
    (case h1a => k_is)
    (case h1l => k_is)
    (case h1rf => decide +kernel)
    (case h1sa => k_is)
    (case h1exC => k_is)
    (case h1tyC => k_is)
    (case h1kC => k_is)
    (case h1ga => k_is)
    (case h1gg => k_is)
    (case h1hd => k_is)
    (case h1ac => k_is)
    (case h1mo => k_is)
    refine' exc_at (x := "BadCount") KX G ?h2a ?h2l ?h2rf ?h2sa ?h2exC ?h2tyC ?h2kC ?h2ga ?h2gg ?h2hd ?h2ac ?h2mo fun g_BadCount o_BadCount e_BadCount => ?_
    (case h2a => k_is)
    (case h2l => k_is)
    (case h2rf => decide +kernel)
    (case h2sa => k_is)
    (case h2exC => k_is)
    (case h2tyC => k_is)
    (case h2kC => k_is)
    (case h2ga => k_is)
    (case h2gg => k_is)
    (case h2hd => k_is)
    (case h2ac => k_is)
    (case h2mo => k_is)
    refine' exc_at (x := "WrongWidth") KX G ?h3a ?h3l ?h3rf ?h3sa ?h3exC ?h3tyC ?h3kC ?h3ga ?h3gg ?h3hd ?h3ac ?h3mo fun g_WrongWidth o_WrongWidth e_WrongWidth => ?_
    (case h3a => k_is)
    (case h3l => k_is)
    (case h3rf => decide +kernel)
    (case h3sa => k_is)
    (case h3exC => k_is)
    (case h3tyC => k_is)
    (case h3kC => k_is)
    (case h3ga => k_is)
    (case h3gg => k_is)
    (case h3hd => k_is)
    (case h3ac => k_is)
    (case h3mo => k_is)
    refine' exc_at (x := "TooWide") KX G ?h4a ?h4l ?h4rf ?h4sa ?h4exC ?h4tyC ?h4kC ?h4ga ?h4gg ?h4hd ?h4ac ?h4mo fun g_TooWide o_TooWide e_TooWide => ?_
    (case h4a => k_is)
    (case h4l => k_is)
    (case h4rf => decide +kernel)
    (case h4sa => k_is)
    (case h4exC => k_is)
    (case h4tyC => k_is)
    (case h4kC => k_is)
    (case h4ga => k_is)
    (case h4gg => k_is)
    (case h4hd => k_is)
    (case h4ac => k_is)
    (case h4mo => k_is)
    refine' exc_at (x := "TooFew") KX G ?h5a ?h5l ?h5rf ?h5sa ?h5exC ?h5tyC ?h5kC ?h5ga ?h5gg ?h5hd ?h5ac ?h5mo fun g_TooFew o_TooFew e_TooFew => ?_
    (case h5a => k_is)
    (case h5l => k_is)
    (case h5rf => decide +kernel)
    (case h5sa => k_is)
    (case h5exC => k_is)
    (case h5tyC => k_is)
    (case h5kC => k_is)
    (case h5ga => k_is)
    (case h5gg => k_is)
    (case h5hd => k_is)
    (case h5ac => k_is)
    (case h5mo => k_is)
    refine' sup_at (P := PySem.Challenge.rw_pebblesreach_k44_divisor_lots.prog) (qual := "BadCount.__init__") (st := sBadCountInit) KX G o_BadCount rfl ?h6i ?h6t ?h6l ?h6c ?h6lc ?h6hf ?h6hm ?h6lcc ?h6self ?h6sup ?h6sub ?h6z ?h6any ?h6top fun fd_BadCount s_BadCount i_BadCount t_BadCount x_BadCount => ?_
    (case h6i => k_is)
    (case h6t => k_is)
    (case h6l => k_is)
    (case h6c => k_is)
    (case h6lc => k_is)
    (case h6hf => rfl)
    (case h6hm => first | rfl | decide +kernel)
    (case h6lcc => k_is)
    (case h6self => k_is)
    (case h6sup => ks_is)
    (case h6sub => k_is)
    (case h6z => k_is)
    (case h6any => k_is)
    (case h6top => decide +kernel)
    refine' sup_at (P := PySem.Challenge.rw_pebblesreach_k44_divisor_lots.prog) (qual := "TooFew.__init__") (st := sTooFewInit) KX G o_TooFew rfl ?h7i ?h7t ?h7l ?h7c ?h7lc ?h7hf ?h7hm ?h7lcc ?h7self ?h7sup ?h7sub ?h7z ?h7any ?h7top fun fd_TooFew s_TooFew i_TooFew t_TooFew x_TooFew => ?_
    (case h7i => k_is)
    (case h7t => k_is)
    (case h7l => k_is)
    (case h7c => k_is)
    (case h7lc => k_is)
    (case h7hf => rfl)
    (case h7hm => first | rfl | decide +kernel)
    (case h7lcc => k_is)
    (case h7self => k_is)
    (case h7sup => ks_is)
    (case h7sub => k_is)
    (case h7z => k_is)
    (case h7any => k_is)
    (case h7top => decide +kernel)
    refine' def_at (x := "worth_of") (st := sWorthOf) (ps := ["number", "n"]) KX G (fun _ _ _ _ _ _ us hl => match us, hl with | [_, _], _ => rfl) ?h8a ?h8l ?h8c ?h8k fun d_worth_of => ?_
    (case h8a => k_is)
    (case h8l => k_is)
    (case h8c => k_is)
    (case h8k => k_is)
    refine' def_at (x := "check_divided") (st := sCheckDivided) (ps := ["n"]) KX G (fun _ _ _ _ _ _ us hl => match us, hl with | [_], _ => rfl) ?h9a ?h9l ?h9c ?h9k fun d_check_divided => ?_
    (case h9a => k_is)
    (case h9l => k_is)
    (case h9c => k_is)
    (case h9k => k_is)
    refine' def_at (x := "keep_least") (st := sKeepLeast) (ps := ["table", "remainder", "worth", "lot"]) KX G (fun _ _ _ _ _ _ us hl => match us, hl with | [_, _, _, _], _ => rfl) ?h10a ?h10l ?h10c ?h10k fun d_keep_least => ?_
    (case h10a => k_is)
    (case h10l => k_is)
    (case h10c => k_is)
    (case h10k => k_is)
    refine' def_at (x := "with_number") (st := sWithNumber) (ps := ["table", "index", "number", "n"]) KX G (fun _ _ _ _ _ _ us hl => match us, hl with | [_, _, _, _], _ => rfl) ?h11a ?h11l ?h11c ?h11k fun d_with_number => ?_
    (case h11a => k_is)
    (case h11l => k_is)
    (case h11c => k_is)
    (case h11k => k_is)
    refine' def_at (x := "least_lots") (st := sLeastLots) (ps := ["numbers", "n"]) KX G (fun _ _ _ _ _ _ us hl => match us, hl with | [_, _], _ => rfl) ?h12a ?h12l ?h12c ?h12k fun d_least_lots => ?_
    (case h12a => k_is)
    (case h12l => k_is)
    (case h12c => k_is)
    (case h12k => k_is)
    refine' def_at (x := "least_lot") (st := sLeastLot) (ps := ["numbers", "n"]) KX G (fun _ _ _ _ _ _ us hl => match us, hl with | [_, _], _ => rfl) ?h13a ?h13l ?h13c ?h13k fun d_least_lot => ?_
    (case h13a => k_is)
    (case h13l => k_is)
    (case h13c => k_is)
    (case h13k => k_is)
    refine' def_at (x := "divisor_lot") (st := sDivisorLot) (ps := ["numbers", "n"]) KX G (fun _ _ _ _ _ _ us hl => match us, hl with | [_, _], _ => rfl) ?h14a ?h14l ?h14c ?h14k fun d_divisor_lot => ?_
    (case h14a => k_is)
    (case h14l => k_is)
    (case h14c => k_is)
    (case h14k => k_is)
    refine' def_at (x := "_law_start") (st := sLStart) (ps := ["script"]) KX G (fun _ _ _ _ _ _ us hl => match us, hl with | [_], _ => rfl) ?h15a ?h15l ?h15c ?h15k fun d__law_start => ?_
    (case h15a => k_is)
    (case h15l => k_is)
    (case h15c => k_is)
    (case h15k => k_is)
    refine' def_at (x := "_law_draw") (st := sLDraw) (ps := ["pool", "size"]) KX G (fun _ _ _ _ _ _ us hl => match us, hl with | [_, _], _ => rfl) ?h16a ?h16l ?h16c ?h16k fun d__law_draw => ?_
    (case h16a => k_is)
    (case h16l => k_is)
    (case h16c => k_is)
    (case h16k => k_is)
    refine' def_at (x := "_law_shared") (st := sLShared) (ps := ["number", "n"]) KX G (fun _ _ _ _ _ _ us hl => match us, hl with | [_, _], _ => rfl) ?h17a ?h17l ?h17c ?h17k fun d__law_shared => ?_
    (case h17a => k_is)
    (case h17l => k_is)
    (case h17c => k_is)
    (case h17k => k_is)
    refine' def_at (x := "_law_choices") (st := sLChoices) (ps := ["pool", "n"]) KX G (fun _ _ _ _ _ _ us hl => match us, hl with | [_, _], _ => rfl) ?h18a ?h18l ?h18c ?h18k fun d__law_choices => ?_
    (case h18a => k_is)
    (case h18l => k_is)
    (case h18c => k_is)
    (case h18k => k_is)
    refine' def_at (x := "_law_numbers") (st := sLNumbers) (ps := ["pool", "n", "size"]) KX G (fun _ _ _ _ _ _ us hl => match us, hl with | [_, _, _], _ => rfl) ?h19a ?h19l ?h19c ?h19k fun d__law_numbers => ?_
    (case h19a => k_is)
    (case h19l => k_is)
    (case h19c => k_is)
    (case h19k => k_is)
    refine' def_at (x := "_law_judged") (st := sLJudged) (ps := ["row", "n", "lot"]) KX G (fun _ _ _ _ _ _ us hl => match us, hl with | [_, _, _], _ => rfl) ?h20a ?h20l ?h20c ?h20k fun d__law_judged => ?_
    (case h20a => k_is)
    (case h20l => k_is)
    (case h20c => k_is)
    (case h20k => k_is)
    refine' def_at (x := "_law_refusal") (st := sLRefusal) (ps := ["row", "n"]) KX G (fun _ _ _ _ _ _ us hl => match us, hl with | [_, _], _ => rfl) ?h21a ?h21l ?h21c ?h21k fun d__law_refusal => ?_
    (case h21a => k_is)
    (case h21l => k_is)
    (case h21c => k_is)
    (case h21k => k_is)
    refine' def_at (x := "_law_is") (st := sLIs) (ps := ["told", "due"]) KX G (fun _ _ _ _ _ _ us hl => match us, hl with | [_, _], _ => rfl) ?h22a ?h22l ?h22c ?h22k fun d__law_is => ?_
    (case h22a => k_is)
    (case h22l => k_is)
    (case h22c => k_is)
    (case h22k => k_is)
    refine' def_at (x := "law") (st := sLaw) (ps := ["script"]) KX G (fun _ _ _ _ _ _ us hl => match us, hl with | [_], _ => rfl) ?h23a ?h23l ?h23c ?h23k fun d_law => ?_
    (case h23a => k_is)
    (case h23l => k_is)
    (case h23c => k_is)
    (case h23k => k_is)
    refine' int_is (x := "MOST_DIVIDED") KX G ?cMOST_DIVIDED fun c_MOST_DIVIDED => ?_
    (case cMOST_DIVIDED => k_is)
    refine' int_is (x := "MOST_NUMBERS") KX G ?cMOST_NUMBERS fun c_MOST_NUMBERS => ?_
    (case cMOST_NUMBERS => k_is)
    refine' law_at (x := "law") (y := "script") (st := sLaw) KX G hmg (fun _ _ _ _ _ _ us hl => match us, hl with | [_], _ => rfl) ?la ?lb (fun base => ok_Law (C1 := _) (C2 := _) (C3 := _) (C4 := _) (C5 := _) {
      b_len := PySem.W.mg_none_of KX G (by k_is)
      b_int := PySem.W.mg_none_of KX G (by k_is)
      b_tuple := PySem.W.mg_none_of KX G (by k_is)
      b_list := PySem.W.mg_none_of KX G (by k_is)
      b_range := PySem.W.mg_none_of KX G (by k_is)
      b_isinstance := PySem.W.mg_none_of KX G (by k_is)
      b_bool := PySem.W.mg_none_of KX G (by k_is)
      b_ValueError := PySem.W.mg_none_of KX G (by k_is)
      b_enumerate := PySem.W.mg_none_of KX G (by k_is)
      b_max := PySem.W.mg_none_of KX G (by k_is)
      c_MOST_DIVIDED := int_as (by decide +kernel) c_MOST_DIVIDED
      c_MOST_NUMBERS := int_as (by decide +kernel) c_MOST_NUMBERS
      rBadCount := rs2 o_BadCount g_BadCount i_BadCount t_BadCount (errB_ok (k := 0) s_BadCount (NdefX.nscope_by (by decide +kernel)) (by decide) (by decide) rfl rfl (by decide +kernel) (by k_is) (by k_is) (fun _ => rfl) (by decide) (by decide) (by decide) (by decide)) (bindX (fun _ _ _ _ _ _ _ us hl => match us, hl with | [_, _, _], _ => rfl) x_BadCount) (by decide)
      rTooFew := rs2 o_TooFew g_TooFew i_TooFew t_TooFew (err2_ok (k := 0) s_TooFew (NdefX.nscope_by (by decide +kernel)) rfl rfl (by decide +kernel) (by k_is) (by k_is) (fun _ => rfl) (by decide) (by decide) (by decide) (by decide)) (bindX (fun _ _ _ _ _ _ _ us hl => match us, hl with | [_, _, _], _ => rfl) x_TooFew) (by decide)
      d_worth_of := d_worth_of
      d_check_divided := d_check_divided
      d_keep_least := d_keep_least
      d_with_number := d_with_number
      d_least_lots := d_least_lots
      d_least_lot := d_least_lot
      d_divisor_lot := d_divisor_lot
      d__law_start := d__law_start
      d__law_draw := d__law_draw
      d__law_shared := d__law_shared
      d__law_choices := d__law_choices
      d__law_numbers := d__law_numbers
      d__law_judged := d__law_judged
      d__law_refusal := d__law_refusal
      d__law_is := d__law_is
      d_law := d_law
      gPebbleError := g_PebbleError
      gBadCount := g_BadCount
      gWrongWidth := g_WrongWidth
      gTooWide := g_TooWide
      gTooFew := g_TooFew
      ek := ⟨by k_is, by k_is⟩
      eBadCount := e_BadCount
      fBadCount_what := by k_is
      fBadCount_many := by k_is
      xBadCount_PebbleError := xm_at e_PebbleError o_PebbleError (by k_is)
      tBadCount_BadCount := kit_self
      tBadCount_TooFew := kit_ref e_TooFew o_TooFew (by decide) (by k_is)
      tBadCount_WrongWidth := kit_ref e_WrongWidth o_WrongWidth (by decide) (by k_is)
      tBadCount_TooWide := kit_ref e_TooWide o_TooWide (by decide) (by k_is)
      tBadCount_ValueError := kit_VE (by k_is)
      eTooFew := e_TooFew
      fTooFew_have := by k_is
      fTooFew_need := by k_is
      xTooFew_PebbleError := xm_at e_PebbleError o_PebbleError (by k_is)
      tTooFew_BadCount := kit_ref e_BadCount o_BadCount (by decide) (by k_is)
      tTooFew_TooFew := kit_self
      tTooFew_WrongWidth := kit_ref e_WrongWidth o_WrongWidth (by decide) (by k_is)
      tTooFew_TooWide := kit_ref e_TooWide o_TooWide (by decide) (by k_is)
      tTooFew_ValueError := kit_VE (by k_is)
      ggcd := PySem.W.mg_of KX G (by k_is) })
    (case lb => k_is); (case la => k_is)
#print axioms PySem.Challenge.cw_pebblesreach_k44_divisor_lots_holds
