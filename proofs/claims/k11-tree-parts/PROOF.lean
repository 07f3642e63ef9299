import PyProof.Rows.All
import Wide.All
import OpenK.AllK
import Wide.FinOn
import KE.KExcSuper
import HandS.ForMost
import HandS.ForExc
import HandS.ExcInit
import HandS.ExcField
import HandS.ExcIs
import HandS.IsInst
import KE.KExcIs
import HandS.Nested
import HandS.HotCalls
import KE.GoesEnum
import KE.GoesMore
import HandS.Walk
import KE.KTupSum
import HandS.Comp
import HandS.Codes
import HandS.CallSlots
import HandS.Defaults
import HandS.MakeKw
import HandS.Wide
import HandS.Evl
import HandS.TupAny
import HandS.SlotsOwn
import HandS.OwnEq
import HandS.MakeKwOnly
import HandS.Style
import HandS.SortInts
import HandS.Conv
import PySem.Challenge.RW_pebblesreach_k11_tree_parts
set_option Elab.async false
set_option linter.all false
set_option maxRecDepth 100000
set_option maxHeartbeats 4000000
/-! Errors of the package: __init__ begins with super().__init__(..); isinstance and fields of a caught error; calls within an except suite. -/
namespace SI
open PySem PySem.Spec PyProof.Rows L2 NdefX

/-! ### super().__init__(e0), then the rest -/
structure SupF (P : Program) (K : PySem.W.Frag) (mg : Str → Option Value) (C fI : Addr) (qual : Str) (params : Arguments) (e0 : Expr) (rest : List Stmt) (scope : Scope) (p0 p1 p2 p3 p4 : Pos) (fd : FuncData) : Prop where
  ex : ∃ (oc : Value) (od : Option Addr) (kV doc pm : Value) (an : Option Addr) (ct : Value) (osl : Array (Option Value)) (cc cda : Addr)
      (q1 : Value) (q2 : Option Addr) (q3 : Array (Option Value)) (r1 : Value) (r2 : Option Addr) (vs : Array Value) (r3 : Array (Option Value)) (file : Str) (tf : Tok),
    fd = PySem.W.fnX "__init__" qual params (.Expr (.Call (.Attribute (.Call (.Name "super" p0) [] [] p1) "__init__" p2) [e0] [] p3) p4 :: rest) scope [("__class__", cc)] .none kV doc pm an (.ref cda) ct ∧
    K.lookup fI = some ⟨oc, od, .func fd, osl⟩ ∧ PySem.W.codeIn K (.ref cda) qual = true ∧
    K.lookup cda = some ⟨r1, r2, .fields vs, r3⟩ ∧ vs[2]? = some (.str file tf) ∧ (P.main.file == file) = true ∧
    K.lookup cc = some ⟨q1, q2, .cell (some (.ref C)), q3⟩
  oex : OexC K C
  self : PySem.W.mroIn K C (.ref C) = some true
  sup : PySem.W.ks_superIn K C C "__init__" = some (some (.builtin "ValueError.__init__"))
  sub : PySem.W.subIn K (.ref C) (.type "ValueError") = some true
  mg0 : mg "super" = none
  any : PySem.W.nsIn K cStatics "thirdparty.any" = some none
  top : (P.main.scope.names.lookup ("super" : Str)).isSome = false

/-- ValueError.__init__ bound to the exception at x (the object at u), called -/
theorem call_mw {prog : Program} {w : World} {A : Around} {E : Value → Shared → Prop} {h : Heap} {g : Array GenState} {d : Drawn} {t : Nat} {os : OsState}
    {nm q : Str} {C N : Addr} {bs bm : List Value} {hdct : Bool} {sn : List Str} {sub : List Value} {ab : Bool} {col : Option Bool} {dd : Option Addr} {k0 k1 k2 k3 k5 : Option Value}
    {u x t0 : Addr} {rest : List Value} {Q : Value → Shared → Prop}
    (hC : h.get? C = some (excClassObj nm q C N bs bm hdct sn sub ab col dd k0 k1 k2 k3 k5 "ValueError.__new__")) (hx : h.get? x = some (PySem.HandSPX.excO C t0)) (hu : h.get? u = some (PySem.W.kxs_mw "ValueError.__init__" x)) (hz : rest.length ≤ sizeLine)
    (hq : ∀ h' t1, (∀ b o, b ≠ x → h.get? b = some o → h'.get? b = some o) → h'.get? x = some (PySem.HandSPX.excO C t1) → Q .none ⟨h', g, d, t, os⟩) :
    wpAny (model prog w) A (call (.ref u) rest) Q E ⟨h, g, d, t, os⟩ := by
  refine wpAny_call (codeAny_of_tree ?_)
  show wpAny _ A.in1 (callAny (.ref u) ⟨rest, []⟩) _ _ _
  simp only [callAny]
  refine wpAny_bind (wpAny_load hu ?_)
  simp only [PySem.W.kxs_mw, (by decide : (Value.type "method-wrapper" == Value.type "method" || Value.type "method-wrapper" == Value.type "builtin_function_or_method" || Value.type "method-wrapper" == Value.type "method-wrapper") = true), if_true]
  refine PySem.W.KFB.if_so (by decide) ?_
  refine wpAny_bind (PySem.W.check_bound_init F.excBase_ValueError.toExcCallFacts hC hx rfl ?_)
  refine wpAny_bind (wpAny_pure (wpAny_pure ?_))
  refine ⟨plainId_quiet F.excBase_ValueError.init.plain _, codeAny_builtin F.excBase_ValueError.initEntry ?_⟩
  rw [Around.under_plainId F.excBase_ValueError.init.plain _]
  wp_walk
  refine hq _ h.objs.size (fun b o hb ho => ?_) ?_
  · rw [Heap.get?_update_other _ _ (Ne.symm hb)]
    exact Heap.get?_push_of_some _ ho
  · rw [Heap.get?_update_self _ (Heap.get?_push_of_some _ hx) rfl]
    rfl

section
variable {CX : CXT} {P : Program} {w : World} {K : PySem.W.Frag} {mg : Str → Option Value} {base : Heap} {N ps : List Str} {k : Nat} {sp : Sp} {C fI : Addr} {qual : Str} {params : Arguments} {e0 : Expr} {rest : List Stmt} {scope : Scope} {p0 p1 p2 p3 p4 : Pos} {fd : FuncData}
def nf (qual : Str) (params : Arguments) (body : List Stmt) (scope : Scope) (cc cda : Addr) : NF := ⟨"__init__", qual, params, body, scope, [("__class__", cc)], cda⟩
theorem sup_ok (T : SupF P K mg C fI qual params e0 rest scope p0 p1 p2 p3 p4 fd) (S : NScope N ps ["__class__"] scope) {ar : Arg} (hp : (params.posonlyargs ++ params.args).head? = some ar) (hp0 : ps[0]? = some ar.arg) (hks : scope.names.lookup ("super" : Str) = some .globalImplicit)
    (hst : ∀ env : Env, starEach [e0] env = (false, eval e0 env) :: starEach [] env)
    (hcall : ∀ env : Env, eval (.Call (.Attribute (.Call (.Name "super" p0) [] [] p1) "__init__" p2) [e0] [] p3) env = (do
      let ov ← attributeBase (.Call (.Name "super" p0) [] [] p1) "__init__" env (eval (.Call (.Name "super" p0) [] [] p1) env)
      standAt p2.atName
      let (f, first) ← holding [ov] (getMethod ov "__init__" (do return (← importBound (.Call (.Name "super" p0) [] [] p1) env).getD true))
      callWith p3 f first (backTo p3 (starEach [e0] env)) [])) (len : ∀ vs H Q E, sp vs H Q E → vs.length = ps.length)
    (hbody : ∀ (X : Cx) (H : Hp) (vs : List V) (Q : VK) (E : XK), X.N = N → X.K = K → X.mg = mg → X.env.scope = scope → X.calm = true → sp vs H Q E →
      ∃ (a : Addr) (ta : TA) (t : TS), vs[0]? = some (.ref a) ∧ H a = some (exo a C none) ∧ PA X [e0] ta ∧ PSs X rest t ∧
        ta (startF N vs [some (.ref C)]) H (fun ws H1 => ws.length ≤ sizeLine ∧ H1 a = some (exo a C none) ∧ t { nx := fun _ H' => Q .non H', rt := Q } (startF N vs [some (.ref C)]) H1)) :
    FnOk P w K mg base CX (k + 1) fI fd ps sp := by
  obtain ⟨oc, od, kV, doc, pm, an, ct, osl, cc, cda, q1, q2, q3, r1, r2, vs2, r3, file, tf, rfl, lk, hcd, hcda, hfile, hmain, hcc⟩ := T.ex
  refine ⟨len, fun A outer s H args us vs Q E hr e0' hb r hsp => ?_⟩
  have hl := len _ _ _ _ hsp
  have KX : K.In s.heap := e0'.mod.kin.keeps fun b o e => (e0'.bs b o e).1
  have lim : s.heap.NoLimit := e0'.mod.nolimit.keeps fun b o e => (e0'.bs b o e).1
  have hcH : H cc = none := (e0'.bs cc _ (e0'.mod.kin _ _ hcc)).2
  have CA : CellsAt [(("__class__" : Str), cc)] ["__class__"] [some (V.ref C)] s.heap H := {
    len := rfl
    all := fun y c hy => by
      have e : (y, c) ∈ [(("__class__" : Str), cc)] := PySem.mem_of_lookup hy
      simp only [List.mem_singleton, Prod.mk.injEq] at e
      obtain ⟨_, rfl⟩ := e
      exact ⟨hcH, _, _, KX _ _ hcc, rfl⟩
    inj := fun x y c hx hy => by
      have ex : (x, c) ∈ [(("__class__" : Str), cc)] := PySem.mem_of_lookup hx
      have ey : (y, c) ∈ [(("__class__" : Str), cc)] := PySem.mem_of_lookup hy
      simp only [List.mem_singleton, Prod.mk.injEq] at ex ey
      rw [ex.1, ey.1]
    has := fun i y hy => by
      cases i with
      | succ j => simp at hy
      | zero =>
        have e : y = "__class__" := by simpa using hy.symm
        subst e
        refine ⟨cc, by rfl, fun v hv => ?_⟩
        have e : v = V.ref C := by simpa using hv.symm
        subst e
        exact ⟨.ref C, rfl, _, KX _ _ hcc, rfl⟩ }
  refine ks_codeAny_call_defAt (binds := ps.zip us) hr.depth (KX _ _ lk) rfl lim (PySem.W.codeRec_of KX hcd) rfl hb S.nocell (fun y hy => ?_) (fun h₁ hns kp => ?_) S.co S.gen S.kind
  · obtain ⟨n, v⟩ := y
    exact S.par n (List.of_mem_zip hy).1
  let body0 : List Stmt := .Expr (.Call (.Attribute (.Call (.Name "super" p0) [] [] p1) "__init__" p2) [e0] [] p3) p4 :: rest
  let X : Cx := ncx CX P w K mg base N (nf qual params body0 scope cc cda) fI A outer s H E
  have I : Inv X [] (startF N vs [some (.ref C)]) H { s with heap := h₁, toks := s.toks + (ps.zip us).length } := inv_startN (F := nf qual params body0 scope cc cda) S hr.hd e0' hl r CA hns kp
  obtain ⟨a, ta, t, hv0, hHa, hpa, hps, hq⟩ := hbody X H vs Q E rfl rfl rfl rfl rfl hsp
  obtain ⟨ua, hua, rua⟩ := r.get hv0
  obtain rfl : ua = Value.ref a := rua
  obtain ⟨nm, q, N', bs, bm, sn, sub, ab, col, dd, k0, k1, k2, k3, k5, hC, hbm⟩ := T.oex.cls
  have hcl : PySem.W.clsIn K C = some { name := nm, bases := bs, mro := .ref C :: bm, ns := N', qualname := q, hasDict := true, slotNames := sn, subclasses := sub, abstract := ab, collection := col, hasDel := false } := by unfold PySem.W.clsIn; rw [hC] <;> rfl
  have X1 : K.In h₁ := KX.keeps kp
  have hkfree : scope.names.lookup ("__class__" : Str) = some .free := S.frk _ (by simp)
  have ndP : ps.Nodup := by
    have q := S.nd.sublist (List.take_sublist (ps.length + 1) N)
    have e := S.pre
    simp only [List.length_singleton] at e
    rw [e] at q
    exact (List.nodup_append.mp q).1
  refine ks_wpAt_execs_cons (ks_wpAt_Expr_any (ks_wpAt_MethodCall (ks_wpAt_super_base hks hkfree (by decide) rfl (X1 _ _ lk) rfl hp rfl (X1 _ _ hcda) rfl hfile hmain T.top ?_) (hcall _)) I.quiet rfl)
  obtain ⟨mb, hb1, hb2⟩ := I.mod.blt
  refine PySem.W.ks_loadName_global S.kind hks (Calls.loadGlobal_builtin (I.mod.glob.keeps I.bk) T.mg0 (hb1.keeps I.bk) ((hb2 "super" (by decide)).trans (by decide +kernel)) ⟨rfl, ?_⟩)
  refine wpAny_loadName_free S.kind hkfree (by rfl) ⟨_, X1 _ _ hcc, rfl⟩ ?_
  have hka : scope.names.lookup ar.arg = some .local := S.par _ (List.mem_of_getElem? hp0)
  refine wpAny_loadName_local S.kind hka hns (zip_look ndP hp0 hua) ?_
  have hD := X1 _ _ hC
  refine ks_wpAny_isType_cls hD rfl ⟨rfl, ?_⟩
  obtain ⟨t1, hx⟩ := exo_at I.hok hHa
  refine ks_wpAny_call_super hD rfl hx rfl (fun c z => by cases z) (PySem.W.looks_mroIn X1 T.self) (fun h2 hso k2 => ?_)
  have X2 : K.In h2 := X1.keeps k2
  have hx2 := k2 _ _ hx
  have IA : PySem.W.InstAt h2 a { cls := .ref C, dict := none, data := .fields #[.ref t1, .none, .none, .none, .bool false, .none] } C none := ⟨hx2, rfl, rfl, trivial⟩
  have hsup : PySem.W.alongIn K "__init__" (((Value.ref C :: bm).dropWhile (· != .ref C)).drop 1) = some (some (.builtin "ValueError.__init__")) := by
    have z := T.sup
    unfold PySem.W.ks_superIn at z
    rw [hcl] at z
    exact z
  refine PySem.W.kxs_getMethod PySem.W.kxs_ValueError hso (PySem.W.looks_opaque X2 T.any) (l₀ := Value.ref C :: bm) (fun A Q E s k q => wpAny_bind ((PySem.W.looks_clsIn X2 hcl) A _ E s k (wpAny_pure q))) rfl X2 hsup (IA.type.andThen (PySem.W.looks_subIn X2 T.sub)) (PySem.W.ks_ne X2 IA hcl) (by decide +kernel) ?_
  have I2 : Inv X [] (startF N vs [some (.ref C)]) H { s with heap := h2, toks := s.toks + (ps.zip us).length } := I.kept (t' := s.toks + (ps.zip us).length) k2
  have I3 : Inv X [] (startF N vs [some (.ref C)]) H { s with heap := h2.push (PySem.W.kxs_mw "ValueError.__init__" a), toks := s.toks + (ps.zip us).length + 1 } := I2.kept (t' := s.toks + (ps.zip us).length + 1) fun b o z => Heap.get?_push_of_some _ z
  have I4 : Inv X [(h2.objs.size, PySem.W.kxs_mw "ValueError.__init__" a)] (startF N vs [some (.ref C)]) H { s with heap := h2.push (PySem.W.kxs_mw "ValueError.__init__" a), toks := s.toks + (ps.zip us).length + 1 } :=
    ⟨I3.ok, I3.os, I3.bare, I3.base, I3.loc, I3.cell, I3.free, I3.freeC, fun p hp => by
      have e : p = (h2.objs.size, PySem.W.kxs_mw "ValueError.__init__" a) := by
        have z : p ∈ ([] : List (Addr × Obj)) ++ [(h2.objs.size, PySem.W.kxs_mw "ValueError.__init__" a)] := hp
        simpa using z
      subst e
      exact ⟨Heap.get?_push_at rfl rfl, I2.hok.fresh (Nat.le_refl _), Nat.ne_of_gt I2.lt, I2.nofs (Nat.le_refl _), fun v z => by cases z⟩, I3.hok, I3.len⟩
  have run := hpa.run p3 _ _ _ _ _ I4 hq
  refine PySem.W.kxs_callWith (i := "ValueError.__init__") (x := a) ?_ ?_
  · rw [hst]
    rfl
  · have e1 := hst X.env
    rw [hst]
    rw [e1] at run
    refine Calls.evalArgs_plain (thn run fun us2 s1 hh => ?_)
    obtain ⟨ws, H1, I5, r5, hz, hx5, ht⟩ := hh
    have pu := I5.pin (h2.objs.size, PySem.W.kxs_mw "ValueError.__init__" a) (by simp)
    refine ⟨pu.1, ?_⟩
    obtain ⟨t5, ho5⟩ := exo_at I5.hok hx5
    obtain ⟨hp5, g5, d5, tk5, os5⟩ := s1
    have hC5 : hp5.get? C = _ := I5.kIn _ _ hC
    refine call_mw hC5 ho5 pu.1 (by show us2.length ≤ sizeLine; rw [← Paired.length r5]; exact hz) fun h6 t6 k6 hx6 => ?_
    have I6 := I5.write (t' := tk5) (x := a) (e := a) (o := exo a C none) (by rw [hx5]; exact True.intro) (.inl rfl) k6 ⟨_, hx6⟩ (exo_ok hx6)
    have eu : upd H1 a (exo a C none) = H1 := by
      funext b
      by_cases hb : b = a
      · rw [hb, upd_same, hx5]
      · rw [upd_ne hb]
    rw [eu] at I6
    have I7 : Inv X [] (startF N vs [some (.ref C)]) H1 ⟨h6, g5, d5, tk5, os5⟩ := ⟨I6.ok, I6.os, I6.bare, I6.base, I6.loc, I6.cell, I6.free, I6.freeC, fun p hp => absurd (show p ∈ ([] : List (Addr × Obj)) ++ [] from hp) (by simp), I6.hok, I6.len⟩
    refine PySem.wpAt_of_wpAny (wpAny_mono (hps.run [] _ _ _ _ I7 ht) (fun fl s' hs => ?_) fun e s' hs => hs)
    have fin : ∀ {σ' : L2.St} {H' : Hp} {v : V} {u : Value}, Inv X [] σ' H' s' → L2.RelV v u → Q v H' → CE outer P w H s Q u s' :=
      fun {σ' H' v u} J rv q => ⟨v, H', J.os, J.bare, J.base, J.hok, rv, q⟩
    cases fl with
    | ret u =>
      obtain ⟨v, σ', H', J, rv, q⟩ := hs
      exact fin J rv q
    | next =>
      obtain ⟨σ', H', J, q⟩ := hs
      exact fin (v := V.non) (u := Value.none) J rfl q
    | brk => exact hs.choose_spec.choose_spec.2.elim
    | cont => exact hs.choose_spec.choose_spec.2.elim
end

/-! ### __init__ with one field, with two fields -/
section
variable {CX : CXT} {P : Program} {w : World} {K : PySem.W.Frag} {mg : Str → Option Value} {base : Heap} {k : Nat} {C fI : Addr} {qual : Str} {params : Arguments} {e0 : Expr} {scope : Scope} {p0 p1 p2 p3 p4 : Pos} {fd : FuncData} {x y f g : Str} {a1 a2 a3 a4 b1 b2 b3 b4 pe pf pg ph pi : Pos} {z z2 : Str} {j j2 : Nat} {ar : Arg}
/-- the call super().__init__(e0), by its places -/
abbrev SupCall (e0 : Expr) (p0 p1 p2 p3 : Pos) : Prop := ∀ env : Env, eval (.Call (.Attribute (.Call (.Name "super" p0) [] [] p1) "__init__" p2) [e0] [] p3) env = (do
      let ov ← attributeBase (.Call (.Name "super" p0) [] [] p1) "__init__" env (eval (.Call (.Name "super" p0) [] [] p1) env)
      standAt p2.atName
      let (f, first) ← holding [ov] (getMethod ov "__init__" (do return (← importBound (.Call (.Name "super" p0) [] [] p1) env).getD true))
      callWith p3 f first (backTo p3 (starEach [e0] env)) [])
def spE1 (C : Addr) (f : Str) : Sp := fun vs H Q _ => ∃ (a : Addr) (y : V), vs = [.ref a, y] ∧ H a = some (exo a C none) ∧ ∀ d, H d = none → d ≠ a → Q .non (upd (upd H d (exd d [(f, y)])) a (exo a C (some d)))
def spE2 (C : Addr) (f g : Str) (ok : V → Prop) : Sp := fun vs H Q _ => ∃ (a : Addr) (y z : V), vs = [.ref a, y, z] ∧ ok y ∧ H a = some (exo a C none) ∧
  ∀ d, H d = none → d ≠ a → Q .non (upd (upd (upd H d (exd d [(f, y)])) a (exo a C (some d))) d (exd d [(g, z), (f, y)]))
theorem err1_ok (T : SupF P K mg C fI qual params (.Constant (.str z) j pe) [.Assign [.Attribute (.Name "self" a1) f a2] (.Name x a3) a4] scope p0 p1 p2 p3 p4 fd) (S : NScope ["self", x, "__class__"] ["self", x] ["__class__"] scope)
    (hp : (params.posonlyargs ++ params.args).head? = some ar) (har : ar.arg = "self") (hks : scope.names.lookup ("super" : Str) = some .globalImplicit) (hno : PySem.W.findIn K (.ref C) f = some none) (hcall : SupCall (.Constant (.str z) j pe) p0 p1 p2 p3)
    (hx1 : (x == ("__debug__" : Str)) = false) (hx2 : (x == ("__classdict__" : Str)) = false) :
    FnOk P w K mg base CX (k + 1) fI fd ["self", x] (spE1 C f) := by
  refine sup_ok T S hp (by rw [har] <;> rfl) hks (fun _ => rfl) hcall (fun vs H Q E h => ?_) fun X H vs Q E eN eK em es ec h => ?_
  · obtain ⟨a, y, rfl, _⟩ := h
    rfl
  · obtain ⟨a, y, rfl, ha, q⟩ := h
    subst eK
    have n0 : X.N[0]? = some ("self" : Str) := by rw [eN] <;> rfl
    have n1 : X.N[1]? = some x := by rw [eN] <;> rfl
    have v0 : Vis X.env.scope "self" := by rw [es]; exact .inl (S.par _ (by simp))
    have v1 : Vis X.env.scope x := by rw [es]; exact .inl (S.par _ (by simp))
    refine ⟨a, _, _, rfl, ha, pa_cons pe_str pa_nil, pss_one (ps_ost (pv 0 n0 v0) (pe_var n1 v1 hx1 hx2)), ?_⟩
    refine ⟨by show 1 ≤ sizeLine; decide, ha, ?_⟩
    exact ⟨_, rfl, _, rfl, a, C, rfl, T.oex, hno, .inl ⟨ha, fun dx n ne => q dx n ne⟩⟩
theorem err2_ok (T : SupF P K mg C fI qual params (.Constant (.str z) j pe) [.Assign [.Attribute (.Name "self" a1) f a2] (.Name x a3) a4, .Assign [.Attribute (.Name "self" b1) g b2] (.Name y b3) b4] scope p0 p1 p2 p3 p4 fd)
    (S : NScope ["self", x, y, "__class__"] ["self", x, y] ["__class__"] scope)
    (hp : (params.posonlyargs ++ params.args).head? = some ar) (har : ar.arg = "self") (hks : scope.names.lookup ("super" : Str) = some .globalImplicit) (hno : PySem.W.findIn K (.ref C) f = some none) (hno2 : PySem.W.findIn K (.ref C) g = some none) (hcall : SupCall (.Constant (.str z) j pe) p0 p1 p2 p3)
    (hx1 : (x == ("__debug__" : Str)) = false) (hx2 : (x == ("__classdict__" : Str)) = false) (hy1 : (y == ("__debug__" : Str)) = false) (hy2 : (y == ("__classdict__" : Str)) = false) :
    FnOk P w K mg base CX (k + 1) fI fd ["self", x, y] (spE2 C f g fun _ => True) := by
  refine sup_ok T S hp (by rw [har] <;> rfl) hks (fun _ => rfl) hcall (fun vs H Q E h => ?_) fun X H vs Q E eN eK em es ec h => ?_
  · obtain ⟨a, y, z, rfl, _⟩ := h
    rfl
  · obtain ⟨a, u, v, rfl, _, ha, q⟩ := h
    subst eK
    have n0 : X.N[0]? = some ("self" : Str) := by rw [eN] <;> rfl
    have n1 : X.N[1]? = some x := by rw [eN] <;> rfl
    have n2 : X.N[2]? = some y := by rw [eN] <;> rfl
    have v0 : Vis X.env.scope "self" := by rw [es]; exact .inl (S.par _ (by simp))
    have v1 : Vis X.env.scope x := by rw [es]; exact .inl (S.par _ (by simp))
    have v2 : Vis X.env.scope y := by rw [es]; exact .inl (S.par _ (by simp))
    refine ⟨a, _, _, rfl, ha, pa_cons pe_str pa_nil, pss_cons (ps_ost (pv 0 n0 v0) (pe_var n1 v1 hx1 hx2)) (pss_one (ps_ost (pv 0 n0 v0) (pe_var n2 v2 hy1 hy2))), ?_⟩
    refine ⟨by show 1 ≤ sizeLine; decide, ha, ?_⟩
    exact ⟨_, rfl, _, rfl, a, C, rfl, T.oex, hno, .inl ⟨ha, fun dx n ne => ⟨_, rfl, _, rfl, a, C, rfl, T.oex, hno2, .inr ⟨dx, _, upd_same, (by rw [upd_ne ne, upd_same]), (by show 1 ≤ 900; decide), q dx n ne⟩⟩⟩⟩
/-- BadCount: the text is made of the first argument -/
theorem errB_ok (T : SupF P K mg C fI qual params (.BinOp (.BinOp (.Constant (.str z) j pe) .Add (.Name x pf) pg) .Add (.Constant (.str z2) j2 ph) pi)
      [.Assign [.Attribute (.Name "self" a1) f a2] (.Name x a3) a4, .Assign [.Attribute (.Name "self" b1) g b2] (.Name y b3) b4] scope p0 p1 p2 p3 p4 fd)
    (S : NScope ["self", x, y, "__class__"] ["self", x, y] ["__class__"] scope) (hz : z.length ≤ 100) (hz2 : z2.length ≤ 100)
    (hp : (params.posonlyargs ++ params.args).head? = some ar) (har : ar.arg = "self") (hks : scope.names.lookup ("super" : Str) = some .globalImplicit) (hno : PySem.W.findIn K (.ref C) f = some none) (hno2 : PySem.W.findIn K (.ref C) g = some none)
    (hcall : SupCall (.BinOp (.BinOp (.Constant (.str z) j pe) .Add (.Name x pf) pg) .Add (.Constant (.str z2) j2 ph) pi) p0 p1 p2 p3)
    (hx1 : (x == ("__debug__" : Str)) = false) (hx2 : (x == ("__classdict__" : Str)) = false) (hy1 : (y == ("__debug__" : Str)) = false) (hy2 : (y == ("__classdict__" : Str)) = false) :
    FnOk P w K mg base CX (k + 1) fI fd ["self", x, y] (spE2 C f g fun v => ∃ t : Str, v = .str t ∧ t.length ≤ 1000) := by
  refine sup_ok T S hp (by rw [har] <;> rfl) hks (fun _ => rfl) hcall (fun vs H Q E h => ?_) fun X H vs Q E eN eK em es ec h => ?_
  · obtain ⟨a, y, z, rfl, _⟩ := h
    rfl
  · obtain ⟨a, u, v, rfl, ⟨t, rfl, ht⟩, ha, q⟩ := h
    subst eK
    have n0 : X.N[0]? = some ("self" : Str) := by rw [eN] <;> rfl
    have n1 : X.N[1]? = some x := by rw [eN] <;> rfl
    have n2 : X.N[2]? = some y := by rw [eN] <;> rfl
    have v0 : Vis X.env.scope "self" := by rw [es]; exact .inl (S.par _ (by simp))
    have v1 : Vis X.env.scope x := by rw [es]; exact .inl (S.par _ (by simp))
    have v2 : Vis X.env.scope y := by rw [es]; exact .inl (S.par _ (by simp))
    refine ⟨a, _, _, rfl, ha, pa_cons (pe_op op_add_str (pe_op op_add_str pe_str (pe_var n1 v1 hx1 hx2)) pe_str) pa_nil, pss_cons (ps_ost (pv 0 n0 v0) (pe_var n1 v1 hx1 hx2)) (pss_one (ps_ost (pv 0 n0 v0) (pe_var n2 v2 hy1 hy2))), ?_⟩
    have l1 : z.length + t.length ≤ sizeLine := by rw [sizeLine_eq]; omega
    have l2 : (z ++ t).length + z2.length ≤ sizeLine := by
      have e : (z ++ t).length = z.length + t.length := by simp [PySem.Str.length_append]
      rw [e, sizeLine_eq]; omega
    refine ⟨_, rfl, _, _, rfl, rfl, l1, _, _, rfl, rfl, l2, ?_⟩
    refine ⟨by show 1 ≤ sizeLine; decide, ha, ?_⟩
    exact ⟨_, rfl, _, rfl, a, C, rfl, T.oex, hno, .inl ⟨ha, fun dx n ne => ⟨_, rfl, _, rfl, a, C, rfl, T.oex, hno2, .inr ⟨dx, _, upd_same, (by rw [upd_ne ne, upd_same]), (by show 1 ≤ 900; decide), q dx n ne⟩⟩⟩⟩
end
end SI
set_option maxRecDepth 100000
set_option maxHeartbeats 4000000
namespace SI
open PySem PySem.Spec PyProof.Rows L2 NdefX
/-! ### raising such an error: one reading for all classes -/
def mono (ta : TA) : TA := fun σ H Q => ∃ Q' : List V → Hp → Prop, ta σ H Q' ∧ ∀ vs H1, Q' vs H1 → Q vs H1
theorem pa_mono {X : Cx} {es : List Expr} {ta : TA} (h : PA X es ta) : PA X es (mono ta) := ⟨fun pos pins s σ H Q I ⟨Q', q, m⟩ => thn (h.run pos pins s σ H Q' I q) fun us s1 ⟨vs, H1, I1, r1, q1⟩ => ⟨vs, H1, I1, r1, m vs H1 q1⟩⟩
/-- C(..): the error's own dict is new, it holds the fields -/
def tErr (C : Addr) (mk : List V → List (Str × V) → Prop) (ta : TA) : L2.St → Hp → XK → Prop := fun σ H Q => ta σ H fun vs H1 => ∃ fs, mk vs fs ∧ ∀ d, H1 d = none → Q (.ref C) (some d) (upd H1 d (.xd fs))
theorem err_heap {H1 : Hp} {a d : Addr} {o1 o2 u : HO} (ha : H1 a = none) (hd : H1 d = none) (ne : d ≠ a) : upd (del (upd (upd H1 d o1) a o2) a) d u = upd H1 d u := by
  funext b
  by_cases hb : b = d
  · rw [hb, upd_same, upd_same]
  · rw [upd_ne hb, upd_ne hb]
    by_cases hc : b = a
    · rw [hc, del_same, ha]
    · rw [del_ne hc, upd_ne hc, upd_ne hb]
theorem err_heap2 {H1 : Hp} {a d : Addr} {o1 o2 o3 u : HO} (ha : H1 a = none) (hd : H1 d = none) (ne : d ≠ a) : upd (del (upd (upd (upd H1 d o1) a o2) d o3) a) d u = upd H1 d u := by
  funext b
  by_cases hb : b = d
  · rw [hb, upd_same, upd_same]
  · rw [upd_ne hb, upd_ne hb]
    by_cases hc : b = a
    · rw [hc, del_same, ha]
    · rw [del_ne hc, upd_ne hb, upd_ne hc, upd_ne hb]
theorem upd_comm0 {H1 : Hp} {a d : Addr} {u : HO} (ne : d ≠ a) (o : HO) : upd (upd H1 a o) d u = upd (upd H1 d u) a o := by
  funext b
  by_cases hb : b = d
  · subst hb
    rw [upd_same, upd_ne ne, upd_same]
  · rw [upd_ne hb]
    by_cases hc : b = a
    · rw [hc, upd_same, upd_same]
    · rw [upd_ne hc, upd_ne hc, upd_ne hb]
def mk1 (f : Str) : List V → List (Str × V) → Prop := fun vs fs => ∃ y, vs = [y] ∧ fs = [(f, y)]
def mk2 (f g : Str) (ok : V → Prop) : List V → List (Str × V) → Prop := fun vs fs => ∃ y z, vs = [y, z] ∧ ok y ∧ fs = [(g, z), (f, y)]
section
variable {X : Cx} {CX : CXT} {x f g : Str} {C fI : Addr} {k : Nat} {fd : FuncData} {ps : List Str} {e : Expr} {es : List Expr} {ta : TA} {p pos : Pos} {ok : V → Prop}
theorem pmk_e1 {y : Str} (T : OexC X.K C) (iC : PySem.W.findIn X.K (.ref C) "__init__" = some (some (.ref fI))) (tI : PySem.W.typeIn X.K (.ref fI) = some (.type "function"))
    (F1 : FnOk X.prog X.w X.K X.mg X.base CX k fI fd ["self", y] (spE1 C f)) (hr : Room (k + 1) X.A) (hb : Binds X.K fd ["self", y] []) (hx : Passes CX X (fun _ _ _ => False)) (hg : Gl X x) (hm : X.mg x = some (.ref C)) (ha : PA X (e :: es) ta)
    (hdb : (x == ("__debug__" : Str)) = false := by decide) (he : starEach (e :: es) X.env = (false, eval e X.env) :: starEach es X.env := by rfl) (hpl : (backTo pos (starEach es X.env)).any (·.1) = false := by rfl) :
    PMk X (.Call (.Name x p) (e :: es) [] pos) (tErr C (mk1 f) ta) := by
  have R := pmk_oex (pos := pos) (p := p) T iC tI F1 hr hb .nil hx hg hm (pa_mono ha) hdb he hpl
  intro pins s σ H Q I h
  refine R pins s σ H Q I ⟨_, h, ?_⟩
  rintro vs H1 ⟨fs, ⟨y, rfl, rfl⟩, q⟩
  refine ⟨by show 1 ≤ 1000; decide, fun a na => ?_⟩
  refine ⟨a, y, rfl, upd_same, fun d hd ne => ⟨rfl, d, [(f, y)], upd_same, by rw [upd_ne ne, upd_same], ?_, ?_⟩⟩
  · rw [upd_ne ne] at hd
    exact hd
  · have hd' : H1 d = none := by
      rw [upd_ne ne] at hd
      exact hd
    have e1 : upd (del (upd (upd (upd H1 a (exo a C none)) d (exd d [(f, y)])) a (exo a C (some d))) a) d (HO.xd [(f, y)]) = upd H1 d (.xd [(f, y)]) := by
      rw [upd_comm0 ne, upd_upd]
      exact err_heap na hd' ne
    rw [e1]
    exact q d hd'
theorem pmk_e2 {y z : Str} (T : OexC X.K C) (iC : PySem.W.findIn X.K (.ref C) "__init__" = some (some (.ref fI))) (tI : PySem.W.typeIn X.K (.ref fI) = some (.type "function"))
    (F1 : FnOk X.prog X.w X.K X.mg X.base CX k fI fd ["self", y, z] (spE2 C f g ok)) (hr : Room (k + 1) X.A) (hb : Binds X.K fd ["self", y, z] []) (hx : Passes CX X (fun _ _ _ => False)) (hg : Gl X x) (hm : X.mg x = some (.ref C)) (ha : PA X (e :: es) ta)
    (hdb : (x == ("__debug__" : Str)) = false := by decide) (he : starEach (e :: es) X.env = (false, eval e X.env) :: starEach es X.env := by rfl) (hpl : (backTo pos (starEach es X.env)).any (·.1) = false := by rfl) :
    PMk X (.Call (.Name x p) (e :: es) [] pos) (tErr C (mk2 f g ok) ta) := by
  have R := pmk_oex (pos := pos) (p := p) T iC tI F1 hr hb .nil hx hg hm (pa_mono ha) hdb he hpl
  intro pins s σ H Q I h
  refine R pins s σ H Q I ⟨_, h, ?_⟩
  rintro vs H1 ⟨fs, ⟨y, z, rfl, hok, rfl⟩, q⟩
  refine ⟨by show 2 ≤ 1000; decide, fun a na => ?_⟩
  refine ⟨a, y, z, rfl, hok, upd_same, fun d hd ne => ⟨rfl, d, [(g, z), (f, y)], by rw [upd_ne (Ne.symm ne), upd_same], upd_same, ?_, ?_⟩⟩
  · rw [upd_ne ne] at hd
    exact hd
  · have hd' : H1 d = none := by
      rw [upd_ne ne] at hd
      exact hd
    have e1 : upd (del (upd (upd (upd (upd H1 a (exo a C none)) d (exd d [(f, y)])) a (exo a C (some d))) d (exd d [(g, z), (f, y)])) a) d (HO.xd [(g, z), (f, y)]) = upd H1 d (.xd [(g, z), (f, y)]) := by
      rw [upd_comm0 ne (exo a C none), upd_upd]
      exact err_heap2 na hd' ne
    rw [e1]
    exact q d hd'
end

/-! ### a caught error: isinstance, its fields -/
structure ErrC (K : PySem.W.Frag) (C : Addr) : Prop where
  cl : (PySem.W.clsIn K C).isSome = true
  ga : PySem.W.findIn K (.ref C) "__getattribute__" = some (some (.builtin "BaseException.__getattribute__"))
  gg : PySem.W.findIn K (.ref C) "__getattr__" = some none
  exC : PySem.W.subIn K (.ref C) (.type "BaseException") = some true
  hd : PySem.W.hasDictIn K C = true
  ac : PySem.W.findIn K (.ref C) "__class__" = some (some (.builtin "object.__class__"))
  mo : PySem.W.mroIn K C (.type "object") = some true
structure ErrK (K : PySem.W.Frag) : Prop where
  hn : PySem.W.specialIn K (.builtin "object.__class__") "__get__" = some (some (.builtin "getset_descriptor.__get__"))
  ht : PySem.W.takesIn K (.builtin "object.__class__") = some true
def rIsX (K : PySem.W.Frag) (a : Addr) (cls : Value) (d : Option Addr) : List V → Hp → VK → Prop := fun xs H Q => ∃ (D : Addr) (c : V) (cv : Value) (b : Bool), cls = .ref D ∧ ErrC K D ∧ xs = [.ref a, c] ∧ ClsV c cv ∧ PySem.W.kitOne K cls cv = some b ∧
  (∀ dd, d = some dd → ∃ fs, H dd = some (.xd fs)) ∧ Q (.bl b) H
theorem call_isX {X : Cx} {a : Addr} {oe : Obj} {cls : Value} {d : Option Addr} (EK : ErrK X.K) (hp : (a, oe) ∈ X.pn) (hz : Zc cls d oe) (hf : ∃ vs, oe.data = .fields vs) : CallR X (.builtin "isinstance") (rIsX X.K a cls d) := by
  intro pins s σ H xs us Q I r h
  obtain ⟨D, c, cv, b, ecls, C, rfl, hcv, e, hd, q⟩ := h
  cases r with
  | cons rx rr =>
    cases rr with
    | cons rt rr =>
      cases rr
      cases rx
      have ec := hcv.eq rt
      subst ec
      subst ecls
      obtain ⟨hget, _⟩ := I.pin (a, oe) (List.mem_append_left _ hp)
      obtain ⟨vs, hv⟩ := hf
      obtain ⟨od, J⟩ : ∃ od, PySem.W.InstAt s.heap a oe D od := by
        obtain ⟨oc, odi, oda, osl⟩ := oe
        obtain ⟨h1, h2⟩ := hz
        dsimp only at h1 h2 hv
        subst h1 h2 hv
        cases odi with
        | none => exact ⟨none, hget, rfl, rfl, trivial⟩
        | some dd =>
          obtain ⟨fs, hfs⟩ := hd dd rfl
          have hx : ObjOk X.prog X.w H s.heap dd (.xd fs) := I.hok dd _ hfs
          obtain ⟨mA, ⟨o, es, ep, ho, _⟩, _⟩ := hx
          exact ⟨some o, hget, rfl, rfl, ho⟩
      exact PySem.W.kia_one (PySem.W.kitx_exc C.cl C.ga C.gg C.exC C.ac EK.hn EK.ht C.mo) I.kIn J e (fun z => nomatch z) fun tk => ⟨.bl b, H, I.kept (t' := tk) fun _ _ z => z, rfl, q⟩
/-- e.f -/
def tErrF (K : PySem.W.Frag) (a : Addr) (cls : Value) (d : Option Addr) (f : Str) (te : TE) : TE := fun σ H Q => ∃ (C dd : Addr), cls = .ref C ∧ ErrC K C ∧ PySem.W.findIn K (.ref C) f = some none ∧ d = some dd ∧
  te σ H fun x H1 => x = .ref a ∧ ∃ (fs : List (Str × V)) (v : V), H1 dd = some (.xd fs) ∧ fs.lookup f = some v ∧ Q v H1
theorem pe_errF {X : Cx} {a : Addr} {oe : Obj} {cls : Value} {d : Option Addr} {e : Expr} {te : TE} {pos : Pos} {n : Str} (hp : (a, oe) ∈ X.pn) (hz : Zc cls d oe) (hf : ∃ vs, oe.data = .fields vs) (he : PE X e te) (hb : attributeBase e n X.env (eval e X.env) = eval e X.env := by rfl) :
    PE X (.Attribute e n pos) (tErrF X.K a cls d n te) := by
  refine ⟨fun pins s σ H Q I h => ?_⟩
  obtain ⟨C, dd, ec, T, hno, ed, h⟩ := h
  subst ec
  refine attr_of hb (thn (he.run pins s σ H _ I h) fun u s1 hh => ?_)
  obtain ⟨x, H1, I1, rx, ex, fs, v, ea, l, q⟩ := hh
  subst ex
  obtain rfl : u = Value.ref a := rx
  subst ed
  obtain ⟨ha, _⟩ := I1.pin (a, oe) (List.mem_append_left _ hp)
  obtain ⟨vs, hd⟩ := hf
  have hx : ObjOk X.prog X.w H1 s1.heap dd (.xd fs) := I1.hok dd _ ea
  obtain ⟨mA, hns, hr⟩ := hx
  obtain ⟨od, ho, hl⟩ := lookIn_ns hns
  obtain ⟨u, hu, ru⟩ := RelO.some_of (v := v) (o := mA n) (by rw [← l]; exact hr n)
  have J : PySem.W.InstAt s1.heap a oe C (some od) := ⟨ha, hz.1, by unfold PySem.W.notCls; rw [hd] <;> rfl, by rw [hz.2]; exact ho⟩
  exact HandSPX.exc_get I1.kIn J T.ga T.gg T.exC (PySem.W.findObj_own T.hd hno rfl (by rw [hl, hu])) (handed_of ru) ⟨v, H1, I1.tok _, ru, q⟩
end SI
set_option maxRecDepth 100000
set_option maxHeartbeats 4000000
namespace SI
open PySem PySem.Spec PyProof.Rows L2 NdefX L2H
/-! ### defs called while an exception p is handled; p may be handed on -/
structure FnW (P : Program) (w : World) (K : PySem.W.Frag) (mg : Str → Option Value) (base : Heap) (CX : CXT) (k : Nat) (f : Addr) (fd : FuncData) (ps : List Str) (sp : Addr × Obj → Sp) : Prop where
  len : ∀ p vs H Q E, sp p vs H Q E → vs.length = ps.length
  run : ∀ (A : Around) (outer : List Env) (s : Shared) (H : Hp) (args : Args) (us : List Value) (vs : List V) (Q : VK) (E : XK) (p : Addr × Obj), RoomH k A → PinOk outer H s p → Env0 P w K mg base A outer s H → BindsTo s fd args (ps.zip us) → Vals vs us → sp p vs H Q E →
    codeAny (model P w) A (.call (.ref f) args) (CR CX outer P w H s Q E) s
theorem fn_ofW {CX : CXT} {P : Program} {w : World} {K : PySem.W.Frag} {mg : Str → Option Value} {base : Heap} {k : Nat} {f : Addr} {name qual : Str} {params : Arguments} {body : List Stmt} {scope : Scope} {dV kV doc pm cdv ct oc : Value} {an od : Option Addr}
    {osl : Array (Option Value)} {N ps : List Str} {sp : Addr × Obj → Sp} (lk : K.lookup f = some ⟨oc, od, .func (PySem.W.fnOf name qual params body scope dV kV doc pm an cdv ct), osl⟩) (hcd : PySem.W.codeIn K cdv qual = true) (S : FnScope N ps scope)
    (len : ∀ p vs H Q E, sp p vs H Q E → vs.length = ps.length)
    (hbody : ∀ (A : Around) (outer : List Env) (s : Shared) (H : Hp) (vs : List V) (Q : VK) (E : XK) (p : Addr × Obj), RoomH k (A.deeper (envOfC qual scope s.heap.objs.size f cdv)) → sp p vs H Q E →
      ∃ t, PSs (cxH CX P w K mg base N qual scope f cdv A outer s H E p) body t ∧ t { nx := fun _ H' => Q .non H', rt := Q } (L2.start N vs) H) :
    FnW P w K mg base CX (k + 1) f (PySem.W.fnOf name qual params body scope dV kV doc pm an cdv ct) ps sp := by
  refine ⟨len, fun A outer s H args us vs Q E p hr hpin e0 hb r hsp => ?_⟩
  have hl := len _ _ _ _ _ hsp
  have KX : K.In s.heap := e0.mod.kin.keeps fun b o e => (e0.bs b o e).1
  have lim : s.heap.NoLimit := e0.mod.nolimit.keeps fun b o e => (e0.bs b o e).1
  have hkind : ∀ y ∈ ps.zip us, scope.names.lookup y.1 = some .local ∨ (scope.names.lookup y.1 = some .cell ∧ ((cellsFrom (s.heap.objs.size + 1) scope.names []).lookup y.1).isSome = true) := fun ⟨n, v⟩ hy =>
    (S.par n (List.of_mem_zip hy).1).elim .inl fun q => .inr ⟨q, PySem.W.cellsFrom_some _ _ _ (.inl q)⟩
  refine codeAny_call_function hr.depth (KX _ _ lk) rfl S.co S.gen rfl (PySem.W.codeRec_of KX hcd) (hb _ _ _ _ (wpAny_newFunctionEnv_cells S.kind hkind fun env he s1 x => ?_))
  subst he
  obtain ⟨t, ht, hq⟩ := hbody A outer s H vs Q E p (hr.deeper _) hsp
  have I : Inv (cxH CX P w K mg base N qual scope f cdv A outer s H E p) [] (L2.start N vs) H s1 := inv_startH S hpin e0 hl r x
  refine ⟨lim.keeps x.toInCall.keep, codeAny_func (wpAny_mono (ht.run [] s1 (L2.start N vs) H _ I hq) (fun fl s' hs => ?_) fun e s' hs => hs)⟩
  have fin : ∀ {σ' : L2.St} {H' : Hp} {v : V} {u : Value}, Inv (cxH CX P w K mg base N qual scope f cdv A outer s H E p) [] σ' H' s' → L2.RelV v u → Q v H' → CE outer P w H s Q u s' :=
    fun {σ' H' v u} J rv q => ⟨v, H', J.os, J.bare, J.base, J.hok, rv, q⟩
  cases fl with
  | ret u => exact fin hs.choose_spec.choose_spec.choose_spec.1 hs.choose_spec.choose_spec.choose_spec.2.1 hs.choose_spec.choose_spec.choose_spec.2.2
  | next => exact fin (v := V.non) (u := Value.none) hs.choose_spec.choose_spec.1 rfl hs.choose_spec.choose_spec.2
  | brk => exact hs.choose_spec.choose_spec.2.elim
  | cont => exact hs.choose_spec.choose_spec.2.elim
section
variable {X : Cx} {CX : CXT} {k : Nat} {f C : Addr} {fd : FuncData} {ps : List Str} {sp : Addr × Obj → Sp} {E : L2.St → XK} {x m : Str} {q pos apos : Pos} {e o : Expr} {es : List Expr} {ta : TE} {t : TA} {p : Addr × Obj}
theorem run_fnW {pins : List (Addr × Obj)} {σ : L2.St} {H : Hp} {s : Shared} {Q : VK} {us : List Value} {vs : List V} (F : FnW X.prog X.w X.K X.mg X.base CX k f fd ps sp) (hr : RoomH k X.A) (hp : p ∈ X.pn) (hb : Binds X.K fd ps []) (hx : PassesAt CX X σ (E σ))
    (I : Inv X pins σ H s) (r : Vals vs us) (h : sp p vs H Q (E σ)) : wpAny (model X.prog X.w) X.A (call (.ref f) us) (EP X pins σ Q) X.xe s := by
  have hl : us.length = ps.length := by rw [← r.length]; exact F.len _ _ _ _ _ h
  have b := hb s us I.kIn (by rw [List.append_nil]; exact hl)
  rw [List.append_nil] at b
  have P1 := I.pin p (List.mem_append_left _ hp)
  have hpin : PinOk X.stack H s p := ⟨P1.1, P1.2.1, fun hm => (List.mem_cons.mp (I.stkSub p.1 hm)).elim P1.2.2.1 P1.2.2.2.1, P1.2.2.2.2⟩
  refine wpAny_call (codeAny_mono (F.run X.A X.stack s H ⟨us, []⟩ us vs Q (E σ) p hr hpin I.env0 b r h) fun r s' hq => ?_)
  match r, hq with
  | .error e, hq => exact hx pins H s e s' I hq
  | .ok (.ret u), hq => exact I.after hq
  | .ok .next, hq => exact False.elim hq
  | .ok .brk, hq => exact False.elim hq
  | .ok .cont, hq => exact False.elim hq
theorem pe_callW (F : FnW X.prog X.w X.K X.mg X.base CX k f fd ps sp) (hr : RoomH k X.A) (hp : p ∈ X.pn) (hg : Gl X x) (hm : X.mg x = some (.ref f)) (hk : PySem.W.keepIn X.K (.ref f) = true) (hb : Binds X.K fd ps []) (hx : ∀ σ, PassesAt CX X σ (E σ))
    (ha : PA X (e :: es) t) (hdb : (x == ("__debug__" : Str)) = false := by decide) (he : starEach (e :: es) X.env = (false, eval e X.env) :: starEach es X.env := by rfl) (hpl : (backTo pos (starEach es X.env)).any (·.1) = false := by rfl) :
    PE X (.Call (.Name x q) (e :: es) [] pos) (tCallS (sp p) E t) := by
  refine ⟨fun pins s σ H Q I h => wpAny_Call_Name_kw (ld_glob I hg hm ?_ hdb)⟩
  exact PySem.W.callWith_K (h₀ := X.base) I.ok.mod.kin hk (thn (ha.run pos pins s σ H _ I h) fun us s1 ⟨vs, H1, I1, r, q⟩ => ⟨I1.kIn, run_fnW F hr hp hb (hx σ) I1 r q⟩) he hpl
end
/-- a def that lets nothing out: its body's rule -/
theorem Fun_okW {P : Program} {w : World} {K : PySem.W.Frag} {mg : Str → Option Value} {base : Heap} {x qual : Str} {st : Stmt} {f : Addr} {fd : FuncData} {N ps : List Str} {k : Nat} {sp : Addr × Obj → Sp} (F : Fun K x qual st f fd) (S : FnScope N ps (defScope st)) (len : ∀ p vs H Q E, sp p vs H Q E → vs.length = ps.length)
    (hbody : ∀ (cdv : Value) (A : Around) (outer : List Env) (s : Shared) (H : Hp) (vs : List V) (Q : VK) (E : XK) (p : Addr × Obj), RoomH k (A.deeper (envOfC qual (defScope st) s.heap.objs.size f cdv)) → sp p vs H Q E →
      ∃ t, PSs (cxH CX0 P w K mg base N qual (defScope st) f cdv A outer s H E p).nox (defBody st) t ∧ t { nx := fun _ H' => Q .non H', rt := Q } (L2.start N vs) H) : FnW P w K mg base CX0 (k + 1) f fd ps sp := by
  obtain ⟨oc, od, kV, doc, pm, an, cdv, ct, osl, rfl, lk, hcd⟩ := F.ex
  refine fn_ofW lk hcd S len fun A outer s H vs Q E p hr hsp => ?_
  obtain ⟨t, h, q⟩ := hbody cdv A outer s H vs Q E p hr hsp
  exact ⟨t, h.nox, q⟩
theorem passA0 {X : Cx} {σ : L2.St} {E : XK} : PassesAt CX0 X σ E := fun _ _ _ _ _ _ h => h.elim
end SI
set_option maxRecDepth 100000
set_option maxHeartbeats 4000000
/-! enumerate(t), t a tuple -/
namespace SI
open PySem PySem.Spec PyProof.Rows L2
theorem enumT_meets {v : Value} {o : Obj} {H : Heap → Prop} (B : Begins v o H) :
    Meets (Builtin.«enumerate.__new__» ⟨[.type "enumerate", v], []⟩) (fun _ R s => H s.heap ∧
      R (.ok (.ret (.ref (s.heap.push o).objs.size))) { s with heap := (s.heap.push o).push { cls := .type "enumerate", data := .fields #[.none, .bool false, .ref s.heap.objs.size, rawInt 0, .none, .none] } }) :=
  .of_wp fun prog w A R s h => by
    obtain ⟨hp, g, d, tk, os⟩ := s
    have hsub := sub_enumerate
    have q1 : ∀ {A' : Around} {E : Value → Shared → Prop} {Q : Value → Shared → Prop}, Q (.ref hp.objs.size) ⟨hp.push o, g, d, tk, os⟩ → wpAny (model prog w) A' (pyIter v) Q E ⟨hp, g, d, tk, os⟩ :=
      fun q => B.iter prog w _ _ ⟨hp, g, d, tk, os⟩ _ h.1 q
    wp_walk using q1
    refine wpAny_stack_any fun st => wpAny_pure ?_
    split
    · rename_i c _ _ _ _ _
      cases (c == Value.type "enumerate") <;> (wp_walk using q1) <;> exact ⟨_, rfl, h.2⟩
    · wp_walk using q1
      exact ⟨_, rfl, h.2⟩
theorem enumT_call {prog : Program} {w : World} {A : Around} {E : Value → Shared → Prop} {s : Shared} {v : Value} {o : Obj} {H : Heap → Prop} {Q : Value → Shared → Prop} (B : Begins v o H) (h1 : H s.heap)
    (h : ∀ h', IsEnum h' (s.heap.objs.size + 1) s.heap.objs.size 0 .none → h'.get? s.heap.objs.size = some o → (∀ b o, s.heap.get? b = some o → h'.get? b = some o) → Q (.ref (s.heap.objs.size + 1)) { s with heap := h' }) :
    wpAny (model prog w) A (call (.type "enumerate") [v]) Q E s := by
  refine callType_new F.called_enumerate (by decide) (F.typeCall_enumerate_1 _) (F.newCall_enumerate_1 _) (fun obj => F.args_object_init_2 obj _) F.entry_enumerate_new (enumT_meets B) ⟨h1, ?_⟩
  have hz : (s.heap.push o).objs.size = s.heap.objs.size + 1 := Heap.size_push ..
  have he := Heap.get?_push_size (s.heap.push o) (o := { cls := .type "enumerate", data := .fields #[.none, .bool false, .ref s.heap.objs.size, rawInt 0, .none, .none] }) rfl
  rw [hz] at he
  show _ ∧ _
  rw [hz]
  exact ⟨⟨_, he, rfl⟩, h _ he (Heap.get?_push_of_some _ (Heap.get?_push_size _ B.free)) fun b o x => Heap.get?_push_of_some _ (Heap.get?_push_of_some _ x)⟩
/-- the tuple at a as it stands at each turn, each item in a new pair -/
def IteT (K : PySem.W.Frag) (a : Addr) : It :=
  ⟨fun i H => ∃ (xs : List V) (x : V), SqT K H a xs ∧ xs[i]? = some x, fun i H v H' => ∃ T x, v = .ref T ∧ H T = none ∧ H' = upd H T (.tup [.int (i : Nat), x]) ∧ ∀ xs, SqT K H a xs → xs[i]? = some x, fun i H => ∃ xs : List V, SqT K H a xs ∧ xs.length = i⟩
theorem turn_enumT {P : Program} {w : World} {K : PySem.W.Frag} {elts : List Expr} {kk : Nat} {tpos : Pos} (a e it : Addr) :
    Turn P w K (.Tuple elts kk tpos) (IteT K a) [e, it] e (fun i h => (∃ old, IsEnum h e it ((i : Nat) : Int) old) ∧ h.IsTupleIter it a i ∧ e ≠ it ∧ a ≠ it ∧ a ≠ e) where
  mem := by simp
  obj := fun i h st b hb => by
    obtain ⟨⟨old, he⟩, ⟨o, ho, hc, hd⟩, _⟩ := st
    have e' : b = e ∨ b = it := by simpa using hb
    rcases e' with z | z
    · rw [z]; exact ⟨_, he, fun v q => nomatch q⟩
    · rw [z]; exact ⟨o, ho, fun v q => by rw [hd] at q; cases q⟩
  keep := fun i h h' st k => let ⟨⟨old, he⟩, hi, hne⟩ := st; ⟨⟨old, k e (by simp) _ he⟩, hi.at fun o q => k it (by simp) o q, hne⟩
  item := by
    intro X hP hw hK hc i pins s σ H E I hf st hg
    subst hP hw hK
    obtain ⟨⟨old, he⟩, hit, hne, hai, hae⟩ := st
    obtain ⟨xs, x, hq, hx⟩ := hg
    obtain ⟨its, rv, p, hz⟩ := I.tuple hq
    obtain ⟨u, hu, ru⟩ := rv.get hx
    have hlt : i < its.toArray.size := by
      have := (List.getElem?_eq_some_iff.mp hu).1
      simpa using this
    have hel : e < s.heap.objs.size := Heap.lt_size he
    have hil : it < s.heap.objs.size := by obtain ⟨_, q, _⟩ := hit; exact Heap.lt_size q
    have pt : s.heap.IsTuple a its.toArray := p
    have D : Draws X.prog X.w X.A.in1 it [it, a] its.toArray.size (fun i v => its.toArray[i]? = some v) (fun i h => h.IsTupleIter it a i ∧ h.IsTuple a its.toArray) := Draws.tuple (show X.A.in1.handled = none from I.ok.hd hc) it a hai its.toArray
    refine wpAny_pyNext_enum_itemD D he ⟨hit, pt⟩ hlt hne (by simp [hne, Ne.symm hae]) fun y h' tk hy ho hst' hT hsz hk => ?_
    have ey : y = u := by
      have e1 : its.toArray[i]? = some u := by simpa using hu
      have e2 : its.toArray[i]? = some y := hy
      rw [e1] at e2
      exact (Option.some.inj e2).symm
    subst ey
    refine ⟨_, rfl, wpAny_letOwnedTupleGo_enum (s := { s with heap := h', toks := tk + 1 }) ho fun h'' he' sb => ?_⟩
    have hT2 : h''.get? s.heap.objs.size = some { cls := .type "tuple", data := .seq #[.int i tk, y] } := (sb.2 _ (Nat.ne_of_gt hel)).trans hT
    have new : ObjOk X.prog X.w (upd H s.heap.objs.size (.tup [.int (i : Nat), x])) h'' s.heap.objs.size (.tup [.int (i : Nat), x]) :=
      ⟨by show 2 ≤ sizeLine; decide, [.int i tk, y], .cons ⟨_, rfl⟩ (.cons ru .nil), ⟨_, hT2, rfl, _, rfl⟩⟩
    have I1 : Inv X pins σ (upd H s.heap.objs.size (.tup [.int (i : Nat), x])) { s with heap := h'', toks := tk + 1 } :=
      I.turnedNew (ch := [e, it]) (fun b o hb q => (sb.2 b (fun z => hb (by simp [z]))).trans (hk b o (fun z => hb (by simp [z])) (fun z => hb (by simp [z])) q)) hf (Nat.le_refl _) new
    refine ⟨.ref s.heap.objs.size, _, I1, rfl, ⟨_, x, rfl, I.hok.fresh (Nat.le_refl _), rfl, fun ys hy => by rw [I.tuple_inj hy hq]; exact hx⟩, ⟨⟨y, ?_⟩, hst'.1.at fun o q => (sb.2 it (Ne.symm hne)).trans q, hne, hai, hae⟩, fun b hb => ?_⟩
    · have e1 : ((i + 1 : Nat) : Int) = (i : Int) + 1 := by omega
      rw [e1]; exact he'
    · have hb' : b < s.heap.objs.size := by
        have e' : b = e ∨ b = it := by simpa using hb
        rcases e' with z | z <;> rw [z]
        · exact hel
        · exact hil
      rw [upd_ne (Nat.ne_of_lt hb')]
      exact (hf b hb).1
  done := by
    intro X hP hw hK hc i pins s σ H E I hf st hg
    subst hP hw hK
    obtain ⟨⟨old, he⟩, hit, hne, hai, hae⟩ := st
    obtain ⟨xs, hq, hx⟩ := hg
    obtain ⟨its, rv, p, hz⟩ := I.tuple hq
    have pt : s.heap.IsTuple a its.toArray := p
    obtain ⟨f0, f1, f2, f3, f4, f5⟩ := hf it (by simp)
    have hl : xs.length = its.length := rv.length
    have hi : i = its.toArray.size := by rw [List.size_toArray, ← hl, hx]
    subst hi
    have D : Draws X.prog X.w X.A.in1 it [it, a] its.toArray.size (fun i v => its.toArray[i]? = some v) (fun i h => h.IsTupleIter it a i ∧ h.IsTuple a its.toArray) := Draws.tuple (show X.A.in1.handled = none from I.ok.hd hc) it a hai its.toArray
    exact wpAny_pyNext_enum_endD D he ⟨hit, pt⟩ fun h' eb => ⟨rfl, I.turned (t' := s.toks) (fun b o hb q => eb b o hb q) f0 f1 f3 f4 f5⟩
  self := fun A i s Q E st h => let ⟨⟨_, he⟩, _⟩ := st; wpAny_pyIter_enum he h
def iEnumT (K : PySem.W.Frag) (ta : TA) : TI := fun σ H R => ta σ H fun vs H1 => ∃ a xs, vs = [.ref a] ∧ SqT K H1 a xs ∧ R (IteT K a) H1
theorem pi_enumT {X : Cx} {e : Expr} {ta : TA} {p pos tpos : Pos} {elts : List Expr} {kk : Nat} (hg : Gl X "enumerate") (hm : X.mg "enumerate" = none) (ha : PA X [e] ta) (hs : starEach [e] X.env = [(false, eval e X.env)] := by rfl) :
    PI X (.Tuple elts kk tpos) (.Call (.Name "enumerate" p) [e] [] pos) (iEnumT X.K ta) := by
  refine ⟨fun pins s σ H R I h => Call_ (ld_blt I hg hm boot_enumerate (PyProof.Rows.callWith_type1 (thn (ha.run pos pins s σ H _ I h) fun us s1 ⟨vs, H1, I1, r1, q1⟩ => ?_) hs rfl))⟩
  obtain ⟨a, xs, ex, hq, q⟩ := q1
  subst ex
  cases r1 with
  | cons r rr =>
    cases rr
    cases r
    obtain ⟨its, rv, p', hz⟩ := I1.tuple hq
    have al : a < s1.heap.objs.size := by obtain ⟨o, ho, _⟩ := p'; exact Heap.lt_size ho
    refine enumT_call (begins_tuple a its.toArray) p' fun h' he hit hk => wpAny_pyIter_enum he ?_
    have I2 : Inv X pins σ H1 { s1 with heap := h' } := I1.kept (t' := s1.toks) hk
    refine ⟨s1.heap.objs.size + 1, [s1.heap.objs.size + 1, s1.heap.objs.size], _, _, H1, rfl, I2, turn_enumT a (s1.heap.objs.size + 1) s1.heap.objs.size, ⟨⟨.none, he⟩, ⟨_, hit, rfl, rfl⟩, Nat.succ_ne_self _, Nat.ne_of_lt al, Nat.ne_of_lt (Nat.lt_succ_of_lt al)⟩, fun b hb => ?_, q⟩
    have e' : b = s1.heap.objs.size + 1 ∨ b = s1.heap.objs.size := by simpa using hb
    have hle : s1.heap.objs.size ≤ b := e'.elim (fun z => by rw [z]; exact Nat.le_add_right _ _) fun z => by rw [z]; exact Nat.le_refl _
    exact I1.fpOk hle (I1.hok.fresh hle)
/-- a loop over enumerate(t) -/
theorem for_enumT {K : PySem.W.Frag} {a : Addr} {xs : List V} {g : TG} {tb : TS} {D : Ends} {σ : L2.St} {H : Hp} (Pv : Nat → L2.St → Hp → Prop) (h0 : Pv 0 σ H) (hq : ∀ i σ H, Pv i σ H → SqT K H a xs)
    (hs : ∀ (i : Nat) (x : V) (T : Addr) (σ : L2.St) (H : Hp), xs[i]? = some x → Pv i σ H → H T = none → g (.ref T) σ (upd H T (.tup [.int (i : Nat), x])) fun σ2 H2 => tb { D with nx := Pv (i + 1), ct := Pv (i + 1), bk := D.nx } σ2 H2) (hd : ∀ σ H, Pv xs.length σ H → D.nx σ H) :
    ∃ W : Nat → Nat → L2.St → Hp → Prop, (∃ m, W 0 m σ H) ∧ ∀ i m σ H, W i m σ H →
      ((IteT K a).stop i H ∧ D.nx σ H) ∨ ((IteT K a).go i H ∧ ∃ N : L2.St → Hp → Prop, (∀ σ' H', N σ' H' → ∃ m', m' < m ∧ W (i + 1) m' σ' H') ∧ ∀ v H', (IteT K a).yld i H v H' → g v σ H' fun σ2 H2 => tb { D with nx := N, ct := N, bk := D.nx } σ2 H2) := by
  refine ⟨fun i m σ H => m = xs.length - i ∧ i ≤ xs.length ∧ Pv i σ H, ⟨xs.length, rfl, Nat.zero_le _, h0⟩, ?_⟩
  rintro i m σ H ⟨rfl, hi, p⟩
  have qx := hq i σ H p
  by_cases hlt : i < xs.length
  · refine .inr ⟨⟨xs, _, qx, List.getElem?_eq_getElem hlt⟩, Pv (i + 1), fun σ' H' p' => ⟨xs.length - (i + 1), by omega, rfl, hlt, p'⟩, fun v H' y => ?_⟩
    obtain ⟨T, x', rfl, hT, rfl, f1⟩ := y
    exact hs i x' T σ H (f1 xs qx) p hT
  · obtain rfl : i = xs.length := by omega
    exact .inl ⟨⟨xs, qx, rfl⟩, hd σ H p⟩
end SI
set_option maxRecDepth 100000
set_option maxHeartbeats 4000000
/-! sum(t), t a tuple of ints -/
namespace SI
open PySem PySem.Spec PyProof.Rows L2
def rSumT (K : PySem.W.Frag) : List V → Hp → VK → Prop := fun vs H Q => ∃ (a : Addr) (ns : List Int), vs = [V.ref a] ∧ SqT K H a (ns.map V.int) ∧ Q (.int ns.sum) H
theorem cr_sumT {X : Cx} (hc : X.calm = true) : CallR X (.builtin "sum") (rSumT X.K) := by
  intro pins s σ H vs us Q I r h
  obtain ⟨a, ns, rfl, hs, q⟩ := h
  obtain ⟨its, rv, hl, _⟩ := I.tuple hs
  rw [Vals.ref1 r]
  have hi := rv.ints
  obtain ⟨xs, e⟩ := hi.allInts.items
  have hn : numsOf (intItems xs).toList = ns := by rw [← e]; exact hi.numsOf
  rw [nums_intItems] at hn
  have hl' : s.heap.IsTuple a (intItems xs) := e ▸ (show s.heap.IsTuple a its.toArray from hl)
  refine PySem.W.ktm_sumG (I.ok.hd hc) hl' fun h' tk t' hk => ?_
  rw [preSum_eq, List.take_of_length_le (by simp), hn]
  exact ⟨.int _, H, I.kept hk, ⟨_, rfl⟩, q⟩
end SI
namespace SI
open PySem L2
/-- a loop over enumerate(list) -/
theorem for_enumL {K : PySem.W.Frag} {a : Addr} {xs : List V} {g : TG} {tb : TS} {D : Ends} {σ : L2.St} {H : Hp} (Pv : Nat → L2.St → Hp → Prop) (h0 : Pv 0 σ H) (hq : ∀ i σ H, Pv i σ H → SqL K H a xs)
    (hs : ∀ (i : Nat) (x : V) (T : Addr) (σ : L2.St) (H : Hp), xs[i]? = some x → Pv i σ H → H T = none → g (.ref T) σ (upd H T (.tup [.int (i : Nat), x])) fun σ2 H2 => tb { D with nx := Pv (i + 1), ct := Pv (i + 1), bk := D.nx } σ2 H2) (hd : ∀ σ H, Pv xs.length σ H → D.nx σ H) :
    ∃ W : Nat → Nat → L2.St → Hp → Prop, (∃ m, W 0 m σ H) ∧ ∀ i m σ H, W i m σ H →
      ((Ite K a).stop i H ∧ D.nx σ H) ∨ ((Ite K a).go i H ∧ ∃ N : L2.St → Hp → Prop, (∀ σ' H', N σ' H' → ∃ m', m' < m ∧ W (i + 1) m' σ' H') ∧ ∀ v H', (Ite K a).yld i H v H' → g v σ H' fun σ2 H2 => tb { D with nx := N, ct := N, bk := D.nx } σ2 H2) := by
  refine ⟨fun i m σ H => m = xs.length - i ∧ i ≤ xs.length ∧ Pv i σ H, ⟨xs.length, rfl, Nat.zero_le _, h0⟩, ?_⟩
  rintro i m σ H ⟨rfl, hi, p⟩
  have qx := hq i σ H p
  by_cases hlt : i < xs.length
  · refine .inr ⟨⟨xs, _, qx, List.getElem?_eq_getElem hlt⟩, Pv (i + 1), fun σ' H' p' => ⟨xs.length - (i + 1), by omega, rfl, hlt, p'⟩, fun v H' y => ?_⟩
    obtain ⟨T, x', rfl, hT, rfl, f1⟩ := y
    exact hs i x' T σ H (f1 xs qx) p hT
  · exact .inl ⟨⟨xs, qx, by omega⟩, hd σ H (by rw [show xs.length = i by omega]; exact p)⟩
end SI
namespace SI
open PySem L2
/-- a comprehension over enumerate(t) -/
theorem lc_enumT {K : PySem.W.Frag} {a : Addr} {xs : List V} {g : TG} {tt : TT} {te : TE} {vs : List Nat} {σ : L2.St} {H1 : Hp} {D : Addr} {Qd : Hp → Prop} (Pv : Nat → Hp → Prop) (h0 : Pv 0 (upd H1 D (.lst []))) (hl : ∀ i H, Pv i H → SqT K H a xs)
    (hs : ∀ (i : Nat) (x : V) (T : Addr) (H : Hp), xs[i]? = some x → Pv i H → H T = none → g (.ref T) (wipe σ vs) (upd H T (.tup [.int (i : Nat), x])) fun σ2 H2 => wipe σ2 vs = wipe σ vs ∧ tt σ2 H2 fun b H3 =>
      if b = true then te σ2 H3 fun y H4 => ∃ acc, H4 D = some (.lst acc) ∧ acc.length < sizeLine ∧ Pv (i + 1) (upd H4 D (.lst (acc ++ [y]))) else Pv (i + 1) H3) (hd : ∀ H, Pv xs.length H → Qd H) :
    ∃ W : Nat → Nat → Hp → Prop, (∃ m, W 0 m (upd H1 D (.lst []))) ∧ ∀ i m H, W i m H →
      ((IteT K a).stop i H ∧ Qd H) ∨ ((IteT K a).go i H ∧ ∃ Nx : Hp → Prop, (∀ H', Nx H' → ∃ m', m' < m ∧ W (i + 1) m' H') ∧ ∀ x H', (IteT K a).yld i H x H' → g x (wipe σ vs) H' fun σ2 H2 => wipe σ2 vs = wipe σ vs ∧ tt σ2 H2 fun b H3 =>
        if b = true then te σ2 H3 fun y H4 => ∃ acc, H4 D = some (.lst acc) ∧ acc.length < sizeLine ∧ Nx (upd H4 D (.lst (acc ++ [y]))) else Nx H3) := by
  refine ⟨fun i m H => m = xs.length - i ∧ i ≤ xs.length ∧ Pv i H, ⟨xs.length, rfl, Nat.zero_le _, h0⟩, ?_⟩
  rintro i m H ⟨rfl, hi, p⟩
  have qx := hl i H p
  by_cases hlt : i < xs.length
  · refine .inr ⟨⟨xs, _, qx, List.getElem?_eq_getElem hlt⟩, Pv (i + 1), fun H' p' => ⟨xs.length - (i + 1), by omega, rfl, hlt, p'⟩, fun v H' y => ?_⟩
    obtain ⟨T, x', rfl, hT, rfl, f1⟩ := y
    exact hs i x' T H (f1 xs qx) p hT
  · obtain rfl : i = xs.length := by omega
    exact .inl ⟨⟨xs, qx, rfl⟩, hd H p⟩
end SI
set_option maxRecDepth 100000
set_option maxHeartbeats 4000000
/-! defs, methods, classes under their names; what they let out is wished for at the caller's slots -/
namespace SI
open PySem PySem.Spec PyProof.Rows L2
/-- a def that lets nothing out, as one that may -/
theorem ok0X {P : Program} {w : World} {K : PySem.W.Frag} {mg : Str → Option Value} {base : Heap} {k : Nat} {f : Addr} {fd : FuncData} {ps : List Str} {sp : Sp} (F : FnOk P w K mg base CX0 k f fd ps sp) : FnOk P w K mg base (L2.CX P w) k f fd ps sp :=
  ⟨F.len, fun A outer s H args us vs Q E hr e0 hb r h => codeAny_mono (F.run A outer s H args us vs Q E hr e0 hb r h) fun res s' z => match res, z with
    | .ok (.ret _), z => z
    | .ok .next, z => z
    | .ok .brk, z => z
    | .ok .cont, z => z
    | .error _, z => False.elim z⟩
structure Cl (P : Program) (w : World) (K : PySem.W.Frag) (mg : Str → Option Value) (base : Heap) (k : Nat) (x : Str) (sp : Sp) (dvs : List V) : Prop where
  ex : ∃ (f : Addr) (fd : FuncData) (ps : List Str) (ds : List Value), FnOk P w K mg base (L2.CX P w) k f fd ps sp ∧ mg x = some (.ref f) ∧ PySem.W.keepIn K (.ref f) = true ∧ Binds K fd ps ds ∧ Vals dvs ds
structure Mt (P : Program) (w : World) (K : PySem.W.Frag) (mg : Str → Option Value) (base : Heap) (k : Nat) (C : Addr) (m : Str) (sp : Sp) (dvs : List V) : Prop where
  ex : ∃ (f : Addr) (fd : FuncData) (ps : List Str) (ds : List Value), Cls K C ∧ Meth K C m f ∧ FnOk P w K mg base (L2.CX P w) k f fd ps sp ∧ Binds K fd ps ds ∧ Vals dvs ds
structure Mkr (P : Program) (w : World) (K : PySem.W.Frag) (mg : Str → Option Value) (base : Heap) (k : Nat) (x : Str) (C : Addr) (sp : Sp) (dvs : List V) : Prop where
  ex : ∃ (f : Addr) (fd : FuncData) (ps : List Str) (ds : List Value), Mk K C f ∧ FnOk P w K mg base (L2.CX P w) k f fd ps sp ∧ mg x = some (.ref C) ∧ Binds K fd ps ds ∧ Vals dvs ds
def tMethS (C : Addr) (m : Str) (sp : Sp) (dvs : List V) (E : L2.St → XK) (ta : TE) (t : TA) : TE := fun σ H Q => ta σ H fun x H1 => ∃ a dx fs, x = .ref a ∧ H1 a = some (.ins C dx fs) ∧ fs.lookup m = none ∧
  t σ H1 fun vs H2 => sp (x :: (vs ++ dvs)) H2 Q (E σ)
def tMakeS (C : Addr) (sp : Sp) (dvs : List V) (E : L2.St → XK) (t : TA) : TE := fun σ H Q => t σ H fun vs H1 => ∀ x dx, H1 x = none → H1 dx = none → dx ≠ x →
  sp (.ref x :: (vs ++ dvs)) (upd (upd H1 dx (.own x)) x (.ins C dx [])) (fun v H2 => v = .non ∧ Q (.ref x) H2) (E σ)
section
variable {X : Cx} {k j : Nat} {f C : Addr} {x m : Str} {sp : Sp} {dvs : List V} {p pos apos : Pos} {e o : Expr} {es : List Expr} {ta : TE} {t : TA} {W : WX}
/-! nothing comes out here -/
theorem pe_c (c : Cl X.prog X.w X.K X.mg X.base k x sp dvs) (hr : Room j X.A) (hk : k ≤ j) (hg : Gl X x) (ha : PA X (e :: es) t)
    (hdb : (x == ("__debug__" : Str)) = false := by decide) (he : starEach (e :: es) X.env = (false, eval e X.env) :: starEach es X.env := by rfl) (hpl : (backTo pos (starEach es X.env)).any (·.1) = false := by rfl) :
    PE X (.Call (.Name x p) (e :: es) [] pos) (tCall sp dvs E0 t) := by
  obtain ⟨f, fd, ps, ds, F, hm, kp, b, d⟩ := c.ex
  exact pe_call F (hr.mono hk) hg hm kp b d passL ha hdb he hpl
theorem pe_c0 (c : Cl X.prog X.w X.K X.mg X.base k x sp dvs) (hr : Room j X.A) (hk : k ≤ j) (hg : Gl X x) (hdb : (x == ("__debug__" : Str)) = false := by decide) : PE X (.Call (.Name x p) [] [] pos) (tCall sp dvs E0 tNil) := by
  obtain ⟨f, fd, ps, ds, F, hm, kp, b, d⟩ := c.ex
  exact pe_call0 F (hr.mono hk) hg hm kp b d passL hdb
theorem pe_mk (c : Mkr X.prog X.w X.K X.mg X.base k x C sp dvs) (hr : Room j X.A) (hk : k + 1 ≤ j) (hg : Gl X x) (ha : PA X (e :: es) t)
    (hdb : (x == ("__debug__" : Str)) = false := by decide) (he : starEach (e :: es) X.env = (false, eval e X.env) :: starEach es X.env := by rfl) (hpl : (backTo pos (starEach es X.env)).any (·.1) = false := by rfl) :
    PE X (.Call (.Name x p) (e :: es) [] pos) (tMake C sp dvs E0 t) := by
  obtain ⟨f, fd, ps, ds, M, F, hm, b, d⟩ := c.ex
  exact pe_make M F (hr.mono hk) hg hm b d passL ha hdb he hpl
theorem pe_mt {pl : Sem Bool} (c : Mt X.prog X.w X.K X.mg X.base k C m sp dvs) (hr : Room j X.A) (hk : k ≤ j) (he : PE X o ta) (ha : PA X (e :: es) t)
    (hst : starEach (e :: es) X.env = (false, eval e X.env) :: starEach es X.env := by rfl) (hpl : (backTo pos (starEach es X.env)).any (·.1) = false := by rfl)
    (ht : eval (.Call (.Attribute o m apos) (e :: es) [] pos) X.env = (do
      let ov ← eval o X.env
      standAt apos.atName
      let (f, first) ← holding [ov] (getMethod ov m pl)
      callWith pos f first (backTo pos (starEach (e :: es) X.env)) (backToKw pos (keywordEach [] X.env))) := by rfl) :
    PE X (.Call (.Attribute o m apos) (e :: es) [] pos) (tMeth C m sp dvs E0 ta t) := by
  obtain ⟨f, fd, ps, ds, hc, hm, F, b, d⟩ := c.ex
  exact pe_meth (pl := pl) he hc hm F (hr.mono hk) b d passL ha hst hpl ht
theorem pe_mt0 {pl : Sem Bool} (c : Mt X.prog X.w X.K X.mg X.base k C m sp dvs) (hr : Room j X.A) (hk : k ≤ j) (he : PE X o ta)
    (ht : eval (.Call (.Attribute o m apos) [] [] pos) X.env = (do
      let ov ← eval o X.env
      standAt apos.atName
      let (f, first) ← holding [ov] (getMethod ov m pl)
      callWith pos f first (backTo pos (starEach [] X.env)) (backToKw pos (keywordEach [] X.env))) := by rfl) :
    PE X (.Call (.Attribute o m apos) [] [] pos) (tMeth C m sp dvs E0 ta tNil) := by
  obtain ⟨f, fd, ps, ds, hc, hm, F, b, d⟩ := c.ex
  exact pe_meth0 (pl := pl) he hc hm F (hr.mono hk) b d passL ht
/-- int(i), i an int -/
theorem call_intI : CallR X (.type "int") (fun xs H Q => ∃ i, xs = [.int i] ∧ Q (.int i) H) := fun pins s σ H xs us Q I r h => call_int1 pins s σ H xs us Q I r (.inl h)
/-! errors come out: W is wished -/
theorem pe_cX (tk : Takes X W) (c : Cl X.prog X.w X.K X.mg X.base k x sp dvs) (hr : Room j X.A) (hk : k ≤ j) (hg : Gl X x) (ha : PA X (e :: es) t)
    (hdb : (x == ("__debug__" : Str)) = false := by decide) (he : starEach (e :: es) X.env = (false, eval e X.env) :: starEach es X.env := by rfl) (hpl : (backTo pos (starEach es X.env)).any (·.1) = false := by rfl) :
    PE X (.Call (.Name x p) (e :: es) [] pos) (tCallSD sp dvs (WE W) t) := by
  obtain ⟨f, fd, ps, ds, F, hm, kp, b, d⟩ := c.ex
  exact pe_callSD F (hr.mono hk) hg hm kp b d (fun σ => passAt tk σ) ha hdb he hpl
theorem run_mkS {pins : List (Addr × Obj)} {σ : L2.St} {H : Hp} {s : Shared} {Q : VK} {us : List Value} {vs : List V} {fd : FuncData} {ps : List Str} {ds : List Value} {E : XK} (M : Mk X.K C f) (F : FnOk X.prog X.w X.K X.mg X.base (L2.CX X.prog X.w) k f fd ps sp) (hr : Room (k + 1) X.A) (hb : Binds X.K fd ps ds) (hd : Vals dvs ds)
    (hx : PassesAt (L2.CX X.prog X.w) X σ E) (I : Inv X pins σ H s) (r : Vals vs us)
    (h : ∀ x dx, H x = none → H dx = none → dx ≠ x → sp (.ref x :: (vs ++ dvs)) (upd (upd H dx (.own x)) x (.ins C dx [])) (fun v H2 => v = .non ∧ Q (.ref x) H2) E) :
    wpAny (model X.prog X.w) X.A (call (.ref C) us) (EP X pins σ Q) X.xe s := by
  have hq := h (s.heap.objs.size + 1) s.heap.objs.size (I.hok.fresh (Nat.le_succ _)) (I.hok.fresh (Nat.le_refl _)) (Nat.ne_of_lt (Nat.lt_succ_self _))
  have I2 := Inv.made (C := C) I
  have r2 : Vals (V.ref (s.heap.objs.size + 1) :: (vs ++ dvs)) (Value.ref (s.heap.objs.size + 1) :: (us ++ ds)) := .cons rfl (r.append hd)
  have hl : (Value.ref (s.heap.objs.size + 1) :: us ++ ds).length = ps.length := (r2.length.symm.trans (F.len _ _ _ _ hq) : _)
  refine wpAny_call (make_map (f := f) I.kIn M.makes M.init (beq_iff_eq.mp M.fn) (codeAny_mono (F.run _ X.stack _ _ ⟨Value.ref (s.heap.objs.size + 1) :: us, []⟩ (Value.ref (s.heap.objs.size + 1) :: (us ++ ds)) _ _ E (hr.make C us [])
    (I2.env0.make C us []) (hb _ (Value.ref (s.heap.objs.size + 1) :: us) I2.kIn hl) r2 hq) fun r s' hq' => ?_))
  match r, hq' with
  | .error e, hq' => exact hx pins _ _ e s' I2 hq'
  | .ok (.ret u), hq' =>
    obtain ⟨v, H', I3, rv, ev, q3⟩ := I2.after hq'
    subst ev
    exact ⟨rv, ⟨V.ref (s.heap.objs.size + 1), H', I3, rfl, q3⟩⟩
  | .ok .next, hq' => exact False.elim hq'
  | .ok .brk, hq' => exact False.elim hq'
  | .ok .cont, hq' => exact False.elim hq'
theorem pe_mkX (tk : Takes X W) (c : Mkr X.prog X.w X.K X.mg X.base k x C sp dvs) (hr : Room j X.A) (hk : k + 1 ≤ j) (hg : Gl X x) (ha : PA X (e :: es) t)
    (hdb : (x == ("__debug__" : Str)) = false := by decide) (he : starEach (e :: es) X.env = (false, eval e X.env) :: starEach es X.env := by rfl) (hpl : (backTo pos (starEach es X.env)).any (·.1) = false := by rfl) :
    PE X (.Call (.Name x p) (e :: es) [] pos) (tMakeS C sp dvs (WE W) t) := by
  obtain ⟨f, fd, ps, ds, M, F, hm, b, d⟩ := c.ex
  exact ⟨fun pins s σ H Q I h => wpAny_Call_Name_kw (ld_glob I hg hm (PySem.W.callWith_K (h₀ := X.base) I.ok.mod.kin M.kp (thn (ha.run pos pins s σ H _ I h) fun us s1 ⟨vs, H1, I1, r, q⟩ => ⟨I1.kIn, run_mkS M F (hr.mono hk) b d (passAt tk σ) I1 r q⟩) he hpl) hdb)⟩
theorem pe_mtX {pl : Sem Bool} (tk : Takes X W) (c : Mt X.prog X.w X.K X.mg X.base k C m sp dvs) (hr : Room j X.A) (hk : k ≤ j) (he : PE X o ta) (ha : PA X (e :: es) t)
    (hst : starEach (e :: es) X.env = (false, eval e X.env) :: starEach es X.env := by rfl) (hpl : (backTo pos (starEach es X.env)).any (·.1) = false := by rfl)
    (ht : eval (.Call (.Attribute o m apos) (e :: es) [] pos) X.env = (do
      let ov ← eval o X.env
      standAt apos.atName
      let (f, first) ← holding [ov] (getMethod ov m pl)
      callWith pos f first (backTo pos (starEach (e :: es) X.env)) (backToKw pos (keywordEach [] X.env))) := by rfl) :
    PE X (.Call (.Attribute o m apos) (e :: es) [] pos) (tMethS C m sp dvs (WE W) ta t) := by
  obtain ⟨f, fd, ps, ds, hc, hm, F, b, d⟩ := c.ex
  refine ⟨fun pins s σ H Q I h => PySem.W.methodCall_KW (pl := pl) (thn (he.run pins s σ H _ I h) fun u s1 ⟨x, H1, I1, rx, a, dx, fs, ex, ea, l, q⟩ => ?_) ht⟩
  subst ex
  obtain rfl : u = Value.ref a := rx
  exact getmeth_ok I1 ea hc hm l (PySem.W.callWith_K (first := [.ref a]) (h₀ := X.base) I.ok.mod.kin hm.kp (thn (ha.run pos pins s1 σ H1 _ I1 q) fun us s2 ⟨vs, H2, I2, r, q2⟩ => ⟨I2.kIn, run_fnSD (us := .ref a :: us) (vs := .ref a :: vs) F (hr.mono hk) b d (passAt tk σ) I2 (.cons rfl r) q2⟩) hst hpl)
end
end SI
set_option maxRecDepth 100000
set_option maxHeartbeats 4000000
/-! what the top has written, a thing at a time -/
namespace SI
open PySem PySem.Spec PyProof.Rows L2 NdefX
section
variable {P : Program} {w : World} {K : PySem.W.Frag} {mg : Str → Option Value} {base : Heap}
structure DefAt (K : PySem.W.Frag) (mg : Str → Option Value) (x : Str) (st : Stmt) (ps : List Str) : Prop where
  ex : ∃ (f : Addr) (fd : FuncData), Fun K x x st f fd ∧ mg x = some (.ref f) ∧ Binds K fd ps []
structure MetAt (K : PySem.W.Frag) (C : Addr) (m qual : Str) (st : Stmt) (ps : List Str) : Prop where
  ex : ∃ (f : Addr) (fd : FuncData), Cls K C ∧ Meth K C m f ∧ Fun K m qual st f fd ∧ Binds K fd ps []
structure MakAt (K : PySem.W.Frag) (mg : Str → Option Value) (x : Str) (C : Addr) (qual : Str) (st : Stmt) (ps : List Str) : Prop where
  ex : ∃ (f : Addr) (fd : FuncData), Mk K C f ∧ Fun K "__init__" qual st f fd ∧ mg x = some (.ref C) ∧ Binds K fd ps []
theorem cl_of {x : Str} {st : Stmt} {N ps : List Str} {k : Nat} {sp : Sp} (D : DefAt K mg x st ps) (S : FnScope N ps (defScope st)) (len : ∀ vs H Q E, sp vs H Q E → vs.length = ps.length)
    (hbody : ∀ (f : Addr) (cdv : Value) (A : Around) (outer : List Env) (s : Shared) (H : Hp) (vs : List V) (Q : VK) (E : XK), Room k (A.deeper (envOfC x (defScope st) s.heap.objs.size f cdv)) → sp vs H Q E →
      ∃ t, PSs (cxOf (L2.CX P w) P w K mg base N x (defScope st) f cdv A outer s H E) (defBody st) t ∧ t { nx := fun _ H' => Q .non H', rt := Q } (L2.start N vs) H) : Cl P w K mg base (k + 1) x sp [] := by
  obtain ⟨f, fd, F, hm, b⟩ := D.ex
  exact ⟨f, fd, ps, [], F.okX S len (hbody f), hm, F.kp, b, .nil⟩
theorem mt_of {m qual : Str} {C : Addr} {st : Stmt} {N ps : List Str} {k : Nat} {sp : Sp} (D : MetAt K C m qual st ps) (S : FnScope N ps (defScope st)) (len : ∀ vs H Q E, sp vs H Q E → vs.length = ps.length)
    (hbody : ∀ (f : Addr) (cdv : Value) (A : Around) (outer : List Env) (s : Shared) (H : Hp) (vs : List V) (Q : VK) (E : XK), Room k (A.deeper (envOfC qual (defScope st) s.heap.objs.size f cdv)) → sp vs H Q E →
      ∃ t, PSs (cxOf (L2.CX P w) P w K mg base N qual (defScope st) f cdv A outer s H E) (defBody st) t ∧ t { nx := fun _ H' => Q .non H', rt := Q } (L2.start N vs) H) : Mt P w K mg base (k + 1) C m sp [] := by
  obtain ⟨f, fd, c, me, F, b⟩ := D.ex
  exact ⟨f, fd, ps, [], c, me, F.okX S len (hbody f), b, .nil⟩
theorem mkr_of {x qual : Str} {C : Addr} {st : Stmt} {N ps : List Str} {k : Nat} {sp : Sp} (D : MakAt K mg x C qual st ps) (S : FnScope N ps (defScope st)) (len : ∀ vs H Q E, sp vs H Q E → vs.length = ps.length)
    (hbody : ∀ (f : Addr) (cdv : Value) (A : Around) (outer : List Env) (s : Shared) (H : Hp) (vs : List V) (Q : VK) (E : XK), Room k (A.deeper (envOfC qual (defScope st) s.heap.objs.size f cdv)) → sp vs H Q E →
      ∃ t, PSs (cxOf (L2.CX P w) P w K mg base N qual (defScope st) f cdv A outer s H E) (defBody st) t ∧ t { nx := fun _ H' => Q .non H', rt := Q } (L2.start N vs) H) : Mkr P w K mg base (k + 1) x C sp [] := by
  obtain ⟨f, fd, M, F, hm, b⟩ := D.ex
  exact ⟨f, fd, ps, [], M, F.okX S len (hbody f), hm, b, .nil⟩
/-- a def that is called by keywords, too -/
structure Cd (P : Program) (w : World) (K : PySem.W.Frag) (mg : Str → Option Value) (base : Heap) (k : Nat) (x : Str) (st : Stmt) (ps : List Str) (sp : Sp) : Prop where
  ex : ∃ (f : Addr) (fd : FuncData), FnOk P w K mg base (L2.CX P w) k f fd ps sp ∧ Fun K x x st f fd ∧ mg x = some (.ref f) ∧ Binds K fd ps []
theorem Cd.cl {k : Nat} {x : Str} {st : Stmt} {ps : List Str} {sp : Sp} (c : Cd P w K mg base k x st ps sp) : Cl P w K mg base k x sp [] := by
  obtain ⟨f, fd, F, Fn, hm, b⟩ := c.ex
  exact ⟨f, fd, ps, [], F, hm, Fn.kp, b, .nil⟩
theorem cd_of {x : Str} {st : Stmt} {N ps : List Str} {k : Nat} {sp : Sp} (D : DefAt K mg x st ps) (S : FnScope N ps (defScope st)) (len : ∀ vs H Q E, sp vs H Q E → vs.length = ps.length)
    (hbody : ∀ (f : Addr) (cdv : Value) (A : Around) (outer : List Env) (s : Shared) (H : Hp) (vs : List V) (Q : VK) (E : XK), Room k (A.deeper (envOfC x (defScope st) s.heap.objs.size f cdv)) → sp vs H Q E →
      ∃ t, PSs (cxOf (L2.CX P w) P w K mg base N x (defScope st) f cdv A outer s H E) (defBody st) t ∧ t { nx := fun _ H' => Q .non H', rt := Q } (L2.start N vs) H) : Cd P w K mg base (k + 1) x st ps sp := by
  obtain ⟨f, fd, F, hm, b⟩ := D.ex
  exact ⟨f, fd, F.okX S len (hbody f), F, hm, b⟩
/-- f(k = v, ..): ks the keywords in the call's order, gV puts their values in the parameters' order -/
def tK0 (m : Nat) (sp : Sp) (gV : List V → List V) (tk : TA) : TE := fun σ H Q => tk σ H fun zs H1 => zs.length = m ∧ sp (gV zs) H1 Q E0
theorem pe_cK0 {X : Cx} {k j : Nat} {x : Str} {st : Stmt} {ps ks : List Str} {sp : Sp} {p pos : Pos} {kws : List Keyword} {tk : TA} {g : {α : Type} → List α → List α} (c : Cd X.prog X.w X.K X.mg X.base k x st ps sp) (hr : Room j X.A) (hk : k ≤ j) (hg : Gl X x) (hkw : PK X kws tk)
    (hb : ∀ (kV doc pm : Value) (an : Option Addr) (cdv ct : Value) (ws : List Value), ws.length = ks.length → bindArgs (PySem.W.fnOf x x (defArgs st) (defBody st) (defScope st) .none kV doc pm an cdv ct) ⟨[], ks.zip ws⟩ = pure (ps.zip (g ws)))
    (hrel : ∀ {zs : List V} {ws : List Value}, Vals zs ws → Vals (g zs) (g ws))
    (hall : (backToKw pos (keywordEach kws X.env)).all (·.1.isSome) = true := by rfl) (hks : (backToKw pos (keywordEach kws X.env)).filterMap (·.1) = ks := by rfl)
    (hdb : (x == ("__debug__" : Str)) = false := by decide) (hpl : ((backTo pos (starEach [] X.env)).any (·.1) || (backToKw pos (keywordEach kws X.env)).any (·.1.isNone)) = false := by rfl) :
    PE X (.Call (.Name x p) [] kws pos) (tK0 ks.length sp g tk) := by
  obtain ⟨f, fd, F, Fn, hm, _⟩ := c.ex
  refine ⟨fun pins s σ H Q I h => wpAny_Call_Name_kw (ld_glob I hg hm ?_ hdb)⟩
  refine PySem.W.callWith_KW0 (h₀ := X.base) I.ok.mod.kin Fn.kp hall (thn (hkw.run pos pins s σ H _ I h) fun ws s2 ⟨zs, H2, I2, rz, l2, q2⟩ => ⟨I2.kIn, ?_⟩) hpl
  rw [hks]
  obtain ⟨oc, od, kV, doc, pm, an, cdv, ct, osl, rfl, lk, hcd⟩ := Fn.ex
  have b : KBn X.K (PySem.W.fnOf x x (defArgs st) (defBody st) (defScope st) .none kV doc pm an cdv ct) ps 0 ks (fun _ ws => g ws) (fun _ zs => g zs) :=
    ⟨fun s us ws _ l1 l2 => by
      have e : us = [] := List.eq_nil_of_length_eq_zero l1
      subst e
      exact BindsTo.of_eq (hb kV doc pm an cdv ct ws l2), fun _ r => hrel r⟩
  exact run_fnN (F.mono hk) hr b passL I2 .nil rz rfl l2 q2
/-- a def within an except suite -/
structure ClW (P : Program) (w : World) (K : PySem.W.Frag) (mg : Str → Option Value) (base : Heap) (k : Nat) (x : Str) (sp : Addr × Obj → Sp) : Prop where
  ex : ∃ (f : Addr) (fd : FuncData) (ps : List Str), FnW P w K mg base CX0 k f fd ps sp ∧ mg x = some (.ref f) ∧ PySem.W.keepIn K (.ref f) = true ∧ Binds K fd ps []
theorem clW_of {x : Str} {st : Stmt} {N ps : List Str} {k : Nat} {sp : Addr × Obj → Sp} (D : DefAt K mg x st ps) (S : FnScope N ps (defScope st)) (len : ∀ p vs H Q E, sp p vs H Q E → vs.length = ps.length)
    (hbody : ∀ (f : Addr) (cdv : Value) (A : Around) (outer : List Env) (s : Shared) (H : Hp) (vs : List V) (Q : VK) (E : XK) (p : Addr × Obj), L2H.RoomH k (A.deeper (envOfC x (defScope st) s.heap.objs.size f cdv)) → sp p vs H Q E →
      ∃ t, PSs (L2H.cxH CX0 P w K mg base N x (defScope st) f cdv A outer s H E p).nox (defBody st) t ∧ t { nx := fun _ H' => Q .non H', rt := Q } (L2.start N vs) H) : ClW P w K mg base (k + 1) x sp := by
  obtain ⟨f, fd, F, hm, b⟩ := D.ex
  exact ⟨f, fd, ps, Fun_okW F S len (hbody f), hm, F.kp, b⟩
theorem room_mark {k : Nat} {A : Around} (r : Room k A) (v : Option Value) : L2H.RoomH k (A.mark v) := ⟨r.dp, r.un⟩
theorem pe_cW {X : Cx} {k j : Nat} {x : Str} {sp : Addr × Obj → Sp} {q pos : Pos} {e : Expr} {es : List Expr} {t : TA} {p : Addr × Obj} (c : ClW X.prog X.w X.K X.mg X.base k x sp) (hr : L2H.RoomH j X.A) (hk : k ≤ j) (hp : p ∈ X.pn) (hg : Gl X x) (ha : PA X (e :: es) t)
    (hdb : (x == ("__debug__" : Str)) = false := by decide) (he : starEach (e :: es) X.env = (false, eval e X.env) :: starEach es X.env := by rfl) (hpl : (backTo pos (starEach es X.env)).any (·.1) = false := by rfl) :
    PE X (.Call (.Name x q) (e :: es) [] pos) (tCallS (sp p) (fun _ => E0) t) := by
  obtain ⟨f, fd, ps, F, hm, kp, b⟩ := c.ex
  exact pe_callW F (hr.mono hk) hp hg hm kp b (fun _ => passA0) ha hdb he hpl
abbrev cxd (P : Program) (w : World) (K : PySem.W.Frag) (mg : Str → Option Value) (base : Heap) (N : List Str) (x : Str) (st : Stmt) (f : Addr) (cdv : Value) (A : Around) (outer : List Env) (s : Shared) (H : Hp) (E : XK) : Cx := cxOf (L2.CX P w) P w K mg base N x (defScope st) f cdv A outer s H E
/-! in a suite -/
theorem call_isS {X : Cx} {a : Addr} {oe : Obj} {cls : Value} {d : Option Addr} {pn : List (Addr × Obj)} (EK : ErrK X.K) (hz : Zc cls d oe) (hf : ∃ vs, oe.data = .fields vs) : CallR (X.suite a ((a, oe) :: pn)) (.builtin "isinstance") (rIsX X.K a cls d) :=
  call_isX (X := X.suite a ((a, oe) :: pn)) EK List.mem_cons_self hz hf
theorem pe_errS {X : Cx} {a : Addr} {oe : Obj} {cls : Value} {d : Option Addr} {pn : List (Addr × Obj)} {e : Expr} {te : TE} {pos : Pos} {n : Str} (hz : Zc cls d oe) (hf : ∃ vs, oe.data = .fields vs) (he : PE (X.suite a ((a, oe) :: pn)) e te)
    (hb : attributeBase e n (X.suite a ((a, oe) :: pn)).env (eval e (X.suite a ((a, oe) :: pn)).env) = eval e (X.suite a ((a, oe) :: pn)).env := by rfl) : PE (X.suite a ((a, oe) :: pn)) (.Attribute e n pos) (tErrF X.K a cls d n te) :=
  pe_errF (X := X.suite a ((a, oe) :: pn)) List.mem_cons_self hz hf he hb
theorem pe_cWS {X : Cx} {a : Addr} {oe : Obj} {pn : List (Addr × Obj)} {k j : Nat} {x : Str} {sp : Addr × Obj → Sp} {q pos : Pos} {e : Expr} {es : List Expr} {t : TA} (c : ClW X.prog X.w X.K X.mg X.base k x sp) (hr : Room j X.A) (hk : k ≤ j) (hg : Gl X x) (ha : PA (X.suite a ((a, oe) :: pn)) (e :: es) t)
    (hdb : (x == ("__debug__" : Str)) = false := by decide) (he : starEach (e :: es) X.env = (false, eval e X.env) :: starEach es X.env := by rfl) (hpl : (backTo pos (starEach es X.env)).any (·.1) = false := by rfl) :
    PE (X.suite a ((a, oe) :: pn)) (.Call (.Name x q) (e :: es) [] pos) (tCallS (sp (a, oe)) (fun _ => E0) t) :=
  pe_cW (X := X.suite a ((a, oe) :: pn)) c (room_mark hr _) hk List.mem_cons_self hg ha hdb he hpl
/-! constants -/
theorem pe_const {X : Cx} {x : Str} {i : Int} {pos : Pos} (hg : Gl X x) (hm : ∃ t, X.mg x = some (.int i t)) (hd : (x == ("__debug__" : Str)) = false := by decide) : PE X (.Name x pos) (tC (.int i)) :=
  ⟨fun _ _ _ H _ I h => hm.elim fun t ht => ld_glob I hg ht ⟨.int i, H, I, ⟨t, rfl⟩, h⟩ hd⟩
/-! errors -/
structure Rs (P : Program) (w : World) (K : PySem.W.Frag) (mg : Str → Option Value) (base : Heap) (x : Str) (C : Addr) (mk : List V → List (Str × V) → Prop) : Prop where
  run : ∀ {X : Cx} {e : Expr} {es : List Expr} {ta : TA} {p pos : Pos}, X.prog = P → X.w = w → X.K = K → X.mg = mg → X.base = base → Room 2 X.A → Gl X x → PA X (e :: es) ta →
    starEach (e :: es) X.env = (false, eval e X.env) :: starEach es X.env → (backTo pos (starEach es X.env)).any (·.1) = false → PMk X (.Call (.Name x p) (e :: es) [] pos) (tErr C mk ta)
theorem pmk_rs {X : Cx} {j : Nat} {x : Str} {C : Addr} {mk : List V → List (Str × V) → Prop} {e : Expr} {es : List Expr} {ta : TA} {p pos : Pos} (c : Rs X.prog X.w X.K X.mg X.base x C mk) (hr : Room j X.A) (hk : 2 ≤ j) (hg : Gl X x) (ha : PA X (e :: es) ta)
    (he : starEach (e :: es) X.env = (false, eval e X.env) :: starEach es X.env := by rfl) (hpl : (backTo pos (starEach es X.env)).any (·.1) = false := by rfl) : PMk X (.Call (.Name x p) (e :: es) [] pos) (tErr C mk ta) :=
  c.run rfl rfl rfl rfl rfl (hr.mono hk) hg ha he hpl
theorem rs1 {x y f : Str} {C fI : Addr} {fd : FuncData} (T : OexC K C) (hm : mg x = some (.ref C)) (iC : PySem.W.findIn K (.ref C) "__init__" = some (some (.ref fI)))
    (tI : PySem.W.typeIn K (.ref fI) = some (.type "function")) (F : FnOk P w K mg base CX0 1 fI fd ["self", y] (spE1 C f)) (b : Binds K fd ["self", y] []) (hdb : (x == ("__debug__" : Str)) = false) : Rs P w K mg base x C (mk1 f) :=
  ⟨fun h1 h2 h3 h4 h5 hr hg ha he hpl => by subst h1 h2 h3 h4 h5; exact pmk_e1 T iC tI F hr b pass0 hg hm ha hdb he hpl⟩
theorem rs2 {x y z f g : Str} {C fI : Addr} {ok : V → Prop} {fd : FuncData} (T : OexC K C) (hm : mg x = some (.ref C)) (iC : PySem.W.findIn K (.ref C) "__init__" = some (some (.ref fI)))
    (tI : PySem.W.typeIn K (.ref fI) = some (.type "function")) (F : FnOk P w K mg base CX0 1 fI fd ["self", y, z] (spE2 C f g ok)) (b : Binds K fd ["self", y, z] []) (hdb : (x == ("__debug__" : Str)) = false) : Rs P w K mg base x C (mk2 f g ok) :=
  ⟨fun h1 h2 h3 h4 h5 hr hg ha he hpl => by subst h1 h2 h3 h4 h5; exact pmk_e2 T iC tI F hr b pass0 hg hm ha hdb he hpl⟩
end

/-! tests -/
section
variable {A B : Prop}
theorem ifT {c : Bool} (h : c = true) (a : A) : if c = true then A else B := by rw [if_pos h]; exact a
theorem ifF {c : Bool} (h : c = false) (b : B) : if c = true then A else B := by rw [h, if_neg Bool.false_ne_true]; exact b
theorem ifB {c : Bool} (h1 : c = true → A) (h2 : c = false → B) : if c = true then A else B := by
  cases c with
  | true => exact ifT rfl (h1 rfl)
  | false => exact ifF rfl (h2 rfl)
theorem ifD {p : Prop} [Decidable p] (h1 : p → A) (h2 : ¬ p → B) : if decide p = true then A else B := ifB (fun h => h1 (of_decide_eq_true h)) fun h => h2 (of_decide_eq_false h)
theorem ifN {p : Prop} [Decidable p] (h1 : ¬ p → A) (h2 : p → B) : if (!decide p) = true then A else B := ifB (fun h => h1 (by simpa using h)) fun h => h2 (by simpa using h)
theorem ifI {i j : Int} (h1 : i = j → A) (h2 : i ≠ j → B) : if decide (V.int i = V.int j) = true then A else B := ifD (fun h => h1 (V.int.inj h)) fun h => h2 fun e => h (by rw [e])
theorem ifIN {i j : Int} (h1 : i ≠ j → A) (h2 : i = j → B) : if (!decide (V.int i = V.int j)) = true then A else B := ifN (fun h => h1 fun e => h (by rw [e])) fun h => h2 (V.int.inj h)
end
theorem atI0 {x : V} {xs : List V} : atI (x :: xs) 0 = some x := at_of (j := 0) rfl rfl
theorem atI1 {x y : V} {xs : List V} : atI (x :: y :: xs) 1 = some y := at_of (j := 1) rfl rfl
theorem ixN_of {n j : Nat} {i : Int} (e : i = (j : Int)) (h : j < n) : ixN n i = some j := by
  unfold ixN
  rw [e, if_pos (Int.natCast_nonneg j), if_pos (by omega)]
  simp
theorem seqIx_of {n j : Nat} {i : Int} (e : i = (j : Int)) (h : j < n) : seqIndex? i n = some j := by
  rw [e, PySem.seqIndex_of (Int.natCast_nonneg j) (by omega)]
  simp
theorem len1 {x : V} {xs : List V} : 0 < (x :: xs).length := Nat.succ_pos _
theorem len2 {x y : V} {xs : List V} : 1 < (x :: y :: xs).length := Nat.succ_lt_succ (Nat.succ_pos _)

/-! heaps -/
theorem smN {H H' : Hp} {q : Addr} {o : HO} (s : Same H H') (h : H' q = none) : Same H (upd H' q o) := fun b u e => by rw [upd_ne (ne_of_none (s b u e) h)]; exact s b u e
theorem smM {H H' : Hp} {q : Addr} {o : HO} (s : Same H H') (h : H q = none) : Same H (upd H' q o) := fun b u e => by rw [upd_ne (ne_of_none e h)]; exact s b u e
theorem sm0 {H : Hp} {q : Addr} {o : HO} (h : H q = none) : Same H (upd H q o) := smN (Same.refl H) h
theorem smT {K : PySem.W.Frag} {H H' : Hp} {a : Addr} {xs : List V} (e : Same H H') (h : SqT K H a xs) : SqT K H' a xs := Evl.ex_t e h
/-- a value is read behind a new object -/
theorem atN {H : Hp} {q b : Addr} {o u : HO} (h : H b = some u) (n : H q = none) : upd H q o b = some u := by rw [upd_ne (ne_of_none h n)]; exact h
theorem ints_at {ns : List Int} {i : Nat} {x : V} (h : (ns.map V.int)[i]? = some x) : ∃ z, ns[i]? = some z ∧ x = V.int z := by
  rw [List.getElem?_map] at h
  cases e : ns[i]? with
  | none => rw [e] at h; cases h
  | some z => rw [e] at h; exact ⟨z, rfl, (Option.some.inj h).symm⟩
theorem at_ints {ns : List Int} {i : Nat} {z : Int} (h : ns[i]? = some z) : (ns.map V.int)[i]? = some (V.int z) := by rw [List.getElem?_map, h]; rfl
theorem sz_small {n : Nat} (h : n ≤ 100000) : n ≤ sizeLine := Nat.le_trans h (by decide)
theorem sz_lt {n : Nat} (h : n ≤ 100000) : n < sizeLine := Nat.lt_of_le_of_lt h (by decide)
theorem cut_map {α : Type} (F : α → V) (ns : List α) (lo hi : Option Int) : ∃ ms : List α, cutV (ns.map F) lo hi = ms.map F ∧ ms.length ≤ ns.length ∧ ms = (ns.drop (HT.sIx ns.length 0 lo)).take (HT.sIx ns.length ns.length hi - HT.sIx ns.length 0 lo) :=
  ⟨_, by unfold cutV; rw [List.length_map, List.map_take, List.map_drop], by rw [List.length_take, List.length_drop]; omega, rfl⟩
theorem pow10 {j : Int} (h0 : 0 ≤ j) (h1 : j ≤ 1000000) : CPow 10 j := ⟨h0, h1, by decide⟩
/-! attributes -/
theorem putF_new {f : Str} {v : V} : ∀ {fs : List (Str × V)}, fs.lookup f = none → putF f v fs = fs ++ [(f, v)]
  | [], _ => rfl
  | (g, y) :: fs, h => by
    have hne : ¬ g = f := fun e => by
      subst e
      simp [List.lookup] at h
    have h2 : fs.lookup f = none := by
      rw [lookup_put, if_neg (Ne.symm hne)] at h
      exact h
    show (if g = f then (g, v) :: fs else (g, y) :: putF f v fs) = _
    rw [if_neg hne, putF_new h2]
    rfl
theorem lk_hit {f : Str} {v : V} {fs : List (Str × V)} : ((f, v) :: fs).lookup f = some v := by rw [lookup_put, if_pos rfl]
theorem lk_next {f g : Str} {v : V} {fs : List (Str × V)} {o : Option V} (h : ¬ f = g) (k : fs.lookup f = o) : ((g, v) :: fs).lookup f = o := by rw [lookup_put, if_neg h]; exact k
theorem lk_nil {f : Str} : ([] : List (Str × V)).lookup f = none := rfl
end SI
set_option maxRecDepth 100000
set_option maxHeartbeats 4000000
/-! == of rows of ints; values by a measure of depth -/
namespace SI
open PySem PySem.Spec PyProof.Rows L2
theorem dpAll_map {α : Type} {K : PySem.W.Frag} {H : Hp} {F : α → V} {G : α → PyData} : ∀ {l : List α}, (∀ x ∈ l, Dp K H (F x) (G x)) → DpAll K H (l.map F) (l.map G)
  | [], _ => .nil
  | x :: l, h => .cons (h x List.mem_cons_self) (dpAll_map fun y hy => h y (List.mem_cons_of_mem _ hy))
theorem dpL {K : PySem.W.Frag} {H : Hp} {a : Addr} {ns : List Int} (h : SqL K H a (ns.map V.int)) : Dp K H (.ref a) (.list (ns.map PyData.int)) := .lst h (dpAll_map fun x _ => .int x)
theorem dpT {K : PySem.W.Frag} {H : Hp} {a : Addr} {ns : List Int} (h : SqT K H a (ns.map V.int)) : Dp K H (.ref a) (.tuple (ns.map PyData.int)) := .tup h (dpAll_map fun x _ => .int x)
theorem lay_ints : ∀ ns : List Int, PyData.canLayAll0 (ns.map PyData.int) = true ∧ PyData.depthAll (ns.map PyData.int) = 0
  | [] => ⟨rfl, rfl⟩
  | n :: ns => by
    obtain ⟨h1, h2⟩ := lay_ints ns
    refine ⟨?_, ?_⟩
    · show (PyData.canLay0 (.int n) && PyData.canLayAll0 (ns.map PyData.int)) = true
      rw [h1]
      rfl
    · show max (PyData.depth (.int n)) (PyData.depthAll (ns.map PyData.int)) = 0
      rw [h2]
      rfl
theorem shL (ns : List Int) : SeqAt.shaped (.list (ns.map PyData.int)) = true := by
  obtain ⟨h1, h2⟩ := lay_ints ns
  show (PyData.canLayAll0 (ns.map PyData.int) && decide (PyData.depthAll (ns.map PyData.int) + 1 ≤ 64)) = true
  rw [h1, h2]
  rfl
theorem shT (ns : List Int) : SeqAt.shaped (.tuple (ns.map PyData.int)) = true := by
  obtain ⟨h1, h2⟩ := lay_ints ns
  show (PyData.canLayAll0 (ns.map PyData.int) && decide (PyData.depthAll (ns.map PyData.int) + 1 ≤ 64)) = true
  rw [h1, h2]
  rfl
theorem eqv_all : ∀ xs ys : List Int, PyData.eqvAll (xs.map PyData.int) (ys.map PyData.int) = decide (xs = ys)
  | [], [] => rfl
  | [], _ :: _ => rfl
  | _ :: _, [] => rfl
  | x :: xs, y :: ys => by
    show ((x == y) && PyData.eqvAll (xs.map PyData.int) (ys.map PyData.int)) = _
    rw [eqv_all xs ys]
    by_cases h : x = y
    · subst h
      by_cases h2 : xs = ys
      · subst h2; simp
      · simp [h2]
    · simp [h]
theorem eqvL (xs ys : List Int) : PyData.eqv (.list (xs.map PyData.int)) (.list (ys.map PyData.int)) = decide (xs = ys) := eqv_all xs ys
theorem eqvT (xs ys : List Int) : PyData.eqv (.tuple (xs.map PyData.int)) (.tuple (ys.map PyData.int)) = decide (xs = ys) := eqv_all xs ys
/-- == of data in an except suite -/
theorem op_eqDS {X : Cx} {a : Addr} {oe : Obj} {pn : List (Addr × Obj)} (hu : X.A.units + 64 < cLine) : OpR (X.suite a ((a, oe) :: pn)) (compareOp .Eq) (rEqD X.K) := op_eqD (X := X.suite a ((a, oe) :: pn)) hu
theorem op_neDS {X : Cx} {a : Addr} {oe : Obj} {pn : List (Addr × Obj)} (hu : X.A.units + 64 < cLine) : OpR (X.suite a ((a, oe) :: pn)) (compareOp .NotEq) (rNeD X.K) := op_neD (X := X.suite a ((a, oe) :: pn)) hu
/-! builtins in a try body: X the def's own context -/
theorem call_list_ofT {X : Cx} {pn : List (Addr × Obj)} {xe : Value → Shared → Prop} : CallR (X.tr pn xe) (.type "list") (fun xs H Q => ∃ (p : Addr) (ys : List V), xs = [V.ref p] ∧ (SqL X.K H p ys ∨ SqT X.K H p ys) ∧ ∀ (l : Addr), H l = none → Q (V.ref l) (upd H l (HO.lst ys))) := call_list_of (X := X.tr pn xe)
/-! in a comprehension's block: X the def's own context -/
section
variable {X : Cx} {s : Shared} {H : Hp} {sc : Scope} {ce : Env} {fp : List Addr}
theorem ix_listB : IxR (X.blk s H sc ce fp) (rIxL X.K) := ix_list (X := X.blk s H sc ce fp)
theorem ix_tupB : IxR (X.blk s H sc ce fp) (rIxT X.K) := ix_tup (X := X.blk s H sc ce fp)
end
end SI
set_option maxRecDepth 100000
set_option maxHeartbeats 4000000
/-! rules in a comprehension's block (B), in an except suite (S), in a try body (T): their readings name the def's own written part -/
namespace SI
open PySem PySem.Spec PyProof.Rows L2
section
variable {X : Cx} {s : Shared} {H : Hp} {sc : Scope} {ce : Env} {fp : List Addr}
theorem sl_listB : SlR (X.blk s H sc ce fp) (rSlL X.K) := sl_list (X := (X.blk s H sc ce fp))
theorem sl_tupAB : SlR (X.blk s H sc ce fp) (rSlA X.K) := sl_tupA (X := (X.blk s H sc ce fp))
theorem call_isiB : CallR (X.blk s H sc ce fp) (.builtin "isinstance") (rIsi X.K) := call_isi (X := (X.blk s H sc ce fp))
theorem op_catTB : OpR (X.blk s H sc ce fp) (binaryOp .Add) (rCatT X.K) := op_catT (X := (X.blk s H sc ce fp))
theorem call_list_ofB : CallR (X.blk s H sc ce fp) (.type "list") (fun xs H Q => ∃ (p : Addr) (ys : List V), xs = [V.ref p] ∧ (SqL X.K H p ys ∨ SqT X.K H p ys) ∧ ∀ (l : Addr), H l = none → Q (V.ref l) (upd H l (HO.lst ys))) := call_list_of (X := (X.blk s H sc ce fp))
theorem call_tuple_ofB : CallR (X.blk s H sc ce fp) (.type "tuple") (fun xs H Q => ∃ (p : Addr) (ys : List V), xs = [V.ref p] ∧ ((SqL X.K H p ys ∧ ∀ (l : Addr), H l = none → Q (V.ref l) (upd H l (HO.tup ys))) ∨ (SqT X.K H p ys ∧ Q (V.ref p) H))) := call_tuple_of (X := (X.blk s H sc ce fp))
theorem call_len_seqB : CallR (X.blk s H sc ce fp) (.builtin "len") (fun xs H Q => ∃ (p : Addr) (ys : List V), xs = [V.ref p] ∧ (SqL X.K H p ys ∨ SqT X.K H p ys) ∧ Q (V.int (ys.length : Nat)) H) := call_len_seq (X := (X.blk s H sc ce fp))
theorem op_eqDB (hu : X.A.units + 64 < cLine) : OpR (X.blk s H sc ce fp) (compareOp .Eq) (rEqD X.K) := op_eqD (X := (X.blk s H sc ce fp)) hu
theorem op_neDB (hu : X.A.units + 64 < cLine) : OpR (X.blk s H sc ce fp) (compareOp .NotEq) (rNeD X.K) := op_neD (X := (X.blk s H sc ce fp)) hu
theorem pe_fldB {e : Expr} {f : Str} {pos : Pos} {ta : TE} (he : PE (X.blk s H sc ce fp) e ta) (hb : attributeBase e f ((X.blk s H sc ce fp)).env (eval e ((X.blk s H sc ce fp)).env) = eval e ((X.blk s H sc ce fp)).env) : PE (X.blk s H sc ce fp) (.Attribute e f pos) (tFld X.K ta f) := pe_fld (X := (X.blk s H sc ce fp)) he hb
end
section
variable {X : Cx} {a : Addr} {oe : Obj} {pn : List (Addr × Obj)}
theorem ix_listS : IxR (X.suite a ((a, oe) :: pn)) (rIxL X.K) := ix_list (X := (X.suite a ((a, oe) :: pn)))
theorem ix_tupS : IxR (X.suite a ((a, oe) :: pn)) (rIxT X.K) := ix_tup (X := (X.suite a ((a, oe) :: pn)))
theorem sl_listS : SlR (X.suite a ((a, oe) :: pn)) (rSlL X.K) := sl_list (X := (X.suite a ((a, oe) :: pn)))
theorem sl_tupAS : SlR (X.suite a ((a, oe) :: pn)) (rSlA X.K) := sl_tupA (X := (X.suite a ((a, oe) :: pn)))
theorem call_isiS : CallR (X.suite a ((a, oe) :: pn)) (.builtin "isinstance") (rIsi X.K) := call_isi (X := (X.suite a ((a, oe) :: pn)))
theorem op_catTS : OpR (X.suite a ((a, oe) :: pn)) (binaryOp .Add) (rCatT X.K) := op_catT (X := (X.suite a ((a, oe) :: pn)))
theorem call_list_ofS : CallR (X.suite a ((a, oe) :: pn)) (.type "list") (fun xs H Q => ∃ (p : Addr) (ys : List V), xs = [V.ref p] ∧ (SqL X.K H p ys ∨ SqT X.K H p ys) ∧ ∀ (l : Addr), H l = none → Q (V.ref l) (upd H l (HO.lst ys))) := call_list_of (X := (X.suite a ((a, oe) :: pn)))
theorem call_tuple_ofS : CallR (X.suite a ((a, oe) :: pn)) (.type "tuple") (fun xs H Q => ∃ (p : Addr) (ys : List V), xs = [V.ref p] ∧ ((SqL X.K H p ys ∧ ∀ (l : Addr), H l = none → Q (V.ref l) (upd H l (HO.tup ys))) ∨ (SqT X.K H p ys ∧ Q (V.ref p) H))) := call_tuple_of (X := (X.suite a ((a, oe) :: pn)))
theorem call_len_seqS : CallR (X.suite a ((a, oe) :: pn)) (.builtin "len") (fun xs H Q => ∃ (p : Addr) (ys : List V), xs = [V.ref p] ∧ (SqL X.K H p ys ∨ SqT X.K H p ys) ∧ Q (V.int (ys.length : Nat)) H) := call_len_seq (X := (X.suite a ((a, oe) :: pn)))
theorem pe_fldS {e : Expr} {f : Str} {pos : Pos} {ta : TE} (he : PE (X.suite a ((a, oe) :: pn)) e ta) (hb : attributeBase e f ((X.suite a ((a, oe) :: pn))).env (eval e ((X.suite a ((a, oe) :: pn))).env) = eval e ((X.suite a ((a, oe) :: pn))).env) : PE (X.suite a ((a, oe) :: pn)) (.Attribute e f pos) (tFld X.K ta f) := pe_fld (X := (X.suite a ((a, oe) :: pn))) he hb
end
section
variable {X : Cx} {pn : List (Addr × Obj)} {xe : Value → Shared → Prop}
theorem ix_listT : IxR (X.tr pn xe) (rIxL X.K) := ix_list (X := (X.tr pn xe))
theorem ix_tupT : IxR (X.tr pn xe) (rIxT X.K) := ix_tup (X := (X.tr pn xe))
theorem sl_listT : SlR (X.tr pn xe) (rSlL X.K) := sl_list (X := (X.tr pn xe))
theorem sl_tupAT : SlR (X.tr pn xe) (rSlA X.K) := sl_tupA (X := (X.tr pn xe))
theorem call_isiT : CallR (X.tr pn xe) (.builtin "isinstance") (rIsi X.K) := call_isi (X := (X.tr pn xe))
theorem op_catTT : OpR (X.tr pn xe) (binaryOp .Add) (rCatT X.K) := op_catT (X := (X.tr pn xe))
theorem call_tuple_ofT : CallR (X.tr pn xe) (.type "tuple") (fun xs H Q => ∃ (p : Addr) (ys : List V), xs = [V.ref p] ∧ ((SqL X.K H p ys ∧ ∀ (l : Addr), H l = none → Q (V.ref l) (upd H l (HO.tup ys))) ∨ (SqT X.K H p ys ∧ Q (V.ref p) H))) := call_tuple_of (X := (X.tr pn xe))
theorem call_len_seqT : CallR (X.tr pn xe) (.builtin "len") (fun xs H Q => ∃ (p : Addr) (ys : List V), xs = [V.ref p] ∧ (SqL X.K H p ys ∨ SqT X.K H p ys) ∧ Q (V.int (ys.length : Nat)) H) := call_len_seq (X := (X.tr pn xe))
theorem op_eqDT (hu : X.A.units + 64 < cLine) : OpR (X.tr pn xe) (compareOp .Eq) (rEqD X.K) := op_eqD (X := (X.tr pn xe)) hu
theorem op_neDT (hu : X.A.units + 64 < cLine) : OpR (X.tr pn xe) (compareOp .NotEq) (rNeD X.K) := op_neD (X := (X.tr pn xe)) hu
theorem pe_fldT {e : Expr} {f : Str} {pos : Pos} {ta : TE} (he : PE (X.tr pn xe) e ta) (hb : attributeBase e f ((X.tr pn xe)).env (eval e ((X.tr pn xe)).env) = eval e ((X.tr pn xe)).env) : PE (X.tr pn xe) (.Attribute e f pos) (tFld X.K ta f) := pe_fld (X := (X.tr pn xe)) he hb
end
def swp {α : Type} : List α → List α
  | [x, y] => [y, x]
  | l => l
theorem swp_rel {zs : List V} {ws : List Value} (r : L2.Vals zs ws) : L2.Vals (swp zs) (swp ws) := by
  cases r with
  | nil => exact .nil
  | cons a r => cases r with
    | nil => exact .cons a .nil
    | cons b r => cases r with
      | nil => exact .cons b (.cons a .nil)
      | cons c r => exact .cons a (.cons b (.cons c r))
end SI
set_option maxRecDepth 100000
set_option maxHeartbeats 4000000
/-! from what k_is finds to what the walks take -/
namespace SI
open PySem PySem.Spec PyProof.Rows L2 NdefX
section
variable {P : Program} {w : World} {K : PySem.W.Frag} {mg : Str → Option Value} {base h : Heap}
abbrev BindOk (x qual : Str) (st : Stmt) (ps : List Str) : Prop := ∀ (kV doc pm : Value) (an : Option Addr) (cdv ct : Value) (us : List Value), us.length = ps.length →
  bindArgs (PySem.W.fnOf x qual (defArgs st) (defBody st) (defScope st) .none kV doc pm an cdv ct) ⟨us, []⟩ = pure (ps.zip us)
theorem def_at {x : Str} {st : Stmt} {ps : List Str} {f : Addr} {oc kV doc pm cdv ct : Value} {od an : Option Addr} {osl : Array (Option Value)} (X : K.In h) (G : h.Ns mainGlobals mg) (hb : BindOk x x st ps)
    (a : PySem.W.nsIn K mainGlobals x = some (some (.ref f))) (l : K.lookup f = some ⟨oc, od, .func (PySem.W.fnOf x x (defArgs st) (defBody st) (defScope st) .none kV doc pm an cdv ct), osl⟩)
    (c : PySem.W.codeIn K cdv x = true) (k : PySem.W.keepIn K (.ref f) = true) {R : Prop} (r : DefAt K mg x st ps → R) : R :=
  r ⟨f, _, fun_mk l c k, PySem.W.mg_of X G a, (fun_mk l c k).binds hb⟩
theorem cls_at {C : Addr} (pg : PySem.W.plainGet K C Str.empty = true) (hd : PySem.W.hasDictIn K C = true) (po : PySem.W.plainOver K C = true) (sa : PySem.W.findIn K (.ref C) "__setattr__" = some (some (.builtin "object.__setattr__")))
    {R : Prop} (r : Cls K C → R) : R := r ⟨pg, hd, po, sa⟩
theorem mak_at {x qual : Str} {C : Addr} {st : Stmt} {ps : List Str} {f : Addr} {oc kV doc pm cdv ct : Value} {od an : Option Addr} {osl : Array (Option Value)} (X : K.In h) (G : h.Ns mainGlobals mg) (hb : BindOk "__init__" qual st ps)
    (a : PySem.W.nsIn K mainGlobals x = some (some (.ref C))) (mk : PySem.W.makesIn K C = true) (i : PySem.W.findIn K (.ref C) "__init__" = some (some (.ref f))) (n : PySem.W.isFn K (.ref f) = true) (kc : PySem.W.keepIn K (.ref C) = true)
    (l : K.lookup f = some ⟨oc, od, .func (PySem.W.fnOf "__init__" qual (defArgs st) (defBody st) (defScope st) .none kV doc pm an cdv ct), osl⟩)
    (c : PySem.W.codeIn K cdv qual = true) (k : PySem.W.keepIn K (.ref f) = true) {R : Prop} (r : MakAt K mg x C qual st ps → R) : R :=
  r ⟨f, _, ⟨mk, i, n, kc⟩, fun_mk l c k, PySem.W.mg_of X G a, (fun_mk l c k).binds hb⟩
theorem met_at {m qual : Str} {C : Addr} {st : Stmt} {ps : List Str} {f : Addr} {oc kV doc pm cdv ct : Value} {od an : Option Addr} {osl : Array (Option Value)} (hC : Cls K C) (hb : BindOk m qual st ps)
    (i : PySem.W.findIn K (.ref C) m = some (some (.ref f))) (n : PySem.W.isFn K (.ref f) = true)
    (l : K.lookup f = some ⟨oc, od, .func (PySem.W.fnOf m qual (defArgs st) (defBody st) (defScope st) .none kV doc pm an cdv ct), osl⟩)
    (c : PySem.W.codeIn K cdv qual = true) (k : PySem.W.keepIn K (.ref f) = true) {R : Prop} (r : MetAt K C m qual st ps → R) : R :=
  r ⟨f, _, hC, ⟨i, n, k⟩, fun_mk l c k, (fun_mk l c k).binds hb⟩
/-- a class of errors: at its name, what isinstance and except read of it -/
theorem exc_at {x : Str} {C : Addr} {nm q : Str} {N : Addr} {bs bm : List Value} {sn : List Str} {sub : List Value} {ab : Bool} {col : Option Bool} {dd : Option Addr} {k0 k1 k2 k3 k5 : Option Value} (X : K.In h) (G : h.Ns mainGlobals mg)
    (a : PySem.W.nsIn K mainGlobals x = some (some (.ref C))) (l : K.lookup C = some (excClassObj nm q C N bs bm true sn sub ab col dd k0 k1 k2 k3 k5 "ValueError.__new__")) (rf : PySem.HandSPX.refsVE bm = true)
    (sa : PySem.W.findIn K (.ref C) "__setattr__" = some (some (.builtin "object.__setattr__"))) (exC : PySem.W.subIn K (.ref C) (.type "BaseException") = some true) (tyC : PySem.W.typeIn K (.ref C) = some (.type "type")) (kC : PySem.W.keepIn K (.ref C) = true)
    (ga : PySem.W.findIn K (.ref C) "__getattribute__" = some (some (.builtin "BaseException.__getattribute__"))) (gg : PySem.W.findIn K (.ref C) "__getattr__" = some none) (hd : PySem.W.hasDictIn K C = true)
    (ac : PySem.W.findIn K (.ref C) "__class__" = some (some (.builtin "object.__class__"))) (mo : PySem.W.mroIn K C (.type "object") = some true)
    {R : Prop} (r : mg x = some (.ref C) → OexC K C → ErrC K C → R) : R :=
  r (PySem.W.mg_of X G a) ⟨⟨nm, q, N, bs, bm, sn, sub, ab, col, dd, k0, k1, k2, k3, k5, l, rf⟩, sa, exC, tyC, kC⟩
    ⟨by unfold PySem.W.clsIn; rw [l] <;> rfl, ga, gg, exC, hd, ac, mo⟩
/-- what an own __init__ with super() is -/
theorem sup_at {C fI : Addr} {qual : Str} {st : Stmt} {e0 : Expr} {rest : List Stmt} {p0 p1 p2 p3 p4 : Pos} {oc : Value} {od : Option Addr} {kV doc pm : Value} {an : Option Addr} {ct : Value} {osl : Array (Option Value)} {cc cda : Addr}
      {q1 : Value} {q2 : Option Addr} {q3 : Array (Option Value)} {r1 : Value} {r2 : Option Addr} {vs : Array Value} {r3 : Array (Option Value)} {file : Str} {tf : Tok} (X : K.In h) (G : h.Ns mainGlobals mg) (O : OexC K C)
    (hbody : defBody st = .Expr (.Call (.Attribute (.Call (.Name "super" p0) [] [] p1) "__init__" p2) [e0] [] p3) p4 :: rest)
    (i : PySem.W.findIn K (.ref C) "__init__" = some (some (.ref fI))) (t : PySem.W.typeIn K (.ref fI) = some (.type "function"))
    (l : K.lookup fI = some ⟨oc, od, .func (PySem.W.fnX "__init__" qual (defArgs st) (defBody st) (defScope st) [("__class__", cc)] .none kV doc pm an (.ref cda) ct), osl⟩)
    (c : PySem.W.codeIn K (.ref cda) qual = true) (lc : K.lookup cda = some ⟨r1, r2, .fields vs, r3⟩) (hf : vs[2]? = some (.str file tf)) (hm : (P.main.file == file) = true) (lcc : K.lookup cc = some ⟨q1, q2, .cell (some (.ref C)), q3⟩)
    (self : PySem.W.mroIn K C (.ref C) = some true) (sup : PySem.W.ks_superIn K C C "__init__" = some (some (.builtin "ValueError.__init__"))) (sub : PySem.W.subIn K (.ref C) (.type "ValueError") = some true)
    (z : PySem.W.nsIn K mainGlobals "super" = some none) (any : PySem.W.nsIn K cStatics "thirdparty.any" = some none) (top : (P.main.scope.names.lookup ("super" : Str)).isSome = false)
    {R : Prop} (r : ∀ fd, SupF P K mg C fI qual (defArgs st) e0 rest (defScope st) p0 p1 p2 p3 p4 fd → PySem.W.findIn K (.ref C) "__init__" = some (some (.ref fI)) → PySem.W.typeIn K (.ref fI) = some (.type "function") → 
      (∃ (kV doc pm : Value) (an : Option Addr) (cc : Addr) (cdv ct : Value), fd = PySem.W.fnX "__init__" qual (defArgs st) (defBody st) (defScope st) [("__class__", cc)] .none kV doc pm an cdv ct) → R) : R :=
  r _ ⟨⟨oc, od, kV, doc, pm, an, ct, osl, cc, cda, q1, q2, q3, r1, r2, vs, r3, file, tf, by rw [hbody], l, c, lc, hf, hm, lcc⟩, O, self, sup, sub, PySem.W.mg_none_of X G z, any, top⟩ i t ⟨kV, doc, pm, an, cc, .ref cda, ct, rfl⟩
abbrev BindX (qual : Str) (st : Stmt) (ps : List Str) : Prop := ∀ (kV doc pm : Value) (an : Option Addr) (cc : Addr) (cdv ct : Value) (us : List Value), us.length = ps.length →
  bindArgs (PySem.W.fnX "__init__" qual (defArgs st) (defBody st) (defScope st) [("__class__", cc)] .none kV doc pm an cdv ct) ⟨us, []⟩ = pure (ps.zip us)
theorem bindX {qual : Str} {st : Stmt} {ps : List Str} {fd : FuncData} (hb : BindX qual st ps) (e : ∃ (kV doc pm : Value) (an : Option Addr) (cc : Addr) (cdv ct : Value), fd = PySem.W.fnX "__init__" qual (defArgs st) (defBody st) (defScope st) [("__class__", cc)] .none kV doc pm an cdv ct) : Binds K fd ps [] := by
  obtain ⟨kV, doc, pm, an, cc, cdv, ct, rfl⟩ := e
  exact .all (hb kV doc pm an cc cdv ct)
theorem xm_at {C D : Addr} {b : Bool} (e : ErrC K D) (o : OexC K D) (s : PySem.W.subIn K (.ref C) (.ref D) = some b) : PySem.W.exmOne K (.ref C) (.ref D) = some b := PySem.W.exm_ref e.exC e.hd o.tyC s
theorem kit_ref {C D : Addr} {b : Bool} (e : ErrC K D) (o : OexC K D) (n : C ≠ D) (s : PySem.W.subIn K (.ref C) (.ref D) = some b) : PySem.W.kitOne K (.ref C) (.ref D) = some b := by
  unfold PySem.W.kitOne
  rw [if_neg (by intro z; exact n (by have := eq_of_beq z; cases this; rfl))]
  show (if ((PySem.W.clsIn K D).isSome && PySem.W.typeIn K (.ref D) == some (.type "type")) = true then _ else none) = _
  rw [if_pos (by rw [e.cl, o.tyC] <;> rfl)]
  exact s
theorem kit_self {C : Addr} : PySem.W.kitOne K (.ref C) (.ref C) = some true := by
  unfold PySem.W.kitOne
  rw [if_pos (by simp)]
theorem kit_VE {C : Addr} (s : PySem.W.subIn K (.ref C) (.type "ValueError") = some true) : PySem.W.kitOne K (.ref C) (.type "ValueError") = some true := by
  unfold PySem.W.kitOne
  rw [if_neg (by intro z; have := eq_of_beq z; cases this)]
  show (if PySem.W.kitMeta "ValueError" = true then _ else none) = _
  rw [if_pos (by decide +kernel)]
  exact s
theorem int_at {x : Str} {i : Int} {t : Tok} (X : K.In h) (G : h.Ns mainGlobals mg) (a : PySem.W.nsIn K mainGlobals x = some (some (.int i t))) : ∃ t, mg x = some (.int i t) := ⟨t, PySem.W.mg_of X G a⟩
theorem int_is {x : Str} {i : Int} {t : Tok} (X : K.In h) (G : h.Ns mainGlobals mg) (a : PySem.W.nsIn K mainGlobals x = some (some (.int i t))) {R : Prop} (r : (∃ t, mg x = some (.int i t)) → R) : R := r ⟨t, PySem.W.mg_of X G a⟩
theorem int_as {x : Str} {i j : Int} (e : i = j) (h : ∃ t, mg x = some (.int i t)) : ∃ t, mg x = some (.int j t) := e ▸ h
theorem law_at {l : PySem.W.OpenLaw} {k : Nat} {fa : Addr} {x y : Str} {st : Stmt} {sp : Sp} {oc kV doc pm cdv ct : Value} {f : Addr} {od an : Option Addr} {osl : Array (Option Value)} (X : K.In h) (G : h.Ns mainGlobals mg) (hfa : mg x = some (.ref fa)) (hb : BindOk x x st [y])
    (hl : K.lookup f = some ⟨oc, od, .func (PySem.W.fnOf x x (defArgs st) (defBody st) (defScope st) .none kV doc pm an cdv ct), osl⟩) (a : PySem.W.nsIn K mainGlobals x = some (some (.ref f)))
    (c : ∀ base, Cd l.prog w K mg base k x st [y] sp) :
    ∃ fd : FuncData, (∀ (s : Shared) (v : Value), BindsTo s fd ⟨[v], []⟩ [(y, v)]) ∧ ∀ base : Heap, K.In base → base.Ns mainGlobals mg → FnOk l.prog w K mg base (L2.CX l.prog w) k fa fd [y] sp := by
  have e := hfa.symm.trans (PySem.W.mg_of X G a)
  cases e
  refine ⟨_, fun s v => .of_eq (hb kV doc pm an cdv ct [v] rfl), fun base _ _ => ?_⟩
  obtain ⟨f', fd', F, Fn, hm, b⟩ := (c base).ex
  have e2 := hm.symm.trans hfa
  cases e2
  obtain ⟨oc', od', kV', doc', pm', an', cdv', ct', osl', rfl, lk, hcd⟩ := Fn.ex
  have e3 := lk.symm.trans hl
  injection e3 with e3
  injection e3 with _ _ e3 _
  injection e3 with e3
  rw [← e3]
  exact F
end
theorem walkK {l : PySem.W.OpenLaw} {n k : Nat} {q : Program} {loose : List Str} {XP : (Str → Option Value) → Heap → Prop} {YP : World → Heap → Prop} {d : DefRec} {K : Params → PySem.W.Frag} {sp : PySem.W.Frag → Sp} {x : Str}
    (hn : l.most = some n) (hn2 : n ≤ sizeLine) (hdf : d.params.defaults = []) (hr : Room k callerA) (hsp : ∀ (K : PySem.W.Frag) (H : Hp) (a : Addr) (ns : List Int), ns.length ≤ n → SqL K H a (ns.map V.int) → sp K [.ref a] H (fun v _ => v = .bl true) fun _ _ _ => False)
    (hY : ∀ (w : World) (h : Heap), YP w h → (K w.params).In h)
    (F : ∀ (w : World) (mg : Str → Option Value) (fa : Addr) (h : Heap), (K w.params).In h → h.Ns mainGlobals mg → mg d.name = some (.ref fa) →
      ∃ fd : FuncData, (∀ (s : Shared) (u : Value), BindsTo s fd ⟨[u], []⟩ [(x, u)]) ∧
        ∀ base : Heap, (K w.params).In base → base.Ns mainGlobals mg → FnOk l.prog w (K w.params) mg base (L2.CX l.prog w) k fa fd [x] (sp (K w.params))) :
    PySem.W.WalkO q loose XP YP l.row.toRowW d [] (fun f vs => PySem.call f vs) :=
  L2.walk_of (CX := fun w => L2.CX l.prog w) (sp := fun w => sp (K w.params)) hn hn2 hdf hr hY F (fun w H a ns hl _ hS => hsp _ H a ns hl hS) fun w H s e s' h => by
    obtain ⟨_, _, _, _, _, _, _, _, _, _, _, _, hE⟩ := h
    exact hE
end SI
set_option maxRecDepth 100000
set_option maxHeartbeats 4000000
/-! comparisons by an own method of a class whose instances have a dict -/
namespace SI
open PySem PySem.Spec PyProof.Rows L2
/-- the type of a value, as the abstract heap tells it -/
inductive TyV (K : PySem.W.Frag) (H : Hp) : V → Value → Prop
  | non : TyV K H .non (.type "NoneType")
  | bl (b : Bool) : TyV K H (.bl b) (.type "bool")
  | int (i : Int) : TyV K H (.int i) (.type "int")
  | str (s : Str) : TyV K H (.str s) (.type "str")
  | tup {a : Addr} {xs : List V} (h : SqT K H a xs) : TyV K H (.ref a) (.type "tuple")
  | lst {a : Addr} {xs : List V} (h : SqL K H a xs) : TyV K H (.ref a) (.type "list")
  | ins {a C d : Addr} {fs : List (Str × V)} (h : H a = some (.ins C d fs)) : TyV K H (.ref a) (.ref C)
section
variable {X : Cx} {k j : Nat} {C : Addr} {sp : Sp}
theorem looks_ty {pins : List (Addr × Obj)} {σ : L2.St} {H : Hp} {s : Shared} {y : V} {u tb : Value} (I : Inv X pins σ H s) (r : RelV y u) (t : TyV X.K H y tb) : PySem.W.Looks (model X.prog X.w) s.heap (typeOf u) tb := by
  cases t with
  | non => cases (show u = Value.none from r); exact fun A Q E s1 _ h => by unfold typeOf; exact wpAny_pure h
  | bl b => cases (show u = Value.bool b from r); exact fun A Q E s1 _ h => by unfold typeOf; exact wpAny_pure h
  | int i => obtain ⟨t, rfl⟩ := (show ∃ t, u = Value.int i t from r); exact fun A Q E s1 _ h => by unfold typeOf; exact wpAny_pure h
  | str x => obtain ⟨t, rfl⟩ := (show ∃ t, u = Value.str x t from r); exact fun A Q E s1 _ h => by unfold typeOf; exact wpAny_pure h
  | tup h =>
    cases (show u = Value.ref _ from r)
    obtain ⟨its, r2, ⟨o, e, hc, n, hd⟩, z⟩ := I.tuple h
    exact hc ▸ (PySem.W.Looks.ld e).andThen .now
  | lst h =>
    cases (show u = Value.ref _ from r)
    obtain ⟨its, r2, ⟨o, n, e, hc, hd, hs⟩, z⟩ := I.list h
    exact hc ▸ (PySem.W.Looks.ld e).andThen .now
  | ins h =>
    cases (show u = Value.ref _ from r)
    obtain ⟨m, J, _⟩ := ins_get I.hok h
    obtain ⟨od, J, _⟩ := J.look
    exact J.type
theorem nf_sub {K : PySem.W.Frag} {tb : Value} (h : PySem.W.subIn K tb (.ref C) = some false) : PySem.W.notFirst K C tb = true := by
  unfold PySem.W.notFirst
  rw [h]
  simp
theorem nf_self {K : PySem.W.Frag} : PySem.W.notFirst K C (.ref C) = true := by simp [PySem.W.notFirst]
theorem kit_tyR {K : PySem.W.Frag} {n : String} {b : Bool} (hd : PySem.W.hasDictIn K C = true) (ht : PySem.W.typeIn K (.ref C) = some (.type "type")) (s : PySem.W.subIn K (.type n) (.ref C) = some b) : PySem.W.kitOne K (.type n) (.ref C) = some b := by
  obtain ⟨cd, hc, _⟩ := PySem.W.any_some hd
  unfold PySem.W.kitOne
  rw [if_neg (by intro z; have := eq_of_beq z; cases this)]
  show (if ((PySem.W.clsIn K C).isSome && PySem.W.typeIn K (.ref C) == some (.type "type")) = true then _ else none) = _
  rw [if_pos (by rw [hc, ht] <;> rfl)]
  exact s
/-- isinstance(e, (c1, c2, ..)), e the error that is handled -/
def rIsXT (K : PySem.W.Frag) (a : Addr) (cls : Value) (d : Option Addr) : List V → Hp → VK → Prop := fun xs H Q => ∃ (D tp : Addr) (cs : List V) (us : List Value) (b : Bool), cls = .ref D ∧ ErrC K D ∧ xs = [.ref a, .ref tp] ∧ H tp = some (.tup cs) ∧ Paired ClsV cs us ∧ PySem.W.kitAny K cls us = some b ∧
  (∀ dd, d = some dd → ∃ fs, H dd = some (.xd fs)) ∧ Q (.bl b) H
theorem call_isXT {a : Addr} {oe : Obj} {cls : Value} {d : Option Addr} (EK : ErrK X.K) (hp : (a, oe) ∈ X.pn) (hz : Zc cls d oe) (hf : ∃ vs, oe.data = .fields vs) : CallR X (.builtin "isinstance") (rIsXT X.K a cls d) := by
  intro pins s σ H xs us Q I r h
  obtain ⟨D, tp, cs, ws, b, ecls, C, rfl, hT, hcs, e, hd, q⟩ := h
  cases r with
  | cons rx rr =>
    cases rr with
    | cons rt rr =>
      cases rr
      cases rx
      cases rt
      subst ecls
      obtain ⟨_, its, rv, o, h1, h2, n, h3⟩ := (show ObjOk X.prog X.w H s.heap tp (.tup cs) from I.hok tp _ hT)
      have e3 := ClsV.all hcs rv
      subst e3
      obtain ⟨oc, odd, dt, sl⟩ := o
      simp only at h2 h3
      subst h2 h3
      obtain ⟨hget, _⟩ := I.pin (a, oe) (List.mem_append_left _ hp)
      obtain ⟨vs, hv⟩ := hf
      obtain ⟨od, J⟩ : ∃ od, PySem.W.InstAt s.heap a oe D od := by
        obtain ⟨oc, odi, oda, osl⟩ := oe
        obtain ⟨h1, h2⟩ := hz
        dsimp only at h1 h2 hv
        subst h1 h2 hv
        cases odi with
        | none => exact ⟨none, hget, rfl, rfl, trivial⟩
        | some dd =>
          obtain ⟨fs, hfs⟩ := hd dd rfl
          have hx : ObjOk X.prog X.w H s.heap dd (.xd fs) := I.hok dd _ hfs
          obtain ⟨mA, ⟨o, es, ep, ho, _⟩, _⟩ := hx
          exact ⟨some o, hget, rfl, rfl, ho⟩
      exact PySem.W.kia_tup (PySem.W.kitx_exc C.cl C.ga C.gg C.exC C.ac EK.hn EK.ht C.mo) I.kIn J h1 e (fun z => nomatch z) fun tk => ⟨.bl b, H, I.kept (t' := tk) fun _ _ z => z, rfl, q⟩
/-- x op y: an own method of x answers -/
def rOwnI (K : PySem.W.Frag) (C : Addr) (sp : Sp) : R2 := fun x y H Q => ∃ a dx fs tb, x = .ref a ∧ H a = some (.ins C dx fs) ∧ TyV K H y tb ∧ PySem.W.notFirst K C tb = true ∧ sp [x, y] H Q E0
theorem op_ownI {op : CmpOp} (hop : ∀ a b, compareOp op a b = richCompare op a b) (c : Mt X.prog X.w X.K X.mg X.base k C (cmpInfo op).2.1 sp []) (hr : Room j X.A) (hk : k ≤ j) : OpR X (compareOp op) (rOwnI X.K C sp) := by
  obtain ⟨f, fd, ps, ds, hc, hm, F, b, d⟩ := c.ex
  cases d
  intro pins s σ H x y v u Q I rx ry h
  obtain ⟨a, dx, fs, tb, rfl, ha, ht, hn, q⟩ := h
  cases (show v = Value.ref a from rx)
  obtain ⟨mA, J, _⟩ := ins_get I.hok ha
  obtain ⟨od, J, _⟩ := J.look
  obtain ⟨m, hF⟩ := I.fr
  rw [hop]
  refine PySem.W.cmp_K (op := op) (tb := tb) hr.units0 hF I.ok.mod.kin J (looks_ty I ry ht) hn hm.at_ hm.fn ?_
  refine wpAny_mono (run_fn (us := [.ref a, u]) (vs := [.ref a, y]) F (hr.mono hk) b .nil passL I (.cons rfl (.cons ry .nil)) q) (fun w s' z => ?_) fun _ _ x => x
  obtain ⟨z', H', I', rz, qz⟩ := z
  exact SlX.cmpback rz ⟨z', H', I', rz, qz⟩
end
end SI
set_option maxRecDepth 100000
set_option maxHeartbeats 4000000
/-! methods and classes called by keywords; a def in a suite that gets the error itself -/
namespace SI
open PySem PySem.Spec PyProof.Rows L2 NdefX
structure Mtd (P : Program) (w : World) (K : PySem.W.Frag) (mg : Str → Option Value) (base : Heap) (k : Nat) (C : Addr) (m qual : Str) (st : Stmt) (ps : List Str) (sp : Sp) : Prop where
  ex : ∃ (f : Addr) (fd : FuncData), Cls K C ∧ Meth K C m f ∧ FnOk P w K mg base (L2.CX P w) k f fd ps sp ∧ Fun K m qual st f fd ∧ Binds K fd ps []
structure Mkd (P : Program) (w : World) (K : PySem.W.Frag) (mg : Str → Option Value) (base : Heap) (k : Nat) (x : Str) (C : Addr) (qual : Str) (st : Stmt) (ps : List Str) (sp : Sp) : Prop where
  ex : ∃ (f : Addr) (fd : FuncData), Mk K C f ∧ FnOk P w K mg base (L2.CX P w) k f fd ps sp ∧ Fun K "__init__" qual st f fd ∧ mg x = some (.ref C) ∧ Binds K fd ps []
section
variable {P : Program} {w : World} {K : PySem.W.Frag} {mg : Str → Option Value} {base : Heap}
theorem Mtd.mt {k : Nat} {C : Addr} {m qual : Str} {st : Stmt} {ps : List Str} {sp : Sp} (c : Mtd P w K mg base k C m qual st ps sp) : Mt P w K mg base k C m sp [] := by
  obtain ⟨f, fd, hc, hm, F, _, b⟩ := c.ex
  exact ⟨f, fd, ps, [], hc, hm, F, b, .nil⟩
theorem Mkd.mkr {k : Nat} {x : Str} {C : Addr} {qual : Str} {st : Stmt} {ps : List Str} {sp : Sp} (c : Mkd P w K mg base k x C qual st ps sp) : Mkr P w K mg base k x C sp [] := by
  obtain ⟨f, fd, M, F, _, hm, b⟩ := c.ex
  exact ⟨f, fd, ps, [], M, F, hm, b, .nil⟩
theorem mtd_of {m qual : Str} {C : Addr} {st : Stmt} {N ps : List Str} {k : Nat} {sp : Sp} (D : MetAt K C m qual st ps) (S : FnScope N ps (defScope st)) (len : ∀ vs H Q E, sp vs H Q E → vs.length = ps.length)
    (hbody : ∀ (f : Addr) (cdv : Value) (A : Around) (outer : List Env) (s : Shared) (H : Hp) (vs : List V) (Q : VK) (E : XK), Room k (A.deeper (envOfC qual (defScope st) s.heap.objs.size f cdv)) → sp vs H Q E →
      ∃ t, PSs (cxOf (L2.CX P w) P w K mg base N qual (defScope st) f cdv A outer s H E) (defBody st) t ∧ t { nx := fun _ H' => Q .non H', rt := Q } (L2.start N vs) H) : Mtd P w K mg base (k + 1) C m qual st ps sp := by
  obtain ⟨f, fd, c, me, F, b⟩ := D.ex
  exact ⟨f, fd, c, me, F.okX S len (hbody f), F, b⟩
theorem mkd_of {x qual : Str} {C : Addr} {st : Stmt} {N ps : List Str} {k : Nat} {sp : Sp} (D : MakAt K mg x C qual st ps) (S : FnScope N ps (defScope st)) (len : ∀ vs H Q E, sp vs H Q E → vs.length = ps.length)
    (hbody : ∀ (f : Addr) (cdv : Value) (A : Around) (outer : List Env) (s : Shared) (H : Hp) (vs : List V) (Q : VK) (E : XK), Room k (A.deeper (envOfC qual (defScope st) s.heap.objs.size f cdv)) → sp vs H Q E →
      ∃ t, PSs (cxOf (L2.CX P w) P w K mg base N qual (defScope st) f cdv A outer s H E) (defBody st) t ∧ t { nx := fun _ H' => Q .non H', rt := Q } (L2.start N vs) H) : Mkd P w K mg base (k + 1) x C qual st ps sp := by
  obtain ⟨f, fd, M, F, hm, b⟩ := D.ex
  exact ⟨f, fd, M, F.okX S len (hbody f), F, hm, b⟩
end
theorem met_atX {K : PySem.W.Frag} {h : Heap} {x m qual : Str} {C : Addr} {st : Stmt} {ps : List Str} {f : Addr} {oc kV doc pm cdv ct : Value} {od an : Option Addr} {osl : Array (Option Value)} (_X : K.In h) (hb : BindOk m qual st ps)
    (_a : PySem.W.nsIn K mainGlobals x = some (some (.ref C))) (hC : Cls K C)
    (i : PySem.W.findIn K (.ref C) m = some (some (.ref f))) (n : PySem.W.isFn K (.ref f) = true)
    (l : K.lookup f = some ⟨oc, od, .func (PySem.W.fnOf m qual (defArgs st) (defBody st) (defScope st) .none kV doc pm an cdv ct), osl⟩)
    (c : PySem.W.codeIn K cdv qual = true) (k : PySem.W.keepIn K (.ref f) = true) {R : Prop} (r : MetAt K C m qual st ps → R) : R := met_at hC hb i n l c k r
/-- o.m(k = v, ..): ks the keywords in the call's order, g puts their values in the parameters' order -/
def tMethK (C : Addr) (m : Str) (n : Nat) (sp : Sp) (gV : List V → List V) (E : XK) (ta : TE) (tk : TA) : TE := fun σ H Q => ta σ H fun x H1 => ∃ a dx fs, x = .ref a ∧ H1 a = some (.ins C dx fs) ∧ fs.lookup m = none ∧
  tk σ H1 fun zs H2 => zs.length = n ∧ sp (x :: gV zs) H2 Q E
section
variable {X : Cx} {k j : Nat} {C : Addr} {x m qual : Str} {st : Stmt} {ps ks : List Str} {sp : Sp} {p pos apos : Pos} {e o : Expr} {es : List Expr} {kws : List Keyword} {ta : TE} {t tk : TA} {g : {α : Type} → List α → List α}
theorem pe_mtK0 {pl : Sem Bool} (c : Mtd X.prog X.w X.K X.mg X.base k C m qual st ps sp) (hr : Room j X.A) (hk : k ≤ j) (he : PE X o ta) (hkw : PK X kws tk)
    (hb : ∀ (kV doc pm : Value) (an : Option Addr) (cdv ct sv : Value) (ws : List Value), ws.length = ks.length → bindArgs (PySem.W.fnOf m qual (defArgs st) (defBody st) (defScope st) .none kV doc pm an cdv ct) ⟨[sv], ks.zip ws⟩ = pure (ps.zip (sv :: g ws)))
    (hrel : ∀ {zs : List V} {ws : List Value}, Vals zs ws → Vals (g zs) (g ws))
    (hall : (backToKw pos (keywordEach kws X.env)).all (·.1.isSome) = true := by rfl) (hks : (backToKw pos (keywordEach kws X.env)).filterMap (·.1) = ks := by rfl)
    (hpl : ((backTo pos (starEach [] X.env)).any (·.1) || (backToKw pos (keywordEach kws X.env)).any (·.1.isNone)) = false := by rfl)
    (ht : eval (.Call (.Attribute o m apos) [] kws pos) X.env = (do
      let ov ← eval o X.env
      standAt apos.atName
      let (f, first) ← holding [ov] (getMethod ov m pl)
      callWith pos f first (backTo pos (starEach [] X.env)) (backToKw pos (keywordEach kws X.env))) := by rfl) :
    PE X (.Call (.Attribute o m apos) [] kws pos) (tMethK C m ks.length sp g E0 ta tk) := by
  obtain ⟨f, fd, hc, hm, F, Fn, _⟩ := c.ex
  refine ⟨fun pins s σ H Q I h => PySem.W.methodCall_KW (pl := pl) (thn (he.run pins s σ H _ I h) fun u s1 ⟨x, H1, I1, rx, a, dx, fs, ex, ea, l, q⟩ => ?_) ht⟩
  subst ex
  obtain rfl : u = Value.ref a := rx
  refine getmeth_ok I1 ea hc hm l (PySem.W.callWith_KW0 (first := [.ref a]) (h₀ := X.base) I.ok.mod.kin hm.kp hall (thn (hkw.run pos pins s1 σ H1 _ I1 q) fun ws s2 ⟨zs, H2, I2, rz, l2, q2⟩ => ⟨I2.kIn, ?_⟩) hpl)
  rw [hks]
  obtain ⟨oc, od, kV, doc, pm, an, cdv, ct, osl, rfl, lk, hcd⟩ := Fn.ex
  have b : KBn X.K (PySem.W.fnOf m qual (defArgs st) (defBody st) (defScope st) .none kV doc pm an cdv ct) ps 1 ks (fun us ws => us ++ g ws) (fun vs zs => vs ++ g zs) :=
    ⟨fun s us ws _ l1 l2 => by
      match us, l1 with
      | [sv], _ => exact BindsTo.of_eq (hb kV doc pm an cdv ct sv ws l2), fun r1 r => r1.append (hrel r)⟩
  exact run_fnN (us := [.ref a]) (vs := [.ref a]) (F.mono hk) hr b passL I2 (.cons rfl .nil) rz rfl l2 q2
/-- C(k = v, ..) -/
theorem pe_mkK0 (c : Mkd X.prog X.w X.K X.mg X.base k x C qual st ps sp) (hr : Room j X.A) (hk : k + 1 ≤ j) (hg : Gl X x) (hkw : PK X kws tk)
    (hb : ∀ (kV doc pm : Value) (an : Option Addr) (cdv ct sv : Value) (ws : List Value), ws.length = ks.length → bindArgs (PySem.W.fnOf "__init__" qual (defArgs st) (defBody st) (defScope st) .none kV doc pm an cdv ct) ⟨[sv], ks.zip ws⟩ = pure (ps.zip (sv :: g ws)))
    (hrel : ∀ {zs : List V} {ws : List Value}, Vals zs ws → Vals (g zs) (g ws))
    (hall : (backToKw pos (keywordEach kws X.env)).all (·.1.isSome) = true := by rfl) (hks : (backToKw pos (keywordEach kws X.env)).filterMap (·.1) = ks := by rfl) (hdb : (x == ("__debug__" : Str)) = false := by decide)
    (hpl : ((backTo pos (starEach [] X.env)).any (·.1) || (backToKw pos (keywordEach kws X.env)).any (·.1.isNone)) = false := by rfl) :
    PE X (.Call (.Name x p) [] kws pos) (tMakeK C 0 ks.length sp (fun vs zs => vs ++ g zs) E0 tNil tk) := by
  obtain ⟨f, fd, M, F, Fn, hm, _⟩ := c.ex
  obtain ⟨oc, od, kV, doc, pm, an, cdv, ct, osl, rfl, lk, hcd⟩ := Fn.ex
  have b : KBn X.K (PySem.W.fnOf "__init__" qual (defArgs st) (defBody st) (defScope st) .none kV doc pm an cdv ct) ps 1 ks (fun us ws => us ++ g ws) (fun vs zs => vs ++ g zs) :=
    ⟨fun s us ws _ l1 l2 => by
      match us, l1 with
      | [sv], _ => exact BindsTo.of_eq (hb kV doc pm an cdv ct sv ws l2), fun r1 r => r1.append (hrel r)⟩
  exact pe_makeK0 M F (hr.mono hk) hg hm b passL hkw hall hks hdb hpl
/-- a def in a suite, that reads the error it is given -/
theorem pe_cWE {a : Addr} {oe : Obj} {cls : Value} {d : Option Addr} {pn : List (Addr × Obj)} {sp' : Addr → Value → Option Addr → Sp} {q : Pos} (hz : Zc cls d oe) (hf : ∃ vs, oe.data = .fields vs)
    (c : ClW X.prog X.w X.K X.mg X.base k x (fun p vs H Q E => ∃ cls d, Zc cls d p.2 ∧ (∃ vs, p.2.data = .fields vs) ∧ sp' p.1 cls d vs H Q E)) (hr : Room j X.A) (hk : k ≤ j) (hg : Gl X x) (ha : PA (X.suite a ((a, oe) :: pn)) (e :: es) t)
    (hdb : (x == ("__debug__" : Str)) = false := by decide) (he : starEach (e :: es) X.env = (false, eval e X.env) :: starEach es X.env := by rfl) (hpl : (backTo pos (starEach es X.env)).any (·.1) = false := by rfl) :
    PE (X.suite a ((a, oe) :: pn)) (.Call (.Name x q) (e :: es) [] pos) (tCallS (sp' a cls d) (fun _ => E0) t) := by
  obtain ⟨f, fd, ps, F, hm, kp, b⟩ := c.ex
  refine ⟨fun pins s σ H Q I h => wpAny_Call_Name_kw (ld_glob I hg hm ?_ hdb)⟩
  exact PySem.W.callWith_K (h₀ := X.base) I.ok.mod.kin kp (thn (ha.run pos pins s σ H _ I h) fun us s1 ⟨vs, H1, I1, r, q⟩ => ⟨I1.kIn, run_fnW (X := X.suite a ((a, oe) :: pn)) (E := fun _ => E0) (p := (a, oe)) F ((room_mark hr _).mono hk) List.mem_cons_self b passA0 I1 r ⟨cls, d, hz, hf, q⟩⟩) he hpl
end
end SI
set_option maxRecDepth 100000
set_option maxHeartbeats 4000000
namespace K11
open PySem L2 SI
def top (i : Nat) : Stmt := PySem.Challenge.pw_pebblesreach_k11_tree_parts.main.body.getD i (.Pass ⟨0, 0, 0, 0⟩)
abbrev sHeights : Stmt := top 1
abbrev sMainChildren : Stmt := top 2
abbrev sPathDown : Stmt := top 3
abbrev sPaths : Stmt := top 4
abbrev sCheckEdges : Stmt := top 21
abbrev sTreeInit : Stmt := inClass (top 22) 0
abbrev sTreeChildren : Stmt := inClass (top 22) 1
abbrev sTreeEq : Stmt := inClass (top 22) 2
abbrev sLPool : Stmt := top 24
abbrev sLDraw : Stmt := top 25
abbrev sLSame : Stmt := top 26
abbrev sLTruth : Stmt := top 27
abbrev sLFault : Stmt := top 28
abbrev sLRaised : Stmt := top 29
abbrev sLDue : Stmt := top 30
abbrev sLRows : Stmt := top 31
abbrev sLChildren : Stmt := top 32
abbrev sLHeights : Stmt := top 33
abbrev sLPaths : Stmt := top 34
abbrev sLEachOnce : Stmt := top 35
abbrev sLIsTree : Stmt := top 36
abbrev sLRight : Stmt := top 37
abbrev sLEquals : Stmt := top 38
abbrev sLRefused : Stmt := top 39
abbrev sLaw : Stmt := top 40
abbrev sBadCountInit : Stmt := inClass (top 7) 0
abbrev sNoNodeInit : Stmt := inClass (top 9) 0
abbrev sWrongWidthInit : Stmt := inClass (top 11) 0
abbrev sBadParentInit : Stmt := inClass (top 15) 0
abbrev sBadPriceInit : Stmt := inClass (top 16) 0
structure Txt (P : Program) (w : World) (K : PySem.W.Frag) (mg : Str → Option Value) (base : Heap) (Ad1 Ad2 Ad3 Ad4 Ad5 Ad6 Ad7 Ad8 Ad9 Ad10 Ad11 : Addr) : Prop where
  b_len : mg "len" = none
  b_int : mg "int" = none
  b_tuple : mg "tuple" = none
  b_list : mg "list" = none
  b_range : mg "range" = none
  b_isinstance : mg "isinstance" = none
  b_bool : mg "bool" = none
  b_ValueError : mg "ValueError" = none
  b_enumerate : mg "enumerate" = none
  b_max : mg "max" = none
  b_sum : mg "sum" = none
  b_sorted : mg "sorted" = none
  b_str : mg "str" = none
  c_MOST_PRICE : ∃ t, mg "MOST_PRICE" = some (.int 31 t)
  c_LEAST_PRICE : ∃ t, mg "LEAST_PRICE" = some (.int 2 t)
  c_MOST_TREE_NODES : ∃ t, mg "MOST_TREE_NODES" = some (.int 60 t)
  rBadCount : Rs P w K mg base "BadCount" Ad2 (mk2 "what" "many" fun v => ∃ t : Str, v = .str t ∧ t.length ≤ 1000)
  rNoNode : Rs P w K mg base "NoNode" Ad4 (mk1 "node")
  rWrongWidth : Rs P w K mg base "WrongWidth" Ad6 (mk2 "have" "need" fun _ => True)
  rBadParent : Rs P w K mg base "BadParent" Ad9 (mk1 "at")
  rBadPrice : Rs P w K mg base "BadPrice" Ad10 (mk1 "at")
  m_Tree : MakAt K mg "Tree" Ad11 "Tree.__init__" sTreeInit ["self", "parents", "prices"]
  lTree : Cls K Ad11
  nTree_nodes : NoAttr K Ad11 "nodes"
  nTree_parents : NoAttr K Ad11 "parents"
  nTree_prices : NoAttr K Ad11 "prices"
  d_heights : DefAt K mg "heights" sHeights ["tree"]
  d_main_children : DefAt K mg "main_children" sMainChildren ["tree"]
  d_path_down : DefAt K mg "path_down" sPathDown ["main", "top", "second"]
  d_paths : DefAt K mg "paths" sPaths ["tree"]
  d_check_edges : DefAt K mg "check_edges" sCheckEdges ["parents", "prices"]
  d_Tree_children : MetAt K Ad11 "children" "Tree.children" sTreeChildren ["self", "node"]
  d_Tree___eq__ : MetAt K Ad11 "__eq__" "Tree.__eq__" sTreeEq ["self", "other"]
  d__law_pool : DefAt K mg "_law_pool" sLPool ["script"]
  d__law_draw : DefAt K mg "_law_draw" sLDraw ["pool", "size"]
  d__law_same : DefAt K mg "_law_same" sLSame ["told", "due"]
  d__law_truth : DefAt K mg "_law_truth" sLTruth ["told", "due"]
  d__law_fault : DefAt K mg "_law_fault" sLFault ["e"]
  d__law_raised : DefAt K mg "_law_raised" sLRaised ["deed", "one", "two"]
  d__law_due : DefAt K mg "_law_due" sLDue ["parents", "prices"]
  d__law_rows : DefAt K mg "_law_rows" sLRows ["pool"]
  d__law_children : DefAt K mg "_law_children" sLChildren ["parents", "node"]
  d__law_heights : DefAt K mg "_law_heights" sLHeights ["parents", "prices"]
  d__law_paths : DefAt K mg "_law_paths" sLPaths ["parents", "prices"]
  d__law_each_once : DefAt K mg "_law_each_once" sLEachOnce ["rows", "nodes"]
  d__law_is_tree : DefAt K mg "_law_is_tree" sLIsTree ["tree", "parents", "prices"]
  d__law_right : DefAt K mg "_law_right" sLRight ["tree", "parents", "prices"]
  d__law_equals : DefAt K mg "_law_equals" sLEquals ["pool", "tree", "parents", "prices"]
  d__law_refused : DefAt K mg "_law_refused" sLRefused ["pool", "parents", "prices"]
  d_law : DefAt K mg "law" sLaw ["script"]
  gPebbleError : mg "PebbleError" = some (.ref Ad1)
  gBadCount : mg "BadCount" = some (.ref Ad2)
  gNotPebbles : mg "NotPebbles" = some (.ref Ad3)
  gNoNode : mg "NoNode" = some (.ref Ad4)
  gUnlikeWidths : mg "UnlikeWidths" = some (.ref Ad5)
  gWrongWidth : mg "WrongWidth" = some (.ref Ad6)
  gBadNext : mg "BadNext" = some (.ref Ad7)
  gBadWeight : mg "BadWeight" = some (.ref Ad8)
  gBadParent : mg "BadParent" = some (.ref Ad9)
  gBadPrice : mg "BadPrice" = some (.ref Ad10)
  gTree : mg "Tree" = some (.ref Ad11)
  ek : ErrK K
  eBadCount : ErrC K Ad2
  fBadCount_what : PySem.W.findIn K (.ref Ad2) "what" = some none
  fBadCount_many : PySem.W.findIn K (.ref Ad2) "many" = some none
  xBadCount_PebbleError : PySem.W.exmOne K (.ref Ad2) (.ref Ad1) = some true
  tBadCount_BadCount : PySem.W.kitOne K (.ref Ad2) (.ref Ad2) = some true
  tBadCount_BadParent : PySem.W.kitOne K (.ref Ad2) (.ref Ad9) = some false
  tBadCount_BadPrice : PySem.W.kitOne K (.ref Ad2) (.ref Ad10) = some false
  tBadCount_NoNode : PySem.W.kitOne K (.ref Ad2) (.ref Ad4) = some false
  tBadCount_WrongWidth : PySem.W.kitOne K (.ref Ad2) (.ref Ad6) = some false
  tBadCount_BadNext : PySem.W.kitOne K (.ref Ad2) (.ref Ad7) = some false
  tBadCount_BadWeight : PySem.W.kitOne K (.ref Ad2) (.ref Ad8) = some false
  tBadCount_NotPebbles : PySem.W.kitOne K (.ref Ad2) (.ref Ad3) = some false
  tBadCount_UnlikeWidths : PySem.W.kitOne K (.ref Ad2) (.ref Ad5) = some false
  tBadCount_ValueError : PySem.W.kitOne K (.ref Ad2) (.type "ValueError") = some true
  eNoNode : ErrC K Ad4
  fNoNode_node : PySem.W.findIn K (.ref Ad4) "node" = some none
  xNoNode_PebbleError : PySem.W.exmOne K (.ref Ad4) (.ref Ad1) = some true
  tNoNode_BadCount : PySem.W.kitOne K (.ref Ad4) (.ref Ad2) = some false
  tNoNode_BadParent : PySem.W.kitOne K (.ref Ad4) (.ref Ad9) = some false
  tNoNode_BadPrice : PySem.W.kitOne K (.ref Ad4) (.ref Ad10) = some false
  tNoNode_NoNode : PySem.W.kitOne K (.ref Ad4) (.ref Ad4) = some true
  tNoNode_WrongWidth : PySem.W.kitOne K (.ref Ad4) (.ref Ad6) = some false
  tNoNode_BadNext : PySem.W.kitOne K (.ref Ad4) (.ref Ad7) = some false
  tNoNode_BadWeight : PySem.W.kitOne K (.ref Ad4) (.ref Ad8) = some false
  tNoNode_NotPebbles : PySem.W.kitOne K (.ref Ad4) (.ref Ad3) = some false
  tNoNode_UnlikeWidths : PySem.W.kitOne K (.ref Ad4) (.ref Ad5) = some false
  tNoNode_ValueError : PySem.W.kitOne K (.ref Ad4) (.type "ValueError") = some true
  eWrongWidth : ErrC K Ad6
  fWrongWidth_have : PySem.W.findIn K (.ref Ad6) "have" = some none
  fWrongWidth_need : PySem.W.findIn K (.ref Ad6) "need" = some none
  xWrongWidth_PebbleError : PySem.W.exmOne K (.ref Ad6) (.ref Ad1) = some true
  tWrongWidth_BadCount : PySem.W.kitOne K (.ref Ad6) (.ref Ad2) = some false
  tWrongWidth_BadParent : PySem.W.kitOne K (.ref Ad6) (.ref Ad9) = some false
  tWrongWidth_BadPrice : PySem.W.kitOne K (.ref Ad6) (.ref Ad10) = some false
  tWrongWidth_NoNode : PySem.W.kitOne K (.ref Ad6) (.ref Ad4) = some false
  tWrongWidth_WrongWidth : PySem.W.kitOne K (.ref Ad6) (.ref Ad6) = some true
  tWrongWidth_BadNext : PySem.W.kitOne K (.ref Ad6) (.ref Ad7) = some false
  tWrongWidth_BadWeight : PySem.W.kitOne K (.ref Ad6) (.ref Ad8) = some false
  tWrongWidth_NotPebbles : PySem.W.kitOne K (.ref Ad6) (.ref Ad3) = some false
  tWrongWidth_UnlikeWidths : PySem.W.kitOne K (.ref Ad6) (.ref Ad5) = some false
  tWrongWidth_ValueError : PySem.W.kitOne K (.ref Ad6) (.type "ValueError") = some true
  eBadParent : ErrC K Ad9
  fBadParent_at : PySem.W.findIn K (.ref Ad9) "at" = some none
  xBadParent_PebbleError : PySem.W.exmOne K (.ref Ad9) (.ref Ad1) = some true
  tBadParent_BadCount : PySem.W.kitOne K (.ref Ad9) (.ref Ad2) = some false
  tBadParent_BadParent : PySem.W.kitOne K (.ref Ad9) (.ref Ad9) = some true
  tBadParent_BadPrice : PySem.W.kitOne K (.ref Ad9) (.ref Ad10) = some false
  tBadParent_NoNode : PySem.W.kitOne K (.ref Ad9) (.ref Ad4) = some false
  tBadParent_WrongWidth : PySem.W.kitOne K (.ref Ad9) (.ref Ad6) = some false
  tBadParent_BadNext : PySem.W.kitOne K (.ref Ad9) (.ref Ad7) = some false
  tBadParent_BadWeight : PySem.W.kitOne K (.ref Ad9) (.ref Ad8) = some false
  tBadParent_NotPebbles : PySem.W.kitOne K (.ref Ad9) (.ref Ad3) = some false
  tBadParent_UnlikeWidths : PySem.W.kitOne K (.ref Ad9) (.ref Ad5) = some false
  tBadParent_ValueError : PySem.W.kitOne K (.ref Ad9) (.type "ValueError") = some true
  eBadPrice : ErrC K Ad10
  fBadPrice_at : PySem.W.findIn K (.ref Ad10) "at" = some none
  xBadPrice_PebbleError : PySem.W.exmOne K (.ref Ad10) (.ref Ad1) = some true
  tBadPrice_BadCount : PySem.W.kitOne K (.ref Ad10) (.ref Ad2) = some false
  tBadPrice_BadParent : PySem.W.kitOne K (.ref Ad10) (.ref Ad9) = some false
  tBadPrice_BadPrice : PySem.W.kitOne K (.ref Ad10) (.ref Ad10) = some true
  tBadPrice_NoNode : PySem.W.kitOne K (.ref Ad10) (.ref Ad4) = some false
  tBadPrice_WrongWidth : PySem.W.kitOne K (.ref Ad10) (.ref Ad6) = some false
  tBadPrice_BadNext : PySem.W.kitOne K (.ref Ad10) (.ref Ad7) = some false
  tBadPrice_BadWeight : PySem.W.kitOne K (.ref Ad10) (.ref Ad8) = some false
  tBadPrice_NotPebbles : PySem.W.kitOne K (.ref Ad10) (.ref Ad3) = some false
  tBadPrice_UnlikeWidths : PySem.W.kitOne K (.ref Ad10) (.ref Ad5) = some false
  tBadPrice_ValueError : PySem.W.kitOne K (.ref Ad10) (.type "ValueError") = some true
  yTree : PySem.W.typeIn K (.ref Ad11) = some (.type "type")
  iTree : SlX.SIsi K Ad11
  sTree_NoneType : PySem.W.subIn K (.type "NoneType") (.ref Ad11) = some false
  sTree_int : PySem.W.subIn K (.type "int") (.ref Ad11) = some false
  sTree_tuple : PySem.W.subIn K (.type "tuple") (.ref Ad11) = some false
  sTree_list : PySem.W.subIn K (.type "list") (.ref Ad11) = some false
  sTree_str : PySem.W.subIn K (.type "str") (.ref Ad11) = some false
end K11
set_option maxRecDepth 100000
set_option maxHeartbeats 4000000
set_option exponentiation.threshold 20000
namespace K11
open PySem L2 SI
/-- all but the object at W stays -/
def But (W : Addr) (H H' : Hp) : Prop := ∀ b o, b ≠ W → H b = some o → H' b = some o
theorem But.trans {W : Addr} {H H' H'' : Hp} (s : But W H H') (s' : But W H' H'') : But W H H'' := fun b o n e => s' b o n (s b o n e)
theorem But.of {W : Addr} {H H' : Hp} (s : Same H H') : But W H H' := fun b o _ e => s b o e
theorem But.upd {W : Addr} {H : Hp} {o : HO} : But W H (L2.upd H W o) := fun b u n e => by rw [upd_ne n]; exact e
theorem cdiv_small {n : Int} (h0 : 0 < n) (h1 : n ≤ 10 ^ 130) : CDivW 0 n := ⟨h0, by
  have e : n.natAbs < 2 ^ 500 := by
    have : (10 : Int) ^ 130 < 2 ^ 500 := by decide +kernel
    omega
  exact Nat.lt_of_lt_of_le (PySem.Flt.log2_lt_of (by decide) e) (by decide)⟩
theorem cmul_small {i j : Int} (h0 : i.natAbs < 2 ^ 10000) (h1 : j.natAbs < 2 ^ 10000) : CMulW i j := wide_mul h0 h1 (by decide) (by decide) (by decide)
theorem abs_small {n : Int} (h0 : -(10 ^ 200) ≤ n) (h1 : n ≤ 10 ^ 200) : n.natAbs < 2 ^ 10000 := by
  have h : (10 : Int) ^ 200 < 2 ^ 700 := by decide +kernel
  have h2 : (2 : Nat) ^ 700 ≤ 2 ^ 10000 := Nat.pow_le_pow_right (by decide) (by decide)
  refine Nat.lt_of_lt_of_le ?_ h2
  omega
/-- the pool of the law's draws; b more and it is still small -/
def PoolB (H : Hp) (p : Addr) (b : Nat) : Prop := ∃ (z : Int) (ns : List Int), H p = some (.lst ((z :: ns).map V.int)) ∧ 0 ≤ z ∧ z ≤ 1000003 + b ∧ ns.length ≤ 64
@[irreducible] def spDraw : Sp := fun vs H Q _ => ∃ (p : Addr) (n : Int) (b : Nat), vs = [.ref p, .int n] ∧ PoolB H p b ∧ b ≤ 10 ^ 100 ∧ CDivW 0 n ∧ ∀ d H', But p H H' → PoolB H' p (b + 1) → 0 ≤ d → d < n → Q (.int d) H'
theorem draw_of {H : Hp} {p : Addr} {n : Int} {b : Nat} {Q : VK} {E : XK} (hp : PoolB H p b) (hb : b ≤ 10 ^ 100) (h0 : 0 < n) (h1 : n ≤ 10 ^ 130) (k : ∀ d H', But p H H' → PoolB H' p (b + 1) → 0 ≤ d → d < n → Q (.int d) H') : spDraw [.ref p, .int n] H Q E := by
  unfold spDraw
  exact ⟨p, n, b, rfl, hp, hb, cdiv_small h0 h1, k⟩
section
variable {P : Program} {w : World} {K : PySem.W.Frag} {mg : Str → Option Value} {base : Heap} {Ad1 Ad2 Ad3 Ad4 Ad5 Ad6 Ad7 Ad8 Ad9 Ad10 Ad11 : Addr}
theorem scLDraw : FnScope ["pool", "size", "cell", "rest"] ["pool", "size"] (defScope sLDraw) := ⟨rfl, rfl, rfl, by decide +kernel, rfl, by decide +kernel, by decide +kernel⟩
theorem ok_LDraw (T : Txt P w K mg base Ad1 Ad2 Ad3 Ad4 Ad5 Ad6 Ad7 Ad8 Ad9 Ad10 Ad11) : Cl P w K mg base 1 "_law_draw" spDraw [] := by
  refine cl_of T.d__law_draw scLDraw (fun vs H Q E h => ?_) fun f cdv A outer s H vs Q E hr h => ?_
  · unfold spDraw at h
    obtain ⟨p, n, b, rfl, _⟩ := h
    rfl
  · unfold spDraw at h
    obtain ⟨p, n, b, rfl, ⟨z, ns, hp, z0, z1, hl⟩, hb, hn, k⟩ := h
    refine ⟨_, (C8.pss_cut (ps_if (pt_cmpR op_eq (pe_callB call_len_seq (by rfl) T.b_len (by decide +kernel) (pa_cons (pv 0) pa_nil)) pe_int (nomark _))
    (pss_cons (ps_asg (pe_op op_add (pe_ix ix_list (pv 0) pe_int (fun _ _ => rfl)) pe_int) (pg_sub (pv 0) pe_int set_list))
    (pss_one (ps_expr (pe_bm PySem.F.plainAttrs_list PySem.F.slot_list_append PySem.F.type_list_append mt_append (pv 0) (pa_cons (pe_op op_mulW (pe_op op_pow pe_int pe_int) (pe_op op_add (pe_op op_pow pe_int pe_int) (pe_ix ix_list (pv 0) pe_int (fun _ _ => rfl)))) pa_nil)))))
    pss_nil)
  (pss_cons (ps_set (i := 2) scLDraw.nd rfl (by first | exact Or.inl rfl | exact Or.inr rfl) (pe_bm0 PySem.F.plainAttrs_list PySem.F.slot_list_pop PySem.F.type_list_pop mt_pop (pv 0)))
  (pss_cons (ps_set (i := 3) scLDraw.nd rfl (by first | exact Or.inl rfl | exact Or.inr rfl) (pe_op op_fdivW (pv 2) (pv 1)))
  (C8.pss_cut (ps_if (PW.pt (pw_or (pt_cmpR op_gt (pv 3) pe_int (nomark _)) (pw_or1 (pt_cmpR op_lt (pv 3) (pe_un un_neg pe_int) (nomark _)))))
    (pss_one (ps_expr (pe_bm PySem.F.plainAttrs_list PySem.F.slot_list_append PySem.F.type_list_append mt_append (pv 0) (pa_cons (pv 3) pa_nil))))
    pss_nil)
  (pss_one (ps_ret (pe_op op_mod (pe_callTy call_intI (by rfl) T.b_int (by decide +kernel) (pa_cons (pv 2) pa_nil)) (pv 1)))))))), ?_⟩
    have hn0 : 0 < n := hn.1
    refine ⟨fun σ' H' => ∃ (z' : Int) (ms : List Int) (y : Int), σ' = [some (.ref p), some (.int n), none, none] ∧ But p H H' ∧ H' p = some (.lst ((z' :: (ms ++ [y])).map V.int)) ∧ 0 ≤ z' ∧ z' ≤ 1000003 + (b + 1 : Nat) ∧ ms.length ≤ 63, ?_, ?_⟩
    · refine ⟨_, rfl, p, _, rfl, .inl (SqL.of hp), rfl, _, rfl, ?_⟩
      cases ns with
      | nil =>
        refine iteT ?_
        refine ⟨_, rfl, p, _, _, _, rfl, rfl, SqL.of hp, atI0, _, _, rfl, rfl, _, rfl, p, _, _, 0, rfl, rfl, hp, rfl, ?_⟩
        refine ⟨_, rfl, .inl ⟨rfl, _, SqL.of upd_same⟩, _, _, rfl, rfl, ⟨by decide, by decide, by decide⟩, _, _, rfl, rfl, ⟨by decide, by decide, by decide⟩, _, rfl, p, _, _, _, rfl, rfl, SqL.of upd_same, atI0, _, _, rfl, rfl, _, _, rfl, rfl, ?_, p, _, _, rfl, rfl, upd_same, by show 1 < sizeLine; decide, ?_⟩
        · refine cmul_small (abs_small (by decide +kernel) (by decide +kernel)) (abs_small ?_ ?_)
          · have : (0 : Int) ≤ 41 ^ Int.toNat 38 := by decide +kernel
            omega
          · have : (41 : Int) ^ Int.toNat 38 ≤ 10 ^ 190 := by decide +kernel
            omega
        · refine ⟨z + 1, [], 37 ^ Int.toNat 40 * (41 ^ Int.toNat 38 + (z + 1)), rfl, But.upd.trans But.upd, by rw [upd_same]; rfl, by omega, by omega, by decide⟩
      | cons y r =>
        refine ifI (fun c => absurd c (by simp only [List.length_map, List.length_cons]; omega)) fun _ => ?_
        have e := List.dropLast_concat_getLast (l := y :: r) (by simp)
        refine ⟨z, (y :: r).dropLast, (y :: r).getLast (by simp), rfl, fun b o _ e => e, by rw [e]; exact hp, z0, by omega, by rw [List.length_dropLast]; omega⟩
    rintro _ H1 ⟨z', ms, y, rfl, b1, hp1, z0', z1', hms⟩
    refine ⟨_, rfl, .inl ⟨rfl, _, SqL.of hp1⟩, p, _, .int y, rfl, rfl, hp1, ?_, ?_⟩
    · rw [List.map_cons, List.map_append, List.length_cons, List.length_append, List.length_map]
      simp
    have ed : ((z' :: (ms ++ [y])).map V.int).dropLast = (z' :: ms).map V.int := by
      rw [← List.map_dropLast]
      congr 1
      rw [← List.cons_append, List.dropLast_concat]
    rw [ed]
    have hp2 : upd H1 p (.lst ((z' :: ms).map V.int)) p = some (.lst ((z' :: ms).map V.int)) := upd_same
    have b2 : But p H (upd H1 p (.lst ((z' :: ms).map V.int))) := b1.trans But.upd
    generalize upd H1 p (.lst ((z' :: ms).map V.int)) = H2 at hp2 b2 ⊢
    refine ⟨_, rfl, _, rfl, _, _, rfl, rfl, hn, ?_⟩
    refine ⟨fun σ' H' => ∃ ks : List Int, σ' = [some (.ref p), some (.int n), some (.int y), some (.int (y / n))] ∧ But p H H' ∧ H' p = some (.lst ((z' :: ks).map V.int)) ∧ ks.length ≤ 64, ?_, ?_⟩
    · have app : ∃ ks : List Int, [some (V.ref p), some (.int n), some (.int y), some (.int (y / n))] = [some (.ref p), some (.int n), some (.int y), some (.int (y / n))] ∧ But p H (upd H2 p (.lst ((z' :: ms).map V.int ++ [.int (y / n)]))) ∧ upd H2 p (.lst ((z' :: ms).map V.int ++ [.int (y / n)])) p = some (.lst ((z' :: ks).map V.int)) ∧ ks.length ≤ 64 :=
        ⟨ms ++ [y / n], rfl, b2.trans But.upd, by rw [upd_same, ← List.cons_append, List.map_append] <;> rfl, by simp; omega⟩
      refine ⟨_, rfl, _, _, rfl, rfl, _, rfl, ifD (fun _ => ?_) fun _ => ?_⟩
      · exact ⟨_, rfl, .inl ⟨rfl, _, SqL.of hp2⟩, _, rfl, p, _, _, rfl, rfl, hp2, by simp only [List.length_map, List.length_cons]; exact sz_lt (by omega), app⟩
      · refine ⟨_, rfl, _, rfl, _, _, rfl, rfl, _, rfl, ifD (fun _ => ?_) fun _ => ?_⟩
        · exact ⟨_, rfl, .inl ⟨rfl, _, SqL.of hp2⟩, _, rfl, p, _, _, rfl, rfl, hp2, by simp only [List.length_map, List.length_cons]; exact sz_lt (by omega), app⟩
        · exact ⟨ms, rfl, b2, hp2, by omega⟩
    rintro _ H3 ⟨ks, rfl, b3, hp3, hks⟩
    refine ⟨_, rfl, _, rfl, _, rfl, _, _, rfl, rfl, hn0, ?_⟩
    exact k _ H3 b3 ⟨z', ks, hp3, z0', z1', hks⟩ (Int.emod_nonneg _ (by omega)) (Int.emod_lt_of_pos _ hn0)
end
end K11
set_option maxRecDepth 100000
set_option maxHeartbeats 4000000
namespace K11
open PySem L2 SI
/-- equal data of depth at most d -/
inductive Da (H : Hp) : Nat → V → V → Prop where
  | non (d : Nat) : Da H d .non .non
  | int (d : Nat) (i : Int) : Da H d (.int i) (.int i)
  | str (d : Nat) (s : Str) (h : SeqAt.shaped (.str s) = true) : Da H d (.str s) (.str s)
  | tup (d : Nat) (a b : Addr) (xs ys : List V) (ha : H a = some (.tup xs)) (hb : H b = some (.tup ys)) (hl : xs.length = ys.length) (hz : ys.length ≤ 100000) (h : ∀ (i : Nat) x y, xs[i]? = some x → ys[i]? = some y → Da H d x y) : Da H (d + 1) (.ref a) (.ref b)
@[irreducible] def spSame (d : Nat) : Sp := fun vs H Q _ => ∃ v u : V, vs = [v, u] ∧ Da H d v u ∧ Q (.bl true) H
theorem same_of {d : Nat} {H : Hp} {v u : V} {Q : VK} {E : XK} (h : Da H d v u) (k : Q (.bl true) H) : spSame d [v, u] H Q E := by
  unfold spSame
  exact ⟨v, u, rfl, h, k⟩
section
variable {P : Program} {w : World} {K : PySem.W.Frag} {mg : Str → Option Value} {base : Heap} {Ad1 Ad2 Ad3 Ad4 Ad5 Ad6 Ad7 Ad8 Ad9 Ad10 Ad11 : Addr}
theorem kNt : PySem.W.kitOne K (.type "NoneType") (.type "tuple") = some false := kit_ty (by decide +kernel)
theorem kit_t : PySem.W.kitOne K (.type "int") (.type "tuple") = some false := kit_ty (by decide +kernel)
theorem kst : PySem.W.kitOne K (.type "str") (.type "tuple") = some false := kit_ty (by decide +kernel)
theorem ktt : PySem.W.kitOne K (.type "tuple") (.type "tuple") = some true := kit_ty (by decide +kernel)
theorem kis : PySem.W.kitOne K (.type "int") (.type "str") = some false := kit_ty (by decide +kernel)
theorem kss : PySem.W.kitOne K (.type "str") (.type "str") = some true := kit_ty (by decide +kernel)
theorem kii : PySem.W.kitOne K (.type "int") (.type "int") = some true := kit_ty (by decide +kernel)
theorem kib : PySem.W.kitOne K (.type "int") (.type "bool") = some false := kit_ty (by decide +kernel)
theorem kbb : PySem.W.kitOne K (.type "bool") (.type "bool") = some true := kit_ty (by decide +kernel)
theorem no_same (T : Txt P w K mg base Ad1 Ad2 Ad3 Ad4 Ad5 Ad6 Ad7 Ad8 Ad9 Ad10 Ad11) : Cl P w K mg base 0 "_law_same" (fun _ _ _ _ => False) [] := by
  obtain ⟨f, fd, F, hm, b⟩ := T.d__law_same.ex
  exact ⟨f, fd, _, [], ⟨fun vs H Q E h => h.elim, fun A outer s H args us vs Q E hr h1 h2 h3 h => h.elim⟩, hm, F.kp, b, .nil⟩
theorem scLSame : FnScope ["told", "due", "k"] ["told", "due"] (defScope sLSame) := ⟨rfl, rfl, rfl, by decide +kernel, rfl, by decide +kernel, by decide +kernel⟩
theorem step_same (T : Txt P w K mg base Ad1 Ad2 Ad3 Ad4 Ad5 Ad6 Ad7 Ad8 Ad9 Ad10 Ad11) {j d : Nat} {sp' : Sp} (c_LSame : Cl P w K mg base j "_law_same" sp' []) (hs : ∀ {e : Nat} {H : Hp} {v u : V} {Q : VK} {E : XK}, e + 1 = d → Da H e v u → Q (.bl true) H → sp' [v, u] H Q E) : Cl P w K mg base (j + 1) "_law_same" (spSame d) [] := by
  refine cl_of T.d__law_same scLSame (fun vs H Q E h => ?_) fun f cdv A outer s H vs Q E hr h => ?_
  · unfold spSame at h
    obtain ⟨v, u, rfl, _⟩ := h
    rfl
  · unfold spSame at h
    obtain ⟨v, u, rfl, hd, k⟩ := h
    refine ⟨_, (pss_cons (ps_if (pt_val (pe_callB call_isi (by rfl) T.b_isinstance (by decide +kernel) (pa_cons (pv 1) (pa_cons (pe_bltn (v := .ty "tuple") (u := .type "tuple") (by rfl) T.b_tuple (by decide +kernel) rfl) pa_nil))))
    (pss_cons (ps_if (PW.pt (pw_or (pt_not (pt_val (pe_callB call_isi (by rfl) T.b_isinstance (by decide +kernel) (pa_cons (pv 0) (pa_cons (pe_bltn (v := .ty "tuple") (u := .type "tuple") (by rfl) T.b_tuple (by decide +kernel) rfl) pa_nil))))) (pw_or1 (pt_cmpR op_ne (pe_callB call_len_seq (by rfl) T.b_len (by decide +kernel) (pa_cons (pv 0) pa_nil)) (pe_callB call_len_seq (by rfl) T.b_len (by decide +kernel) (pa_cons (pv 1) pa_nil)) (nomark _)))))
      (pss_one (ps_ret pe_bl))
      pss_nil)
    (pss_cons (ps_for (passes_of rfl) rfl (pi_range1 (by rfl) T.b_range (pa_cons (pe_callB call_len_seq (by rfl) T.b_len (by decide +kernel) (pa_cons (pv 1) pa_nil)) pa_nil)) (pg_name (i := 2) scLSame.nd rfl (by first | exact Or.inl rfl | exact Or.inr rfl))
      (pss_one (ps_if (pt_not (pt_val (pe_c c_LSame hr (Nat.le_refl _) rfl (pa_cons (pe_ix ix_tup (pv 0) (pv 2) (fun _ _ => rfl)) (pa_cons (pe_ix ix_tup (pv 1) (pv 2) (fun _ _ => rfl)) pa_nil)))))
        (pss_one (ps_ret pe_bl))
        pss_nil)))
    (pss_one (ps_ret pe_bl))))
    pss_nil)
  (pss_cons (ps_if (pt_cmpR op_isN (pv 1) pe_non (nomark _))
    (pss_one (ps_ret (pe_cmpR op_isN (pv 0) pe_non (nomark _))))
    pss_nil)
  (pss_cons (ps_if (pt_val (pe_callB call_isi (by rfl) T.b_isinstance (by decide +kernel) (pa_cons (pv 1) (pa_cons (pe_bltn (v := .ty "str") (u := .type "str") (by rfl) T.b_str (by decide +kernel) rfl) pa_nil))))
    (pss_one (ps_ret (pe_and (pe_callB call_isi (by rfl) T.b_isinstance (by decide +kernel) (pa_cons (pv 0) (pa_cons (pe_bltn (v := .ty "str") (u := .type "str") (by rfl) T.b_str (by decide +kernel) rfl) pa_nil))) (pe_one (pe_cmpR (op_eqD hr.units) (pv 0) (pv 1) (nomark _))))))
    pss_nil)
  (pss_one (ps_ret (pe_and (pe_callB call_isi (by rfl) T.b_isinstance (by decide +kernel) (pa_cons (pv 0) (pa_cons (pe_bltn (v := .ty "int") (u := .type "int") (by rfl) T.b_int (by decide +kernel) rfl) pa_nil))) (pe_and (pe_not (pe_callB call_isi (by rfl) T.b_isinstance (by decide +kernel) (pa_cons (pv 0) (pa_cons (pe_bltn (v := .ty "bool") (u := .type "bool") (by rfl) T.b_bool (by decide +kernel) rfl) pa_nil)))) (pe_one (pe_cmpR (op_eqD hr.units) (pv 0) (pv 1) (nomark _)))))))))), ?_⟩
    cases hd with
    | non =>
      refine ⟨_, rfl, _, _, _, _, _, rfl, .ty "tuple", .base .non, kNt, _, rfl, iteF ?_⟩
      refine ⟨_, rfl, rfl, _, rfl, ifD (fun _ => ?_) fun z => absurd rfl z⟩
      refine ⟨_, rfl, rfl, ?_⟩
      rw [decide_eq_true rfl]
      exact k
    | int _ i =>
      refine ⟨_, rfl, _, _, _, _, _, rfl, .ty "tuple", .base (.int _), kit_t, _, rfl, iteF ?_⟩
      refine ⟨_, rfl, rfl, _, rfl, ifD (fun z => by cases z) fun _ => ?_⟩
      refine ⟨_, rfl, _, _, _, _, _, rfl, .ty "str", .base (.int _), kis, _, rfl, iteF ?_⟩
      refine ⟨_, rfl, _, _, _, _, _, rfl, .ty "int", .base (.int _), kii, _, rfl, iteT ?_⟩
      refine ⟨_, rfl, _, _, _, _, _, rfl, .ty "bool", .base (.int _), kib, _, rfl, _, rfl, iteT ?_⟩
      refine ⟨_, rfl, _, rfl, .int i, .int i, .int _, .int _, rfl, rfl, ?_⟩
      rw [show PyData.eqv (.int i) (.int i) = true by show (i == i) = true; simp]
      exact k
    | str _ s0 hsh =>
      refine ⟨_, rfl, _, _, _, _, _, rfl, .ty "tuple", .base (.str _), kst, _, rfl, iteF ?_⟩
      refine ⟨_, rfl, rfl, _, rfl, ifD (fun z => by cases z) fun _ => ?_⟩
      refine ⟨_, rfl, _, _, _, _, _, rfl, .ty "str", .base (.str _), kss, _, rfl, iteT ?_⟩
      refine ⟨_, rfl, _, _, _, _, _, rfl, .ty "str", .base (.str _), kss, _, rfl, iteT ?_⟩
      refine ⟨_, rfl, _, rfl, .str s0, .str s0, .str _, .str _, hsh, hsh, ?_⟩
      rw [show PyData.eqv (.str s0) (.str s0) = true by show (s0 == s0) = true; simp]
      exact k
    | tup e a b xs ys ha hb hl hz hx =>
      refine ⟨_, rfl, _, _, _, _, _, rfl, .ty "tuple", .base (.tup hb), ktt, _, rfl, iteT ?_⟩
      refine ⟨_, rfl, _, _, _, _, _, rfl, .ty "tuple", .base (.tup ha), ktt, _, rfl, iteF ?_⟩
      refine ⟨_, rfl, a, _, rfl, .inr (SqT.of ha), _, rfl, b, _, rfl, .inr (SqT.of hb), rfl, _, rfl, ifIN (fun c => absurd (by rw [hl]) c) fun _ => ?_⟩
      refine ⟨_, rfl, b, _, rfl, .inr (SqT.of hb), _, rfl, by omega, by omega, ?_⟩
      rw [Int.toNat_natCast]
      refine for_range (lo := 0) (n := ys.length) (fun i σ H' => ∃ v2 : Option V, σ = [some (.ref a), some (.ref b), v2] ∧ H' = H)
        ⟨none, rfl, rfl⟩ (fun i σ H' hi h => ?_) fun σ H' h => ?_
      · obtain ⟨v2, rfl, rfl⟩ := h
        obtain ⟨y, hy⟩ : ∃ y, ys[i]? = some y := ⟨_, List.getElem?_eq_getElem hi⟩
        obtain ⟨x, hxx⟩ : ∃ x, xs[i]? = some x := ⟨_, List.getElem?_eq_getElem (by rw [hl]; exact hi)⟩
        rw [Int.zero_add]
        refine ⟨_, rfl, _, rfl, a, _, _, _, rfl, rfl, SqT.of ha, atI_nat hxx, _, rfl, _, rfl, b, _, _, _, rfl, rfl, SqT.of hb, atI_nat hy, ?_⟩
        exact hs rfl (hx i x y hxx hy) ⟨_, rfl, ifF rfl ⟨_, rfl, rfl⟩⟩
      · obtain ⟨v2, rfl, rfl⟩ := h
        exact k
theorem ok_LSame (T : Txt P w K mg base Ad1 Ad2 Ad3 Ad4 Ad5 Ad6 Ad7 Ad8 Ad9 Ad10 Ad11) : ∀ d, Cl P w K mg base (d + 1) "_law_same" (spSame d) []
  | 0 => step_same T (no_same T) fun h => by omega
  | d + 1 => step_same T (ok_LSame T d) fun h hd k => by
    obtain rfl := Nat.succ.inj h
    exact same_of hd k
theorem scLTruth : FnScope ["told", "due"] ["told", "due"] (defScope sLTruth) := ⟨rfl, rfl, rfl, by decide +kernel, rfl, by decide +kernel, by decide +kernel⟩
def spTruth : Sp := fun vs H Q _ => ∃ b : Bool, vs = [.bl b, .bl b] ∧ Q (.bl true) H
theorem ok_LTruth (T : Txt P w K mg base Ad1 Ad2 Ad3 Ad4 Ad5 Ad6 Ad7 Ad8 Ad9 Ad10 Ad11) : Cl P w K mg base 1 "_law_truth" spTruth [] := by
  refine cl_of T.d__law_truth scLTruth (fun vs H Q E h => ?_) fun f cdv A outer s H vs Q E hr h => ?_
  · obtain ⟨b, rfl, _⟩ := h
    rfl
  · obtain ⟨b, rfl, k⟩ := h
    refine ⟨_, (pss_one (ps_ret (pe_and (pe_callB call_isi (by rfl) T.b_isinstance (by decide +kernel) (pa_cons (pv 0) (pa_cons (pe_bltn (v := .ty "bool") (u := .type "bool") (by rfl) T.b_bool (by decide +kernel) rfl) pa_nil))) (pe_one (pe_cmpR op_eq (pv 0) (pv 1) (nomark _)))))), ?_⟩
    refine ⟨_, rfl, _, _, _, _, _, rfl, .ty "bool", .base (.bl _), kbb, _, rfl, iteT ?_⟩
    refine ⟨_, rfl, _, rfl, rfl, ?_⟩
    rw [decide_eq_true rfl]
    exact k
end
end K11
set_option maxRecDepth 100000
set_option maxHeartbeats 4000000
namespace K11
open PySem L2 SI
local macro_rules | `(tactic| walk_at "lk") => `(tactic| first | exact lk_hit | exact lk_nil | (refine lk_next (by decide +kernel) ?_; walk_at "lk"))
def okE (i : Nat) (p q : Int) : Prop := 0 ≤ p ∧ p ≤ i ∧ 2 ≤ q ∧ q ≤ 31
def okTo (ps qs : List Int) (n : Nat) : Prop := ∀ (i : Nat) p q, i < n → ps[i]? = some p → qs[i]? = some q → okE i p q
/-- the first wrong edge: its parent, or its price -/
def badPar (ps qs : List Int) (i : Nat) : Prop := okTo ps qs i ∧ ∃ p, ps[i]? = some p ∧ (p < 0 ∨ (i : Int) < p)
def badPri (ps qs : List Int) (i : Nat) : Prop := okTo ps qs i ∧ (∃ p, ps[i]? = some p ∧ 0 ≤ p ∧ p ≤ i) ∧ ∃ q, qs[i]? = some q ∧ (q < 2 ∨ 31 < q)
def spEdges (K : PySem.W.Frag) (CP CQ : Addr) : Sp := fun vs H Q E => ∃ (a b : Addr) (ps qs : List Int), vs = [.ref a, .ref b] ∧ SqT K H a (ps.map V.int) ∧ SqT K H b (qs.map V.int) ∧ qs.length = ps.length ∧
  (okTo ps qs ps.length → ∀ H', Same H H' → Q .non H') ∧
  (∀ i, badPar ps qs i → ∀ d H', Same H H' → H' d = none → E (.ref CP) (some d) (upd H' d (.xd [("at", .int (i : Nat))]))) ∧
  (∀ i, badPri ps qs i → ∀ d H', Same H H' → H' d = none → E (.ref CQ) (some d) (upd H' d (.xd [("at", .int (i : Nat))])))
section
variable {P : Program} {w : World} {K : PySem.W.Frag} {mg : Str → Option Value} {base : Heap} {Ad1 Ad2 Ad3 Ad4 Ad5 Ad6 Ad7 Ad8 Ad9 Ad10 Ad11 : Addr}
theorem scCheckEdges : FnScope ["parents", "prices", "at", "parent"] ["parents", "prices"] (defScope sCheckEdges) := ⟨rfl, rfl, rfl, by decide +kernel, rfl, by decide +kernel, by decide +kernel⟩
theorem ok_CheckEdges (T : Txt P w K mg base Ad1 Ad2 Ad3 Ad4 Ad5 Ad6 Ad7 Ad8 Ad9 Ad10 Ad11) : Cl P w K mg base 3 "check_edges" (spEdges K Ad9 Ad10) [] := by
  refine cl_of T.d_check_edges scCheckEdges (fun vs H Q E h => ?_) fun f cdv A outer s H vs Q E hr h => ?_
  · obtain ⟨a, b, ps, qs, rfl, _⟩ := h
    rfl
  · obtain ⟨a, b, ps, qs, rfl, ha, hb, hl, k1, k2, k3⟩ := h
    refine ⟨_, (pss_one (ps_for (passes_of rfl) rfl (pi_enumT (by rfl) T.b_enumerate (pa_cons (pv 0) pa_nil)) (pg_tup rfl (pgs_cons (pg_name (i := 2) scCheckEdges.nd rfl (by first | exact Or.inl rfl | exact Or.inr rfl)) (pgs_cons (pg_name (i := 3) scCheckEdges.nd rfl (by first | exact Or.inl rfl | exact Or.inr rfl)) pgs_nil)))
    (pss_cons (ps_if (PW.pt (pw_or (pt_cmpR op_lt (pv 3) pe_int (nomark _)) (pw_or1 (pt_cmpR op_gt (pv 3) (pv 2) (nomark _)))))
      (pss_one (ps_raise rfl (takes_of rfl rfl rfl rfl) (pmk_rs T.rBadParent hr (by decide) rfl (pa_cons (pv 2) pa_nil))))
      pss_nil)
    (pss_one (ps_if (PW.pt (pw_or (pt_cmpR op_lt (pe_ix ix_tup (pv 1) (pv 2) (fun _ _ => rfl)) (pe_const rfl T.c_LEAST_PRICE) (nomark _)) (pw_or1 (pt_cmpR op_gt (pe_ix ix_tup (pv 1) (pv 2) (fun _ _ => rfl)) (pe_const rfl T.c_MOST_PRICE) (nomark _)))))
      (pss_one (ps_raise rfl (takes_of rfl rfl rfl rfl) (pmk_rs T.rBadPrice hr (by decide) rfl (pa_cons (pv 2) pa_nil))))
      pss_nil))))), ?_⟩
    refine ⟨_, rfl, a, _, rfl, ha, for_enumT (K := K) (a := a) (xs := ps.map V.int) (fun i σ H' => ∃ v1 v2 : Option V, σ = [some (.ref a), some (.ref b), v1, v2] ∧ Same H H' ∧ okTo ps qs i)
      ⟨none, none, rfl, Same.refl H, fun j p q hj => absurd hj (Nat.not_lt_zero _)⟩ (fun i σ H' h => by obtain ⟨_, _, _, sh, _⟩ := h; exact smT sh ha) (fun i x Tq σ H' hx h hT => ?_) fun σ H' h => ?_⟩
    · obtain ⟨v1, v2, rfl, sh, hok⟩ := h
      obtain ⟨p, hp, rfl⟩ := ints_at hx
      have hi : i < ps.length := (List.getElem?_eq_some_iff.mp hp).1
      obtain ⟨q, hq⟩ : ∃ q, qs[i]? = some q := ⟨_, List.getElem?_eq_getElem (by omega)⟩
      refine ⟨Tq, _, rfl, .inl (.inl upd_same), rfl, ?_⟩
      have st : Same H (upd H' Tq (.tup [.int (i : Nat), .int p])) := smN sh hT
      have hb2 := smT st hb
      refine ⟨_, _, rfl, _, _, rfl, rfl, _, rfl, _, _, rfl, rfl, _, rfl, ?_⟩
      refine ifD (fun c => ?_) fun c => ?_
      · exact ⟨_, rfl, _, ⟨_, rfl, rfl⟩, fun d hd => k2 i ⟨hok, p, hp, .inl c⟩ d _ st hd⟩
      refine ⟨_, rfl, _, rfl, _, _, rfl, rfl, _, rfl, ?_⟩
      refine ifD (fun c' => ?_) fun c' => ?_
      · exact ⟨_, rfl, _, ⟨_, rfl, rfl⟩, fun d hd => k2 i ⟨hok, p, hp, .inr c'⟩ d _ st hd⟩
      have okp : ∃ p, ps[i]? = some p ∧ 0 ≤ p ∧ p ≤ i := ⟨p, hp, by omega, by omega⟩
      refine ⟨_, rfl, _, rfl, b, _, _, _, rfl, rfl, hb2, atI_nat (at_ints hq), _, _, rfl, rfl, _, rfl, ?_⟩
      refine ifD (fun c2 => ?_) fun c2 => ?_
      · exact ⟨_, rfl, _, ⟨_, rfl, rfl⟩, fun d hd => k3 i ⟨hok, okp, q, hq, .inl c2⟩ d _ st hd⟩
      refine ⟨_, rfl, _, rfl, b, _, _, _, rfl, rfl, hb2, atI_nat (at_ints hq), _, _, rfl, rfl, _, rfl, ?_⟩
      refine ifD (fun c3 => ?_) fun c3 => ?_
      · exact ⟨_, rfl, _, ⟨_, rfl, rfl⟩, fun d hd => k3 i ⟨hok, okp, q, hq, .inr c3⟩ d _ st hd⟩
      refine ⟨_, _, rfl, st, fun j p' q' hj hp' hq' => ?_⟩
      by_cases e : j < i
      · exact hok j p' q' e hp' hq'
      · obtain rfl : j = i := by omega
        rw [hp] at hp'
        rw [hq] at hq'
        cases hp'
        cases hq'
        exact ⟨by omega, by omega, by omega, by omega⟩
    · obtain ⟨v1, v2, rfl, sh, hok⟩ := h
      rw [List.length_map] at hok
      exact k1 hok H' sh
/-- a tree at its address -/
def treeF (n : Int) (a b : Addr) : List (Str × V) := [("nodes", .int n), ("parents", .ref a), ("prices", .ref b)]
def TreeAt (C : Addr) (H : Hp) (t : Addr) (ps qs : List Int) : Prop := ∃ dx a b, H t = some (.ins C dx (treeF (ps.length + 1) a b)) ∧ H a = some (.tup (ps.map V.int)) ∧ H b = some (.tup (qs.map V.int))
def okT (ps qs : List Int) : Prop := ps.length ≤ 59 ∧ qs.length = ps.length ∧ okTo ps qs ps.length
/-- what Tree(parents, prices) raises -/
inductive BadT (Ad2 Ad6 Ad9 Ad10 : Addr) (ps qs : List Int) : Addr → List (Str × V) → Prop where
  | many (h : 59 < ps.length) : BadT Ad2 Ad6 Ad9 Ad10 ps qs Ad2 [("many", .int (ps.length + 1)), ("what", .str "nodes")]
  | width (h : ps.length ≤ 59) (h2 : qs.length ≠ ps.length) : BadT Ad2 Ad6 Ad9 Ad10 ps qs Ad6 [("need", .int (ps.length : Nat)), ("have", .int (qs.length : Nat))]
  | par (h : ps.length ≤ 59) (h2 : qs.length = ps.length) (i : Nat) (h3 : badPar ps qs i) : BadT Ad2 Ad6 Ad9 Ad10 ps qs Ad9 [("at", .int (i : Nat))]
  | pri (h : ps.length ≤ 59) (h2 : qs.length = ps.length) (i : Nat) (h3 : badPri ps qs i) : BadT Ad2 Ad6 Ad9 Ad10 ps qs Ad10 [("at", .int (i : Nat))]
abbrev RowR (K : PySem.W.Frag) (H : Hp) (a : Addr) (ps : List Int) : Prop := SqL K H a (ps.map V.int) ∨ H a = some (.tup (ps.map V.int))
def spTree (K : PySem.W.Frag) (Ad2 Ad6 Ad9 Ad10 C : Addr) : Sp := fun vs H Q E => ∃ (p dx a b : Addr) (ps qs : List Int), vs = [.ref p, .ref a, .ref b] ∧ H p = some (.ins C dx []) ∧ RowR K H a ps ∧ RowR K H b qs ∧
  (okT ps qs → ∀ H', (∀ b o, b ≠ p → H b = some o → H' b = some o) → TreeAt C H' p ps qs → Q .non H') ∧
  (∀ x fs, BadT Ad2 Ad6 Ad9 Ad10 ps qs x fs → ∀ d H', Same H H' → H' d = none → E (.ref x) (some d) (upd H' d (.xd fs)))
/-- tuple(row), whatever the row is -/
@[irreducible] def rTupR (K : PySem.W.Frag) : List V → Hp → VK → Prop := fun xs H Q => ∃ (p : Addr) (ys : List V), xs = [V.ref p] ∧ ((SqL K H p ys ∧ ∀ (l : Addr), H l = none → Q (V.ref l) (upd H l (HO.tup ys))) ∨ (SqT K H p ys ∧ Q (V.ref p) H))
theorem call_tupR {X : Cx} : CallR X (.type "tuple") (rTupR X.K) := by
  intro pins s σ H xs us Q I r h
  unfold rTupR at h
  exact call_tuple_of pins s σ H xs us Q I r h
theorem tup_of {K : PySem.W.Frag} {H : Hp} {a : Addr} {ps : List Int} {Q : VK} (h : RowR K H a ps) (k : ∀ q H', Same H H' → H' q = some (.tup (ps.map V.int)) → Q (.ref q) H') : rTupR K [V.ref a] H Q := by
  unfold rTupR
  rcases h with h | h
  · exact ⟨a, _, rfl, .inl ⟨h, fun l hl => k l _ (sm0 hl) upd_same⟩⟩
  · exact ⟨a, _, rfl, .inr ⟨SqT.of h, k a H (Same.refl H) h⟩⟩
theorem RowR.same {K : PySem.W.Frag} {H H' : Hp} {a : Addr} {ps : List Int} (s : Same H H') : RowR K H a ps → RowR K H' a ps
  | .inl h => .inl (s.seq h)
  | .inr h => .inr (s _ _ h)
theorem scTreeInit : FnScope ["self", "parents", "prices", "kept_parents", "kept_prices", "nodes"] ["self", "parents", "prices"] (defScope sTreeInit) := ⟨rfl, rfl, rfl, by decide +kernel, rfl, by decide +kernel, by decide +kernel⟩
theorem ok_Tree (T : Txt P w K mg base Ad1 Ad2 Ad3 Ad4 Ad5 Ad6 Ad7 Ad8 Ad9 Ad10 Ad11) : Mkd P w K mg base 4 "Tree" Ad11 "Tree.__init__" sTreeInit ["self", "parents", "prices"] (spTree K Ad2 Ad6 Ad9 Ad10 Ad11) := by
  have c_CheckEdges := ok_CheckEdges T
  refine mkd_of T.m_Tree scTreeInit (fun vs H Q E h => ?_) fun f cdv A outer s H vs Q E hr h => ?_
  · obtain ⟨p, dx, a, b, ps, qs, rfl, _⟩ := h
    rfl
  · obtain ⟨p, dx, a, b, ps, qs, rfl, hp, ha, hb, k1, k2⟩ := h
    refine ⟨_, (pss_cons (ps_set (i := 3) scTreeInit.nd rfl (by first | exact Or.inl rfl | exact Or.inr rfl) (pe_callTy call_tupR (by rfl) T.b_tuple (by decide +kernel) (pa_cons (pv 1) pa_nil)))
  (pss_cons (ps_set (i := 4) scTreeInit.nd rfl (by first | exact Or.inl rfl | exact Or.inr rfl) (pe_callTy call_tupR (by rfl) T.b_tuple (by decide +kernel) (pa_cons (pv 2) pa_nil)))
  (pss_cons (ps_set (i := 5) scTreeInit.nd rfl (by first | exact Or.inl rfl | exact Or.inr rfl) (pe_op op_add (pe_callB call_len_seq (by rfl) T.b_len (by decide +kernel) (pa_cons (pv 3) pa_nil)) pe_int))
  (pss_cons (ps_if (pt_cmpR op_gt (pv 5) (pe_const rfl T.c_MOST_TREE_NODES) (nomark _))
    (pss_one (ps_raise rfl (takes_of rfl rfl rfl rfl) (pmk_rs T.rBadCount hr (by decide) rfl (pa_cons pe_str (pa_cons (pv 5) pa_nil)))))
    pss_nil)
  (pss_cons (ps_if (pt_cmpR op_ne (pe_callB call_len_seq (by rfl) T.b_len (by decide +kernel) (pa_cons (pv 4) pa_nil)) (pe_callB call_len_seq (by rfl) T.b_len (by decide +kernel) (pa_cons (pv 3) pa_nil)) (nomark _))
    (pss_one (ps_raise rfl (takes_of rfl rfl rfl rfl) (pmk_rs T.rWrongWidth hr (by decide) rfl (pa_cons (pe_callB call_len_seq (by rfl) T.b_len (by decide +kernel) (pa_cons (pv 4) pa_nil)) (pa_cons (pe_callB call_len_seq (by rfl) T.b_len (by decide +kernel) (pa_cons (pv 3) pa_nil)) pa_nil)))))
    pss_nil)
  (pss_cons (ps_expr (pe_cX (takes_of rfl rfl rfl rfl) c_CheckEdges hr (by decide) rfl (pa_cons (pv 3) (pa_cons (pv 4) pa_nil))))
  (pss_cons (ps_fld (pv 0) (pv 5) rfl)
  (pss_cons (ps_fld (pv 0) (pv 3) rfl)
  (pss_one (ps_fld (pv 0) (pv 4) rfl)))))))))), ?_⟩
    refine ⟨_, rfl, tup_of ha fun q1 H1 s1 hq1 => ?_⟩
    refine ⟨_, rfl, tup_of (hb.same s1) fun q2 H2 s2 hq2 => ?_⟩
    have s02 := s1.trans s2
    have hq1' := s2 _ _ hq1
    refine ⟨_, rfl, q1, _, rfl, .inr (SqT.of hq1'), _, _, rfl, rfl, ?_⟩
    refine ⟨_, rfl, _, _, rfl, rfl, _, rfl, ?_⟩
    have elp : (((ps.map V.int).length : Nat) : Int) = (ps.length : Nat) := by rw [List.length_map]
    refine ifD (fun c => ?_) fun c => ?_
    · refine ⟨_, rfl, _, ⟨_, _, rfl, ⟨_, rfl, by decide +kernel⟩, rfl⟩, fun d hd => ?_⟩
      have c1 : (60 : Int) < ((ps.map V.int).length : Nat) + 1 := c
      rw [elp] at c1
      have := k2 _ _ (.many (by omega)) d H2 s02 hd
      rw [elp]
      exact this
    have c1 : ¬ (60 : Int) < ((ps.map V.int).length : Nat) + 1 := c
    rw [elp] at c1
    refine ⟨_, rfl, q2, _, rfl, .inr (SqT.of hq2), _, rfl, q1, _, rfl, .inr (SqT.of hq1'), rfl, _, rfl, ?_⟩
    refine ifIN (fun c2 => ?_) fun c2 => ?_
    · refine ⟨_, rfl, q2, _, rfl, .inr (SqT.of hq2), _, rfl, q1, _, rfl, .inr (SqT.of hq1'), _, ⟨_, _, rfl, trivial, rfl⟩, fun d hd => ?_⟩
      rw [List.length_map, List.length_map] at c2
      have := k2 _ _ (.width (by omega) (by omega)) d H2 s02 hd
      rw [List.length_map, List.length_map]
      exact this
    rw [List.length_map, List.length_map] at c2
    have c3 : qs.length = ps.length := by omega
    refine ⟨_, rfl, _, rfl, q1, q2, ps, qs, rfl, SqT.of hq1', SqT.of hq2, c3, fun hok H3 s3 => ?_, fun i hi d H3 s3 hd => k2 _ _ (.par (by omega) c3 i hi) d H3 (s02.trans s3) hd, fun i hi d H3 s3 hd => k2 _ _ (.pri (by omega) c3 i hi) d H3 (s02.trans s3) hd⟩
    have s03 := s02.trans s3
    have hp3 := s03 _ _ hp
    have n1 : q1 ≠ p := ne_of (s3 _ _ hq1') hp3 (by intro z; cases z)
    have n2 : q2 ≠ p := ne_of (s3 _ _ hq2) hp3 (by intro z; cases z)
    refine ⟨_, rfl, _, rfl, p, Ad11, dx, _, rfl, hp3, T.lTree, T.nTree_nodes, (by decide), ?_⟩
    refine ⟨_, rfl, _, rfl, p, Ad11, dx, _, rfl, upd_same, T.lTree, T.nTree_parents, (by show 1 < 1000; decide), ?_⟩
    refine ⟨_, rfl, _, rfl, p, Ad11, dx, _, rfl, upd_same, T.lTree, T.nTree_prices, (by show 2 < 1000; decide), ?_⟩
    rw [upd_upd, upd_upd]
    refine k1 ⟨by omega, c3, hok⟩ _ (fun b o nb e => ?_) ⟨dx, q1, q2, ?_, ?_, ?_⟩
    · rw [upd_ne nb]
      exact s03 _ _ e
    · rw [upd_same, List.length_map, putF_new (f := "nodes") (by walk_at "lk"), putF_new (f := "parents") (by walk_at "lk"), putF_new (f := "prices") (by walk_at "lk")]
      rfl
    · rw [upd_ne n1]; exact s3 _ _ hq1'
    · rw [upd_ne n2]; exact s3 _ _ hq2
end
end K11
set_option maxRecDepth 100000
set_option maxHeartbeats 4000000
namespace K11
open PySem L2 SI
local macro_rules | `(tactic| walk_at "lk") => `(tactic| first | exact lk_hit | exact lk_nil | (refine lk_next (by decide +kernel) ?_; walk_at "lk"))
/-- the children of v among the first i edges -/
def kids (ps : List Int) (v : Int) : Nat → List Int
  | 0 => []
  | i + 1 => kids ps v i ++ (if ps[i]? = some v then [((i : Nat) : Int) + 1] else [])
theorem kids_len (ps : List Int) (v : Int) : ∀ i, (kids ps v i).length ≤ i
  | 0 => Nat.le_refl _
  | i + 1 => by
    have := kids_len ps v i
    show (kids ps v i ++ _).length ≤ _
    rw [List.length_append]
    split <;> simp <;> omega
theorem TreeAt.same {C t : Addr} {H H' : Hp} {ps qs : List Int} (s : Same H H') (h : TreeAt C H t ps qs) : TreeAt C H' t ps qs := by
  obtain ⟨dx, a, b, h1, h2, h3⟩ := h
  exact ⟨dx, a, b, s _ _ h1, s _ _ h2, s _ _ h3⟩
def spChildren (CN C : Addr) : Sp := fun vs H Q E => ∃ (t : Addr) (ps qs : List Int) (v : Int), vs = [.ref t, .int v] ∧ TreeAt C H t ps qs ∧ ps.length ≤ 59 ∧
  (0 ≤ v → v < ps.length + 1 → ∀ q H', Same H H' → H' q = some (.tup ((kids ps v ps.length).map V.int)) → Q (.ref q) H') ∧
  ((v < 0 ∨ (ps.length : Int) + 1 ≤ v) → ∀ d, H d = none → E (.ref CN) (some d) (upd H d (.xd [("node", .int v)])))
section
variable {P : Program} {w : World} {K : PySem.W.Frag} {mg : Str → Option Value} {base : Heap} {Ad1 Ad2 Ad3 Ad4 Ad5 Ad6 Ad7 Ad8 Ad9 Ad10 Ad11 : Addr}
theorem scTreeChildren : FnScope ["self", "node", "at", "parent"] ["self", "node"] (defScope sTreeChildren) := ⟨rfl, rfl, rfl, by decide +kernel, rfl, by decide +kernel, by decide +kernel⟩
theorem ok_Children (T : Txt P w K mg base Ad1 Ad2 Ad3 Ad4 Ad5 Ad6 Ad7 Ad8 Ad9 Ad10 Ad11) : Mtd P w K mg base 3 Ad11 "children" "Tree.children" sTreeChildren ["self", "node"] (spChildren Ad4 Ad11) := by
  refine mtd_of T.d_Tree_children scTreeChildren (fun vs H Q E h => ?_) fun f cdv A outer s H vs Q E hr h => ?_
  · obtain ⟨t, ps, qs, v, rfl, _⟩ := h
    rfl
  · obtain ⟨t, ps, qs, v, rfl, ⟨dx, a, b, ht, ha, hb⟩, hl, k1, k2⟩ := h
    refine ⟨_, (pss_cons (ps_if (PW.pt (pw_or (pt_cmpR op_lt (pv 1) pe_int (nomark _)) (pw_or1 (pt_cmpR op_ge (pv 1) (pe_fld (pv 0) rfl) (nomark _)))))
    (pss_one (ps_raise rfl (takes_of rfl rfl rfl rfl) (pmk_rs T.rNoNode hr (by decide) rfl (pa_cons (pv 1) pa_nil))))
    pss_nil)
  (pss_one (ps_ret (pe_callTy call_tupR (by rfl) T.b_tuple (by decide +kernel) (pa_cons (pe_lc (own := [(("at" : Str), 2), (("parent" : Str), 3)]) (g := gTup K 2 (gCons (gName 2) (gCons (gName 3) gNil))) (by rfl) scTreeChildren.nd (pi_enumT (by rfl) T.b_enumerate (pa_cons (pe_fld (pv 0) rfl) pa_nil)) (blkOk_by (own := [(("at" : Str), 2), (("parent" : Str), 3)]) (N := ["self", "node", "at", "parent"]) (sc := defScope sTreeChildren) (by decide +kernel)) (fun _ _ _ _ _ => (pg_tup rfl (pgs_cons (pg_name (i := 2) scTreeChildren.nd rfl (by first | exact Or.inl rfl | exact Or.inr rfl)) (pgs_cons (pg_name (i := 3) scTreeChildren.nd rfl (by first | exact Or.inl rfl | exact Or.inr rfl)) pgs_nil)))) (fun _ _ _ _ _ => (pts_one (pt_cmpR op_eq (pv 3) (pv 1) (nomark _)))) (fun _ _ _ _ _ => (pe_op op_add (pv 2) pe_int))) pa_nil))))), ?_⟩
    have l1 : (treeF (ps.length + 1) a b).lookup ("nodes" : Str) = some (V.int (ps.length + 1)) := by walk_at "lk"
    have l2 : (treeF (ps.length + 1) a b).lookup ("parents" : Str) = some (V.ref a) := by walk_at "lk"
    refine ⟨_, rfl, _, _, rfl, rfl, _, rfl, ?_⟩
    refine ifD (fun c => ?_) fun c => ?_
    · exact ⟨_, rfl, _, ⟨_, rfl, rfl⟩, fun d hd => k2 (.inl c) d hd⟩
    refine ⟨_, rfl, _, rfl, t, Ad11, dx, _, _, rfl, ht, T.lTree, T.nTree_nodes, l1, _, _, rfl, rfl, _, rfl, ?_⟩
    refine ifD (fun c' => ?_) fun c' => ?_
    · exact ⟨_, rfl, _, ⟨_, rfl, rfl⟩, fun d hd => k2 (.inr c') d hd⟩
    refine ⟨_, rfl, t, Ad11, dx, _, _, rfl, ht, T.lTree, T.nTree_parents, l2, a, _, rfl, SqT.of ha, fun D hD => ?_⟩
    refine lc_enumT (K := K) (a := a) (xs := ps.map V.int) (fun i H' => i ≤ ps.length ∧ Same H H' ∧ H' D = some (.lst ((kids ps v i).map V.int)))
      ⟨Nat.zero_le _, sm0 hD, upd_same⟩ (fun i H' z => smT z.2.1 (SqT.of ha)) (fun i x Tq H' hx z hT => ?_) fun H' z => ?_
    · obtain ⟨hi, sh, hacc⟩ := z
      obtain ⟨p, hp, rfl⟩ := ints_at hx
      have hil : i < ps.length := (List.getElem?_eq_some_iff.mp hp).1
      have st : Same H (upd H' Tq (.tup [.int (i : Nat), .int p])) := smN sh hT
      have hacc2 := atN (q := Tq) (o := .tup [.int (i : Nat), .int p]) hacc hT
      refine ⟨Tq, _, rfl, .inl (.inl upd_same), rfl, ?_⟩
      refine ⟨_, _, rfl, _, _, rfl, rfl, rfl, _, rfl, _, rfl, rfl, _, rfl, ?_⟩
      refine ifI (fun c => ?_) fun c => ?_
      · refine ⟨_, rfl, _, _, rfl, rfl, _, hacc2, ?_, hil, smM st hD, ?_⟩
        · rw [List.length_map]
          exact sz_lt (by have := kids_len ps v i; omega)
        · rw [upd_same]
          show _ = some (HO.lst ((kids ps v i ++ _).map V.int))
          rw [hp, if_pos (by rw [c]), List.map_append]
          rfl
      · refine ⟨hil, st, ?_⟩
        show _ = some (HO.lst ((kids ps v i ++ _).map V.int))
        rw [hp, if_neg (fun e => c (Option.some.inj e)), List.append_nil]
        exact hacc2
    · obtain ⟨hi, sh, hacc⟩ := z
      rw [List.length_map] at hacc
      refine tup_of (.inl (SqL.of hacc)) fun q H2 s2 hq => ?_
      exact k1 (by omega) (by omega) q H2 (sh.trans s2) hq
end
end K11
set_option maxRecDepth 100000
set_option maxHeartbeats 4000000
namespace K11
open PySem L2 SI
local macro_rules | `(tactic| walk_at "lk") => `(tactic| first | exact lk_hit | exact lk_nil | (refine lk_next (by decide +kernel) ?_; walk_at "lk"))
/-- heights by the edges from m on -/
structure IsH (ps qs : List Int) (m : Nat) (f : List Int) : Prop where
  len : f.length = ps.length + 1
  pos : ∀ (v : Nat) x, f[v]? = some x → 1 ≤ x ∧ x ≤ 31 ^ (ps.length + 1 - v)
  up : ∀ (i : Nat) p q x y, m ≤ i → ps[i]? = some p → qs[i]? = some q → f[i + 1]? = some x → f[p.toNat]? = some y → q * x ≤ y
  att : ∀ (v : Nat) y, f[v]? = some y → y = 1 ∨ ∃ (i : Nat) (q x : Int), m ≤ i ∧ ps[i]? = some (v : Int) ∧ qs[i]? = some q ∧ f[i + 1]? = some x ∧ y = q * x
theorem pow31 : ∀ k : Nat, (1 : Int) ≤ 31 ^ k
  | 0 => by decide
  | k + 1 => by rw [Int.pow_succ]; have := pow31 k; omega
theorem pow31_le {a b : Nat} (h : a ≤ b) : (31 : Int) ^ a ≤ 31 ^ b := by
  obtain ⟨k, rfl⟩ : ∃ k, b = a + k := ⟨b - a, by omega⟩
  rw [Int.pow_add]
  have h1 := pow31 a
  have h2 := pow31 k
  have := Int.mul_le_mul_of_nonneg_left h2 (show 0 ≤ (31 : Int) ^ a by omega)
  omega
theorem isH_ones (ps qs : List Int) : IsH ps qs ps.length (List.replicate (ps.length + 1) 1) where
  len := by simp
  pos := fun v x h => by
    rw [List.getElem?_replicate] at h
    split at h
    · cases h
      exact ⟨by decide, pow31 _⟩
    · cases h
  up := fun i p q x y hm hp => by
    have := (List.getElem?_eq_some_iff.mp hp).1
    omega
  att := fun v y h => by
    rw [List.getElem?_replicate] at h
    split at h
    · cases h
      exact .inl rfl
    · cases h
theorem isH_step {ps qs : List Int} {m p : Nat} {q x y : Int} {f : List Int} (h : IsH ps qs (m + 1) f) (hp : ps[m]? = some (p : Int)) (hpm : p ≤ m) (hq : qs[m]? = some q) (hq2 : 2 ≤ q) (hq31 : q ≤ 31) (hx : f[m + 1]? = some x) (hy : f[p]? = some y) (ok : ∀ (i : Nat) p, ps[i]? = some p → 0 ≤ p ∧ p ≤ i) :
    IsH ps qs m (f.set p (if q * x > y then q * x else y)) := by
  have hpl : p < f.length := (List.getElem?_eq_some_iff.mp hy).1
  have hmax1 : q * x ≤ (if q * x > y then q * x else y) := by split <;> omega
  have hmax2 : y ≤ (if q * x > y then q * x else y) := by split <;> omega
  have same : ∀ v, v ≠ p → (f.set p (if q * x > y then q * x else y))[v]? = f[v]? := fun v hv => List.getElem?_set_ne (Ne.symm hv)
  have here : (f.set p (if q * x > y then q * x else y))[p]? = some (if q * x > y then q * x else y) := List.getElem?_set_self hpl
  have px := h.pos _ _ hx
  have py := h.pos _ _ hy
  have hm1 : m + 1 < f.length := (List.getElem?_eq_some_iff.mp hx).1
  have hlen := h.len
  have hqx : q * x ≤ 31 ^ (ps.length + 1 - p) := by
    have e : 31 * x ≤ 31 ^ (ps.length + 1 - p) := by
      have e1 : (31 : Int) ^ (ps.length + 1 - (m + 1) + 1) ≤ 31 ^ (ps.length + 1 - p) := pow31_le (by omega)
      rw [Int.pow_succ] at e1
      omega
    have e2 : q * x ≤ 31 * x := Int.mul_le_mul_of_nonneg_right hq31 (by omega)
    omega
  refine ⟨by rw [List.length_set]; exact hlen, fun v z hv => ?_, fun i p' q' x' y' hi hp' hq' hx' hy' => ?_, fun v z hv => ?_⟩
  · by_cases e : v = p
    · subst e
      rw [here] at hv
      cases hv
      refine ⟨by omega, ?_⟩
      split <;> omega
    · rw [same v e] at hv
      exact h.pos v z hv
  · have hip : i + 1 ≠ p := by omega
    rw [same _ hip] at hx'
    by_cases e : i = m
    · subst e
      rw [hp] at hp'
      rw [hq] at hq'
      rw [hx] at hx'
      cases hp'
      cases hq'
      cases hx'
      rw [Int.toNat_natCast, here] at hy'
      cases hy'
      exact hmax1
    · by_cases e2 : p'.toNat = p
      · rw [e2, here] at hy'
        cases hy'
        have := h.up i p' q' x' y (by omega) hp' hq' hx' (by rw [e2]; exact hy)
        omega
      · rw [same _ e2] at hy'
        exact h.up i p' q' x' y' (by omega) hp' hq' hx' hy'
  · by_cases e : v = p
    · subst e
      rw [here] at hv
      cases hv
      by_cases c : q * x > y
      · rw [if_pos c]
        exact .inr ⟨m, q, x, Nat.le_refl _, hp, hq, by rw [List.getElem?_set_ne (by omega)]; exact hx, rfl⟩
      · rw [if_neg c]
        rcases h.att _ y hy with a | ⟨i, q', x', h1, h2, h3, h4, h5⟩
        · exact .inl a
        · exact .inr ⟨i, q', x', by omega, h2, h3, by rw [List.getElem?_set_ne (by omega)]; exact h4, h5⟩
    · rw [same v e] at hv
      rcases h.att v z hv with a | ⟨i, q', x', h1, h2, h3, h4, h5⟩
      · exact .inl a
      · exact .inr ⟨i, q', x', by omega, h2, h3, by rw [same _ (by omega)]; exact h4, h5⟩
/-- heights are one -/
theorem isH_uniq {ps qs : List Int} {f g : List Int} (hl : qs.length = ps.length) (ok : okTo ps qs ps.length) (hf : IsH ps qs 0 f) (hg : IsH ps qs 0 g) : f = g := by
  have key : ∀ k v, ps.length + 1 - v = k → f[v]? = g[v]? := by
    intro k
    induction k using Nat.strongRecOn with
    | _ k ih =>
      intro v hv
      rcases Nat.lt_or_ge v (ps.length + 1) with hlt | hge
      · obtain ⟨y, hy⟩ : ∃ y, f[v]? = some y := ⟨_, List.getElem?_eq_getElem (by rw [hf.len]; exact hlt)⟩
        obtain ⟨z, hz⟩ : ∃ z, g[v]? = some z := ⟨_, List.getElem?_eq_getElem (by rw [hg.len]; exact hlt)⟩
        have one : ∀ {f g : List Int} {y z : Int}, IsH ps qs 0 f → IsH ps qs 0 g → (∀ u, v < u → f[u]? = g[u]?) → f[v]? = some y → g[v]? = some z → y ≤ z := by
          intro f g y z hf hg hs hy hz
          rcases hf.att v y hy with a | ⟨i, q, x, _, h2, h3, h4, h5⟩
          · have := (hg.pos v z hz).1
            omega
          · have hi : i < ps.length := (List.getElem?_eq_some_iff.mp h2).1
            have hvi : v < i + 1 := by
              have := (ok i _ q hi h2 h3).2.1
              omega
            rw [hs _ hvi] at h4
            have := hg.up i _ q x z (Nat.zero_le _) h2 h3 h4 (by rw [Int.toNat_natCast]; exact hz)
            omega
        have hs : ∀ u, v < u → f[u]? = g[u]? := fun u hu => by
          rcases Nat.lt_or_ge u (ps.length + 1) with a | a
          · exact ih (ps.length + 1 - u) (by omega) u rfl
          · rw [List.getElem?_eq_none (by rw [hf.len]; exact a), List.getElem?_eq_none (by rw [hg.len]; exact a)]
        have a := one hf hg hs hy hz
        have b := one hg hf (fun u hu => (hs u hu).symm) hz hy
        rw [hy, hz, show y = z by omega]
      · rw [List.getElem?_eq_none (by rw [hf.len]; exact hge), List.getElem?_eq_none (by rw [hg.len]; exact hge)]
  exact List.ext_getElem? fun v => key _ v rfl
def spHeights (K : PySem.W.Frag) (C : Addr) : Sp := fun vs H Q _ => ∃ (t : Addr) (ps qs : List Int), vs = [.ref t] ∧ TreeAt C H t ps qs ∧ okT ps qs ∧ ∀ q H' f, Same H H' → IsH ps qs 0 f → H' q = some (.tup (List.map V.int f)) → Q (.ref q) H'
section
variable {P : Program} {w : World} {K : PySem.W.Frag} {mg : Str → Option Value} {base : Heap} {Ad1 Ad2 Ad3 Ad4 Ad5 Ad6 Ad7 Ad8 Ad9 Ad10 Ad11 : Addr}
theorem rep_one {n : Nat} {v : V} : (List.replicate n [v]).flatten = List.replicate n v := by
  induction n with
  | zero => rfl
  | succ k ih => rw [List.replicate_succ, List.flatten_cons, ih]; rfl
theorem scHeights : FnScope ["tree", "found", "node", "parent"] ["tree"] (defScope sHeights) := ⟨rfl, rfl, rfl, by decide +kernel, rfl, by decide +kernel, by decide +kernel⟩
theorem ok_Heights (T : Txt P w K mg base Ad1 Ad2 Ad3 Ad4 Ad5 Ad6 Ad7 Ad8 Ad9 Ad10 Ad11) : Cd P w K mg base 1 "heights" sHeights ["tree"] (spHeights K Ad11) := by
  refine cd_of T.d_heights scHeights (fun vs H Q E h => ?_) fun f cdv A outer s H vs Q E hr h => ?_
  · obtain ⟨t, ps, qs, rfl, _⟩ := h
    rfl
  · obtain ⟨t, ps, qs, rfl, ht, ⟨hl, hlq, hok⟩, k⟩ := h
    refine ⟨_, (pss_cons (ps_set (i := 1) scHeights.nd rfl (by first | exact Or.inl rfl | exact Or.inr rfl) (pe_op op_rep (pe_lst (pa_cons pe_int pa_nil)) (pe_fld (pv 0) rfl)))
  (pss_cons (ps_for (passes_of rfl) rfl (pi_range3 (by rfl) T.b_range (pa_cons (pe_op op_sub (pe_fld (pv 0) rfl) pe_int) (pa_cons pe_int (pa_cons (pe_un un_neg pe_int) pa_nil)))) (pg_name (i := 2) scHeights.nd rfl (by first | exact Or.inl rfl | exact Or.inr rfl))
    (pss_cons (ps_set (i := 3) scHeights.nd rfl (by first | exact Or.inl rfl | exact Or.inr rfl) (pe_ix ix_tup (pe_fld (pv 0) rfl) (pe_op op_sub (pv 2) pe_int) (fun _ _ => rfl)))
    (pss_one (ps_asg (pe_callB (call_max2 rfl) (by rfl) T.b_max (by decide +kernel) (pa_cons (pe_ix ix_list (pv 1) (pv 3) (fun _ _ => rfl)) (pa_cons (pe_op op_mulW (pe_ix ix_tup (pe_fld (pv 0) rfl) (pe_op op_sub (pv 2) pe_int) (fun _ _ => rfl)) (pe_ix ix_list (pv 1) (pv 2) (fun _ _ => rfl))) pa_nil))) (pg_sub (pv 1) (pv 3) set_list)))))
  (pss_one (ps_ret (pe_callTy call_tupR (by rfl) T.b_tuple (by decide +kernel) (pa_cons (pv 1) pa_nil)))))), ?_⟩
    obtain ⟨dx, a, b, ht, ha, hb⟩ := ht
    have l1 : (treeF (ps.length + 1) a b).lookup ("nodes" : Str) = some (V.int (ps.length + 1)) := by walk_at "lk"
    have l2 : (treeF (ps.length + 1) a b).lookup ("parents" : Str) = some (V.ref a) := by walk_at "lk"
    have l3 : (treeF (ps.length + 1) a b).lookup ("prices" : Str) = some (V.ref b) := by walk_at "lk"
    have en : ((ps.length : Int) + 1).toNat = ps.length + 1 := by omega
    refine ⟨by show 1 ≤ sizeLine; decide, fun z1 h1 => ?_⟩
    have s1 : Same H (upd H z1 (.lst [.int 1])) := sm0 h1
    refine ⟨_, rfl, t, Ad11, dx, _, _, rfl, s1 _ _ ht, T.lTree, T.nTree_nodes, l1, z1, (ps.length : Int) + 1, _, rfl, rfl, upd_same, by omega, by omega, sz_small (by simp; omega), fun F hF => ?_⟩
    rw [en, rep_one]
    have s2 : Same H (upd (upd H z1 (.lst [.int 1])) F (.lst (List.replicate (ps.length + 1) (.int 1)))) := smN s1 hF
    have e0 : List.replicate (ps.length + 1) (V.int 1) = (List.replicate (ps.length + 1) (1 : Int)).map V.int := by rw [List.map_replicate]
    refine ⟨_, rfl, t, Ad11, dx, _, _, rfl, s2 _ _ ht, T.lTree, T.nTree_nodes, l1, _, _, rfl, rfl, _, rfl, (ps.length : Int) + 1 - 1, 0, -1, ((ps.length : Int) + 1 - 1 - 0).toNat, rfl, RgC.neg (by omega) (by omega) (by decide) (by decide), ?_⟩
    rw [show ((ps.length : Int) + 1 - 1 - 0).toNat = ps.length by omega]
    refine for_rangeC (lo := (ps.length : Int) + 1 - 1) (c := -1) (n := ps.length) (fun i σ H' => i ≤ ps.length ∧ ∃ (v2 v3 : Option V) (f : List Int), σ = [some (.ref t), some (.ref F), v2, v3] ∧ Same H H' ∧ H' F = some (.lst (f.map V.int)) ∧ IsH ps qs (ps.length - i) f)
      ⟨Nat.zero_le _, none, none, _, rfl, s2, by rw [upd_same, e0], isH_ones ps qs⟩ (fun i σ H' hi h => ?_) fun σ H' h => ?_
    · obtain ⟨_, v2, v3, f, rfl, sh, hf, hI⟩ := h
      obtain ⟨m, hm⟩ : ∃ m, m + 1 = ps.length - i := ⟨ps.length - i - 1, by omega⟩
      have hml : m < ps.length := by omega
      rw [← hm] at hI
      have ev : (ps.length : Int) + 1 - 1 + (i : Nat) * (-1) = ((m + 1 : Nat) : Int) := by omega
      rw [ev]
      obtain ⟨p, hp⟩ : ∃ p, ps[m]? = some p := ⟨_, List.getElem?_eq_getElem hml⟩
      obtain ⟨q, hq⟩ : ∃ q, qs[m]? = some q := ⟨_, List.getElem?_eq_getElem (by omega)⟩
      have ok := hok m p q hml hp hq
      obtain ⟨pn, rfl⟩ : ∃ pn : Nat, p = (pn : Int) := ⟨p.toNat, by have := ok.1; omega⟩
      have hpm : pn ≤ m := by have := ok.2.1; omega
      obtain ⟨x, hx⟩ : ∃ x, f[m + 1]? = some x := ⟨_, List.getElem?_eq_getElem (by rw [hI.len]; omega)⟩
      obtain ⟨y, hy⟩ : ∃ y, f[pn]? = some y := ⟨_, List.getElem?_eq_getElem (by rw [hI.len]; omega)⟩
      have px := hI.pos _ _ hx
      have hbig : x ≤ 10 ^ 200 := by
        have e1 : (31 : Int) ^ (ps.length + 1 - (m + 1)) ≤ 31 ^ 60 := pow31_le (by omega)
        have e2 : (31 : Int) ^ 60 ≤ 10 ^ 200 := by decide +kernel
        omega
      have htt := sh _ _ ht
      have haa := sh _ _ ha
      have hbb := sh _ _ hb
      refine ⟨_, rfl, t, Ad11, dx, _, _, rfl, htt, T.lTree, T.nTree_parents, l2, _, rfl, _, _, rfl, rfl, a, _, _, _, rfl, rfl, SqT.of haa, at_of (j := m) (by omega) (at_ints hp), ?_⟩
      refine ⟨_, rfl, _, rfl, F, _, _, _, rfl, rfl, SqL.of hf, atI_nat (at_ints hy), _, rfl, t, Ad11, dx, _, _, rfl, htt, T.lTree, T.nTree_prices, l3, _, rfl, _, _, rfl, rfl, b, _, _, _, rfl, rfl, SqT.of hbb, at_of (j := m) (by omega) (at_ints hq), _, rfl, _, rfl, F, _, _, _, rfl, rfl, SqL.of hf, atI_nat (at_ints hx), _, _, rfl, rfl, cmul_small (abs_small (by have := ok.2.2.1; omega) (by have := ok.2.2.2; omega)) (abs_small (by omega) hbig), _, _, rfl, ?_⟩
      refine ⟨_, rfl, _, rfl, F, _, _, pn, rfl, rfl, hf, ixN_of rfl (by rw [List.length_map, hI.len]; omega), ?_⟩
      refine ⟨hi, _, _, f.set pn (if q * x > y then q * x else y), rfl, smM sh (s1.free hF), by rw [upd_same, List.map_set], ?_⟩
      rw [show ps.length - (i + 1) = m by omega]
      exact isH_step hI hp hpm hq ok.2.2.1 ok.2.2.2 hx hy fun i p hp => by
        obtain ⟨q, hq⟩ : ∃ q, qs[i]? = some q := ⟨_, List.getElem?_eq_getElem (by have := (List.getElem?_eq_some_iff.mp hp).1; omega)⟩
        have := hok i p q (List.getElem?_eq_some_iff.mp hp).1 hp hq
        exact ⟨this.1, this.2.1⟩
    · obtain ⟨_, v2, v3, f, rfl, sh, hf, hI⟩ := h
      rw [Nat.sub_self] at hI
      refine ⟨_, rfl, tup_of (.inl (SqL.of hf)) fun q H2 s2 hq => ?_⟩
      exact k q H2 f (sh.trans s2) hI hq
end
end K11
set_option maxRecDepth 100000
set_option maxHeartbeats 4000000
namespace K11
open PySem L2 SI
local macro_rules | `(tactic| walk_at "lk") => `(tactic| first | exact lk_hit | exact lk_nil | (refine lk_next (by decide +kernel) ?_; walk_at "lk"))
/-- the first child of v (among the first m edges) on which the height rests, else none -/
def rests (qs f : List Int) (v m : Nat) : Bool := match qs[m]?, f[m + 1]?, f[v]? with
  | some q, some x, some y => decide (q * x = y)
  | _, _, _ => false
def hit (ps qs f : List Int) (v m : Nat) : Bool := decide (ps[m]? = some (v : Int)) && rests qs f v m
def mainOf (ps qs f : List Int) (v : Nat) : Nat → Option Nat
  | 0 => none
  | m + 1 => match mainOf ps qs f v m with
    | some c => some c
    | none => if hit ps qs f v m = true then some (m + 1) else none
def nV : Option Nat → V
  | none => .non
  | some c => .int (c : Nat)
def mainRow (ps qs f : List Int) (m : Nat) : List V := (List.range (ps.length + 1)).map fun v => nV (mainOf ps qs f v m)
theorem mainRow_at {ps qs f : List Int} {m v : Nat} (h : v < ps.length + 1) : (mainRow ps qs f m)[v]? = some (nV (mainOf ps qs f v m)) := by
  unfold mainRow
  rw [List.getElem?_map, List.getElem?_range h]
  rfl
def spMain (K : PySem.W.Frag) (C : Addr) : Sp := fun vs H Q _ => ∃ (t : Addr) (ps qs : List Int), vs = [.ref t] ∧ TreeAt C H t ps qs ∧ okT ps qs ∧ ∀ q H' f, Same H H' → IsH ps qs 0 f → H' q = some (.tup (mainRow ps qs f ps.length)) → Q (.ref q) H'
theorem main_next {ps qs f : List Int} {m p : Nat} {q x y : Int} (hp : ps[m]? = some (p : Int)) (hq : qs[m]? = some q) (hx : f[m + 1]? = some x) (hy : f[p]? = some y) (hpl : p < ps.length + 1) :
    mainRow ps qs f (m + 1) = if mainOf ps qs f p m = none ∧ q * x = y then (mainRow ps qs f m).set p (.int ((m + 1 : Nat) : Int)) else mainRow ps qs f m := by
  have other : ∀ v, v ≠ p → mainOf ps qs f v (m + 1) = mainOf ps qs f v m := fun v hv => by
    show (match mainOf ps qs f v m with | some c => some c | none => _) = _
    cases e : mainOf ps qs f v m with
    | some c => rfl
    | none =>
      show (if hit ps qs f v m = true then _ else _) = _
      rw [if_neg]
      intro h
      unfold hit at h
      rw [Bool.and_eq_true, decide_eq_true_eq, hp] at h
      have := Option.some.inj h.1
      omega
  have own : mainOf ps qs f p (m + 1) = if mainOf ps qs f p m = none ∧ q * x = y then some (m + 1) else mainOf ps qs f p m := by
    show (match mainOf ps qs f p m with | some c => some c | none => _) = _
    cases e : mainOf ps qs f p m with
    | some c =>
      show some c = _
      exact (if_neg (fun z : some c = none ∧ q * x = y => by cases z.1)).symm
    | none =>
      show (if hit ps qs f p m = true then _ else _) = _
      have eh : hit ps qs f p m = decide (q * x = y) := by
        unfold hit rests
        rw [hq, hx, hy, decide_eq_true hp]
        rfl
      rw [eh]
      by_cases c : q * x = y
      · rw [if_pos (decide_eq_true c), if_pos ⟨rfl, c⟩]
      · rw [if_neg (by simp [c]), if_neg (fun z => c z.2)]
  apply List.ext_getElem?
  intro v
  rcases Nat.lt_or_ge v (ps.length + 1) with h | h
  · rw [mainRow_at h]
    by_cases e : v = p
    · subst e
      rw [own]
      split
      · rw [List.getElem?_set_self (by unfold mainRow; simp; omega)]; rfl
      · rw [mainRow_at h]
    · rw [other v e]
      split
      · rw [List.getElem?_set_ne (Ne.symm e), mainRow_at h]
      · rw [mainRow_at h]
  · have l1 : ∀ m, (mainRow ps qs f m).length = ps.length + 1 := fun m => by unfold mainRow; simp
    rw [List.getElem?_eq_none (by rw [l1]; exact h)]
    split
    · rw [List.getElem?_eq_none (by rw [List.length_set, l1]; exact h)]
    · rw [List.getElem?_eq_none (by rw [l1]; exact h)]
section
variable {P : Program} {w : World} {K : PySem.W.Frag} {mg : Str → Option Value} {base : Heap} {Ad1 Ad2 Ad3 Ad4 Ad5 Ad6 Ad7 Ad8 Ad9 Ad10 Ad11 : Addr}
theorem scMainChildren : FnScope ["tree", "tops", "main", "node", "parent"] ["tree"] (defScope sMainChildren) := ⟨rfl, rfl, rfl, by decide +kernel, rfl, by decide +kernel, by decide +kernel⟩
theorem ok_MainChildren (T : Txt P w K mg base Ad1 Ad2 Ad3 Ad4 Ad5 Ad6 Ad7 Ad8 Ad9 Ad10 Ad11) : Cl P w K mg base 2 "main_children" (spMain K Ad11) [] := by
  have c_Heights := (ok_Heights T).cl
  refine cl_of T.d_main_children scMainChildren (fun vs H Q E h => ?_) fun f cdv A outer s H vs Q E hr h => ?_
  · obtain ⟨t, ps, qs, rfl, _⟩ := h
    rfl
  · obtain ⟨t, ps, qs, rfl, ht, ⟨hl, hlq, hok⟩, k⟩ := h
    refine ⟨_, (pss_cons (ps_set (i := 1) scMainChildren.nd rfl (by first | exact Or.inl rfl | exact Or.inr rfl) (pe_c c_Heights hr (by decide) rfl (pa_cons (pv 0) pa_nil)))
  (pss_cons (ps_set (i := 2) scMainChildren.nd rfl (by first | exact Or.inl rfl | exact Or.inr rfl) (pe_op op_rep (pe_lst (pa_cons pe_non pa_nil)) (pe_fld (pv 0) rfl)))
  (pss_cons (ps_for (passes_of rfl) rfl (pi_range2 (by rfl) T.b_range (pa_cons pe_int (pa_cons (pe_fld (pv 0) rfl) pa_nil))) (pg_name (i := 3) scMainChildren.nd rfl (by first | exact Or.inl rfl | exact Or.inr rfl))
    (pss_cons (ps_set (i := 4) scMainChildren.nd rfl (by first | exact Or.inl rfl | exact Or.inr rfl) (pe_ix ix_tup (pe_fld (pv 0) rfl) (pe_op op_sub (pv 3) pe_int) (fun _ _ => rfl)))
    (pss_one (ps_if (PW.pt (pw_and (pt_cmpR op_isN (pe_ix ix_list (pv 2) (pv 4) (fun _ _ => rfl)) pe_non (nomark _)) (pw_and1 (pt_cmpR op_eq (pe_op op_mulW (pe_ix ix_tup (pe_fld (pv 0) rfl) (pe_op op_sub (pv 3) pe_int) (fun _ _ => rfl)) (pe_ix ix_tup (pv 1) (pv 3) (fun _ _ => rfl))) (pe_ix ix_tup (pv 1) (pv 4) (fun _ _ => rfl)) (nomark _)))))
      (pss_one (ps_asg (pv 3) (pg_sub (pv 2) (pv 4) set_list)))
      pss_nil))))
  (pss_one (ps_ret (pe_callTy call_tupR (by rfl) T.b_tuple (by decide +kernel) (pa_cons (pv 2) pa_nil))))))), ?_⟩
    refine ⟨_, rfl, t, ps, qs, rfl, ht, ⟨hl, hlq, hok⟩, fun hq H1 f s1 hI hh => ?_⟩
    obtain ⟨dx, a, b, ht, ha, hb⟩ := ht
    have l1 : (treeF (ps.length + 1) a b).lookup ("nodes" : Str) = some (V.int (ps.length + 1)) := by walk_at "lk"
    have l2 : (treeF (ps.length + 1) a b).lookup ("parents" : Str) = some (V.ref a) := by walk_at "lk"
    have l3 : (treeF (ps.length + 1) a b).lookup ("prices" : Str) = some (V.ref b) := by walk_at "lk"
    have en : ((ps.length : Int) + 1).toNat = ps.length + 1 := by omega
    refine ⟨by show 1 ≤ sizeLine; decide, fun z1 h1 => ?_⟩
    have s2 : Same H (upd H1 z1 (.lst [.non])) := smN s1 h1
    refine ⟨_, rfl, t, Ad11, dx, _, _, rfl, s2 _ _ ht, T.lTree, T.nTree_nodes, l1, z1, (ps.length : Int) + 1, _, rfl, rfl, upd_same, by omega, by omega, sz_small (by simp; omega), fun M hM => ?_⟩
    rw [en, rep_one]
    have s3 : Same H1 (upd (upd H1 z1 (.lst [.non])) M (.lst (List.replicate (ps.length + 1) .non))) := smN (sm0 h1) hM
    have e0 : List.replicate (ps.length + 1) V.non = mainRow ps qs f 0 := by
      unfold mainRow
      rw [show (fun v => nV (mainOf ps qs f v 0)) = fun _ => V.non from rfl, List.map_const', List.length_range]
    refine ⟨_, rfl, t, Ad11, dx, _, _, rfl, (s1.trans s3) _ _ ht, T.lTree, T.nTree_nodes, l1, 1, (ps.length : Int) + 1, rfl, ⟨by decide, by decide, by omega, by omega⟩, ?_⟩
    rw [show ((ps.length : Int) + 1 - 1).toNat = ps.length by omega]
    refine for_range (lo := 1) (n := ps.length) (fun m σ H' => ∃ v3 v4 : Option V, σ = [some (.ref t), some (.ref hq), some (.ref M), v3, v4] ∧ Same H1 H' ∧ H' M = some (.lst (mainRow ps qs f m)))
      ⟨none, none, rfl, s3, by rw [upd_same, e0]⟩ (fun m σ H' hml h => ?_) fun σ H' h => ?_
    · obtain ⟨v3, v4, rfl, sh, hMm⟩ := h
      have ev : (1 : Int) + (m : Nat) = ((m + 1 : Nat) : Int) := by omega
      rw [ev]
      obtain ⟨p, hp⟩ : ∃ p, ps[m]? = some p := ⟨_, List.getElem?_eq_getElem hml⟩
      obtain ⟨q, hqq⟩ : ∃ q, qs[m]? = some q := ⟨_, List.getElem?_eq_getElem (by omega)⟩
      have ok := hok m p q hml hp hqq
      obtain ⟨pn, rfl⟩ : ∃ pn : Nat, p = (pn : Int) := ⟨p.toNat, by have := ok.1; omega⟩
      have hpm : pn ≤ m := by have := ok.2.1; omega
      obtain ⟨x, hx⟩ : ∃ x, f[m + 1]? = some x := ⟨_, List.getElem?_eq_getElem (by rw [hI.len]; omega)⟩
      obtain ⟨y, hy⟩ : ∃ y, f[pn]? = some y := ⟨_, List.getElem?_eq_getElem (by rw [hI.len]; omega)⟩
      have px := hI.pos _ _ hx
      have hbig : x ≤ 10 ^ 200 := by
        have e1 : (31 : Int) ^ (ps.length + 1 - (m + 1)) ≤ 31 ^ 60 := pow31_le (by omega)
        have e2 : (31 : Int) ^ 60 ≤ 10 ^ 200 := by decide +kernel
        omega
      have sH := s1.trans sh
      have htt := sH _ _ ht
      have haa := sH _ _ ha
      have hbb := sH _ _ hb
      have hhh := sh _ _ hh
      have hpl : pn < ps.length + 1 := by omega
      have nxt := main_next (f := f) hp hqq hx hy hpl
      refine ⟨_, rfl, t, Ad11, dx, _, _, rfl, htt, T.lTree, T.nTree_parents, l2, _, rfl, _, _, rfl, rfl, a, _, _, _, rfl, rfl, SqT.of haa, at_of (j := m) (by omega) (at_ints hp), ?_⟩
      refine ⟨_, rfl, _, rfl, M, _, _, _, rfl, rfl, SqL.of hMm, atI_nat (mainRow_at hpl), rfl, _, rfl, ?_⟩
      cases e : mainOf ps qs f pn m with
      | some c =>
        refine ifD (fun z => by cases z) fun _ => ?_
        refine ⟨_, _, rfl, sh, ?_⟩
        rw [nxt, e, if_neg (fun z => by cases z.1)]
        exact hMm
      | none =>
        refine ifD (fun _ => ?_) fun z => absurd rfl z
        refine ⟨_, rfl, t, Ad11, dx, _, _, rfl, htt, T.lTree, T.nTree_prices, l3, _, rfl, _, _, rfl, rfl, b, _, _, _, rfl, rfl, SqT.of hbb, at_of (j := m) (by omega) (at_ints hqq), _, rfl, _, rfl, hq, _, _, _, rfl, rfl, SqT.of hhh, atI_nat (at_ints hx), _, _, rfl, rfl, cmul_small (abs_small (by have := ok.2.2.1; omega) (by have := ok.2.2.2; omega)) (abs_small (by omega) hbig), _, rfl, _, rfl, hq, _, _, _, rfl, rfl, SqT.of hhh, atI_nat (at_ints hy), rfl, _, rfl, ifI (fun c => ?_) fun c => ?_⟩
        · refine ⟨_, rfl, _, rfl, _, rfl, M, _, _, pn, rfl, rfl, hMm, ixN_of rfl (by unfold mainRow; simp; omega), ?_⟩
          refine ⟨_, _, rfl, smM sh ((sm0 h1).free hM), ?_⟩
          rw [upd_same, nxt, e, if_pos ⟨rfl, c⟩]
        · refine ⟨_, _, rfl, sh, ?_⟩
          rw [nxt, e, if_neg (fun z => c z.2)]
          exact hMm
    · obtain ⟨v3, v4, rfl, sh, hMm⟩ := h
      refine ⟨_, rfl, ?_⟩
      unfold rTupR
      refine ⟨M, _, rfl, .inl ⟨SqL.of hMm, fun l hl => ?_⟩⟩
      exact k l _ f (smN (s1.trans sh) hl) hI upd_same
end
end K11
set_option maxRecDepth 100000
set_option maxHeartbeats 4000000
namespace K11
open PySem L2 SI
def spLChildren : Sp := fun vs H Q _ => ∃ (a : Addr) (ps : List Int) (v : Int), vs = [.ref a, .int v] ∧ H a = some (.lst (ps.map V.int)) ∧ ps.length ≤ 1000 ∧ ∀ q H', Same H H' → H' q = some (.lst ((kids ps v ps.length).map V.int)) → Q (.ref q) H'
section
variable {P : Program} {w : World} {K : PySem.W.Frag} {mg : Str → Option Value} {base : Heap} {Ad1 Ad2 Ad3 Ad4 Ad5 Ad6 Ad7 Ad8 Ad9 Ad10 Ad11 : Addr}
theorem scLChildren : FnScope ["parents", "node", "at"] ["parents", "node"] (defScope sLChildren) := ⟨rfl, rfl, rfl, by decide +kernel, rfl, by decide +kernel, by decide +kernel⟩
theorem ok_LChildren (T : Txt P w K mg base Ad1 Ad2 Ad3 Ad4 Ad5 Ad6 Ad7 Ad8 Ad9 Ad10 Ad11) : Cl P w K mg base 1 "_law_children" spLChildren [] := by
  refine cl_of T.d__law_children scLChildren (fun vs H Q E h => ?_) fun f cdv A outer s H vs Q E hr h => ?_
  · obtain ⟨a, ps, v, rfl, _⟩ := h
    rfl
  · obtain ⟨a, ps, v, rfl, ha, hl, k⟩ := h
    refine ⟨_, (pss_one (ps_ret (pe_lc (own := [(("at" : Str), 2)]) (g := gName 2) (by rfl) scLChildren.nd (pi_range1 (by rfl) T.b_range (pa_cons (pe_callB call_len_seq (by rfl) T.b_len (by decide +kernel) (pa_cons (pv 0) pa_nil)) pa_nil)) (blkOk_by (own := [(("at" : Str), 2)]) (N := ["parents", "node", "at"]) (sc := defScope sLChildren) (by decide +kernel)) (fun _ _ _ _ _ => (pg_name (i := 2) scLChildren.nd rfl (by first | exact Or.inl rfl | exact Or.inr rfl))) (fun _ _ _ _ _ => (pts_one (pt_cmpR op_eq (pe_ix ix_listB (pv 0) (pv 2) (fun _ _ => rfl)) (pv 1) (nomark _)))) (fun _ _ _ _ _ => (pe_op op_add (pv 2) pe_int))))), ?_⟩
    refine ⟨_, rfl, a, _, rfl, .inl (SqL.of ha), _, rfl, by simp <;> omega, by simp <;> omega, fun D hD => ?_⟩
    rw [show ((((ps.map V.int).length : Nat) : Int)).toNat = ps.length by simp]
    refine lc_range (lo := 0) (n := ps.length) (fun i H' => Same H H' ∧ H' D = some (.lst ((kids ps v i).map V.int)))
      ⟨sm0 hD, upd_same⟩ (fun i H' hi z => ?_) fun H' z => ?_
    · obtain ⟨sh, hacc⟩ := z
      obtain ⟨p, hp⟩ : ∃ p, ps[i]? = some p := ⟨_, List.getElem?_eq_getElem hi⟩
      rw [Int.zero_add]
      refine ⟨rfl, _, rfl, _, rfl, a, _, _, _, rfl, rfl, SqL.of (sh _ _ ha), atI_nat (at_ints hp), _, rfl, rfl, _, rfl, ifI (fun c => ?_) fun c => ?_⟩
      · refine ⟨_, rfl, _, _, rfl, rfl, _, hacc, ?_, smM sh hD, ?_⟩
        · rw [List.length_map]
          exact sz_lt (by have := kids_len ps v i; omega)
        · rw [upd_same]
          show _ = some (HO.lst ((kids ps v i ++ _).map V.int))
          rw [hp, if_pos (by rw [c]), List.map_append]
          rfl
      · refine ⟨sh, ?_⟩
        show _ = some (HO.lst ((kids ps v i ++ _).map V.int))
        rw [hp, if_neg (fun e => c (Option.some.inj e)), List.append_nil]
        exact hacc
    · exact k D H' z.1 z.2
end
end K11
set_option maxRecDepth 100000
set_option maxHeartbeats 4000000
namespace K11
open PySem L2 SI
/-- what is due of Tree(parents, prices): nothing, or the error as a row -/
inductive DueIs (ps qs : List Int) : Option (List V) → Prop where
  | good (h : okT ps qs) : DueIs ps qs none
  | many (h : 59 < ps.length) : DueIs ps qs (some [.str "BadCount", .str "nodes", .int (ps.length + 1)])
  | width (h : ps.length ≤ 59) (h2 : qs.length ≠ ps.length) : DueIs ps qs (some [.str "WrongWidth", .int (qs.length : Nat), .int (ps.length : Nat)])
  | par (h : ps.length ≤ 59) (h2 : qs.length = ps.length) (i : Nat) (h3 : badPar ps qs i) : DueIs ps qs (some [.str "BadParent", .int (i : Nat)])
  | pri (h : ps.length ≤ 59) (h2 : qs.length = ps.length) (i : Nat) (h3 : badPri ps qs i) : DueIs ps qs (some [.str "BadPrice", .int (i : Nat)])
def dueV (H : Hp) (q : Addr) : Option (List V) → Prop
  | none => H q = some (.tup [])
  | some xs => ∃ r, H q = some (.tup [.ref r]) ∧ H r = some (.tup xs)
def spDue : Sp := fun vs H Q _ => ∃ (a b : Addr) (ps qs : List Int), vs = [.ref a, .ref b] ∧ H a = some (.lst (ps.map V.int)) ∧ H b = some (.lst (qs.map V.int)) ∧ ps.length ≤ 1000 ∧ ∀ o q H', DueIs ps qs o → Same H H' → dueV H' q o → Q (.ref q) H'
section
variable {P : Program} {w : World} {K : PySem.W.Frag} {mg : Str → Option Value} {base : Heap} {Ad1 Ad2 Ad3 Ad4 Ad5 Ad6 Ad7 Ad8 Ad9 Ad10 Ad11 : Addr}
theorem scLDue : FnScope ["parents", "prices", "at"] ["parents", "prices"] (defScope sLDue) := ⟨rfl, rfl, rfl, by decide +kernel, rfl, by decide +kernel, by decide +kernel⟩
theorem ok_LDue (T : Txt P w K mg base Ad1 Ad2 Ad3 Ad4 Ad5 Ad6 Ad7 Ad8 Ad9 Ad10 Ad11) : Cl P w K mg base 1 "_law_due" spDue [] := by
  refine cl_of T.d__law_due scLDue (fun vs H Q E h => ?_) fun f cdv A outer s H vs Q E hr h => ?_
  · obtain ⟨a, b, ps, qs, rfl, _⟩ := h
    rfl
  · obtain ⟨a, b, ps, qs, rfl, ha, hb, hl, k⟩ := h
    refine ⟨_, (pss_cons (ps_if (pt_cmpR op_gt (pe_callB call_len_seq (by rfl) T.b_len (by decide +kernel) (pa_cons (pv 0) pa_nil)) pe_int (nomark _))
    (pss_one (ps_ret (pe_tup (pa_cons (pe_tup (pa_cons pe_str (pa_cons pe_str (pa_cons (pe_op op_add (pe_callB call_len_seq (by rfl) T.b_len (by decide +kernel) (pa_cons (pv 0) pa_nil)) pe_int) pa_nil)))) pa_nil))))
    pss_nil)
  (pss_cons (ps_if (pt_cmpR op_ne (pe_callB call_len_seq (by rfl) T.b_len (by decide +kernel) (pa_cons (pv 1) pa_nil)) (pe_callB call_len_seq (by rfl) T.b_len (by decide +kernel) (pa_cons (pv 0) pa_nil)) (nomark _))
    (pss_one (ps_ret (pe_tup (pa_cons (pe_tup (pa_cons pe_str (pa_cons (pe_callB call_len_seq (by rfl) T.b_len (by decide +kernel) (pa_cons (pv 1) pa_nil)) (pa_cons (pe_callB call_len_seq (by rfl) T.b_len (by decide +kernel) (pa_cons (pv 0) pa_nil)) pa_nil)))) pa_nil))))
    pss_nil)
  (pss_cons (ps_for (passes_of rfl) rfl (pi_range1 (by rfl) T.b_range (pa_cons (pe_callB call_len_seq (by rfl) T.b_len (by decide +kernel) (pa_cons (pv 0) pa_nil)) pa_nil)) (pg_name (i := 2) scLDue.nd rfl (by first | exact Or.inl rfl | exact Or.inr rfl))
    (pss_cons (ps_if (PW.pt (pw_or (pt_cmpR op_lt (pe_ix ix_list (pv 0) (pv 2) (fun _ _ => rfl)) pe_int (nomark _)) (pw_or1 (pt_cmpR op_gt (pe_ix ix_list (pv 0) (pv 2) (fun _ _ => rfl)) (pv 2) (nomark _)))))
      (pss_one (ps_ret (pe_tup (pa_cons (pe_tup (pa_cons pe_str (pa_cons (pv 2) pa_nil))) pa_nil))))
      pss_nil)
    (pss_one (ps_if (PW.pt (pw_or (pt_cmpR op_lt (pe_ix ix_list (pv 1) (pv 2) (fun _ _ => rfl)) pe_int (nomark _)) (pw_or1 (pt_cmpR op_gt (pe_ix ix_list (pv 1) (pv 2) (fun _ _ => rfl)) pe_int (nomark _)))))
      (pss_one (ps_ret (pe_tup (pa_cons (pe_tup (pa_cons pe_str (pa_cons (pv 2) pa_nil))) pa_nil))))
      pss_nil))))
  (pss_one (ps_ret (pe_tup pa_nil)))))), ?_⟩
    have two : ∀ (r q : Addr) (xs : List V) (H1 : Hp), Same H H1 → H1 r = none → upd H1 r (.tup xs) q = none → DueIs ps qs (some xs) → Q (.ref q) (upd (upd H1 r (.tup xs)) q (.tup [.ref r])) := fun r q xs H1 s1 hr hq hd =>
      k (some xs) q _ hd (smN (smN s1 hr) hq) ⟨r, upd_same, atN upd_same hq⟩
    have elp : (((ps.map V.int).length : Nat) : Int) = (ps.length : Nat) := by rw [List.length_map]
    have elq : (((qs.map V.int).length : Nat) : Int) = (qs.length : Nat) := by rw [List.length_map]
    refine ⟨_, rfl, a, _, rfl, .inl (SqL.of ha), _, _, rfl, rfl, _, rfl, ifD (fun c => ?_) fun c => ?_⟩
    · have c1 : (59 : Int) < ((ps.map V.int).length : Nat) := c
      rw [elp] at c1
      refine ⟨_, rfl, a, _, rfl, .inl (SqL.of ha), _, _, rfl, rfl, by show 3 ≤ sizeLine; decide, fun r hr => ⟨by show 1 ≤ sizeLine; decide, fun q hq => ?_⟩⟩
      refine two r q _ H (Same.refl H) hr hq ?_
      rw [elp]
      exact .many (by omega)
    have c1 : ¬ (59 : Int) < ((ps.map V.int).length : Nat) := c
    rw [elp] at c1
    refine ⟨_, rfl, b, _, rfl, .inl (SqL.of hb), _, rfl, a, _, rfl, .inl (SqL.of ha), rfl, _, rfl, ifIN (fun c2 => ?_) fun c2 => ?_⟩
    · rw [elp, elq] at c2
      refine ⟨_, rfl, b, _, rfl, .inl (SqL.of hb), _, rfl, a, _, rfl, .inl (SqL.of ha), by show 3 ≤ sizeLine; decide, fun r hr => ⟨by show 1 ≤ sizeLine; decide, fun q hq => ?_⟩⟩
      refine two r q _ H (Same.refl H) hr hq ?_
      rw [elp, elq]
      exact .width (by omega) (by omega)
    rw [elp, elq] at c2
    have hlq : qs.length = ps.length := by omega
    refine ⟨_, rfl, a, _, rfl, .inl (SqL.of ha), _, rfl, by simp <;> omega, by simp <;> omega, ?_⟩
    rw [show ((((ps.map V.int).length : Nat) : Int)).toNat = ps.length by simp]
    refine for_range (lo := 0) (n := ps.length) (fun i σ H' => ∃ v2 : Option V, σ = [some (.ref a), some (.ref b), v2] ∧ H' = H ∧ okTo ps qs i)
      ⟨none, rfl, rfl, fun j p q hj => absurd hj (Nat.not_lt_zero _)⟩ (fun i σ H' hi h => ?_) fun σ H' h => ?_
    · obtain ⟨v2, rfl, rfl, hok⟩ := h
      obtain ⟨p, hp⟩ : ∃ p, ps[i]? = some p := ⟨_, List.getElem?_eq_getElem hi⟩
      obtain ⟨q, hq⟩ : ∃ q, qs[i]? = some q := ⟨_, List.getElem?_eq_getElem (by omega)⟩
      rw [Int.zero_add]
      have badP : (p < 0 ∨ (i : Int) < p) → ∀ r, H' r = none → ∀ q, upd H' r (.tup [.str "BadParent", .int (i : Nat)]) q = none → Q (.ref q) (upd (upd H' r (.tup [.str "BadParent", .int (i : Nat)])) q (.tup [.ref r])) := fun c r hr q hq => two r q _ H' (Same.refl H') hr hq (.par (by omega) hlq i ⟨hok, p, hp, c⟩)
      refine ⟨_, rfl, _, rfl, a, _, _, _, rfl, rfl, SqL.of ha, atI_nat (at_ints hp), _, _, rfl, rfl, _, rfl, ifD (fun c => ?_) fun c => ?_⟩
      · exact ⟨_, rfl, by show 2 ≤ sizeLine; decide, fun r hr => ⟨by show 1 ≤ sizeLine; decide, fun q hq => badP (.inl c) r hr q hq⟩⟩
      refine ⟨_, rfl, _, rfl, a, _, _, _, rfl, rfl, SqL.of ha, atI_nat (at_ints hp), _, rfl, _, _, rfl, rfl, _, rfl, ifD (fun c' => ?_) fun c' => ?_⟩
      · exact ⟨_, rfl, by show 2 ≤ sizeLine; decide, fun r hr => ⟨by show 1 ≤ sizeLine; decide, fun q hq => badP (.inr c') r hr q hq⟩⟩
      have okp : ∃ p, ps[i]? = some p ∧ 0 ≤ p ∧ p ≤ i := ⟨p, hp, by omega, by omega⟩
      have badQ : (q < 2 ∨ 31 < q) → ∀ r, H' r = none → ∀ q, upd H' r (.tup [.str "BadPrice", .int (i : Nat)]) q = none → Q (.ref q) (upd (upd H' r (.tup [.str "BadPrice", .int (i : Nat)])) q (.tup [.ref r])) := fun c r hr q1 hq1 => two r q1 _ H' (Same.refl H') hr hq1 (.pri (by omega) hlq i ⟨hok, okp, q, hq, c⟩)
      refine ⟨_, rfl, _, rfl, b, _, _, _, rfl, rfl, SqL.of hb, atI_nat (at_ints hq), _, _, rfl, rfl, _, rfl, ifD (fun c2 => ?_) fun c2 => ?_⟩
      · exact ⟨_, rfl, by show 2 ≤ sizeLine; decide, fun r hr => ⟨by show 1 ≤ sizeLine; decide, fun q1 hq1 => badQ (.inl c2) r hr q1 hq1⟩⟩
      refine ⟨_, rfl, _, rfl, b, _, _, _, rfl, rfl, SqL.of hb, atI_nat (at_ints hq), _, _, rfl, rfl, _, rfl, ifD (fun c3 => ?_) fun c3 => ?_⟩
      · exact ⟨_, rfl, by show 2 ≤ sizeLine; decide, fun r hr => ⟨by show 1 ≤ sizeLine; decide, fun q1 hq1 => badQ (.inr c3) r hr q1 hq1⟩⟩
      refine ⟨_, rfl, rfl, fun j p' q' hj hp' hq' => ?_⟩
      by_cases e : j < i
      · exact hok j p' q' e hp' hq'
      · obtain rfl : j = i := by omega
        rw [hp] at hp'
        rw [hq] at hq'
        cases hp'
        cases hq'
        exact ⟨by omega, by omega, by omega, by omega⟩
    · obtain ⟨v2, rfl, rfl, hok⟩ := h
      refine ⟨by show 0 ≤ sizeLine; decide, fun q hq => ?_⟩
      exact k none q _ (.good ⟨by omega, hlq, hok⟩) (sm0 hq) upd_same
end
end K11
set_option maxRecDepth 100000
set_option maxHeartbeats 4000000
namespace K11
open PySem L2 SI
/-- the way down from v by the row -/
def down (row : List (Option Nat)) : Nat → Nat → List Nat
  | 0, _ => []
  | k + 1, v => v :: (match row[v]? with | some (some c) => down row k c | _ => [])
def downO (row : List (Option Nat)) (k : Nat) : Option Nat → List Nat
  | none => []
  | some v => down row k v
theorem down_len (row : List (Option Nat)) : ∀ k v, (down row k v).length ≤ k
  | 0, _ => Nat.le_refl _
  | k + 1, v => by
    show (v :: _).length ≤ k + 1
    rw [List.length_cons]
    split
    · have := down_len row k ‹Nat›; omega
    · simp
def spPath (K : PySem.W.Frag) : Sp := fun vs H Q _ => ∃ (m : Addr) (top second : Nat) (row : List (Option Nat)), vs = [.ref m, .int (top : Nat), .int (second : Nat)] ∧ H m = some (.tup (row.map nV)) ∧ row.length ≤ 1000 ∧ second < row.length ∧ (∀ (v c : Nat), row[v]? = some (some c) → v < c ∧ c < row.length) ∧
  ∀ q H', Same H H' → H' q = some (.tup ((top :: down row (row.length - second) second).map fun i => V.int (i : Nat))) → Q (.ref q) H'
section
variable {P : Program} {w : World} {K : PySem.W.Frag} {mg : Str → Option Value} {base : Heap} {Ad1 Ad2 Ad3 Ad4 Ad5 Ad6 Ad7 Ad8 Ad9 Ad10 Ad11 : Addr}
theorem scPathDown : FnScope ["main", "top", "second", "nodes", "node"] ["main", "top", "second"] (defScope sPathDown) := ⟨rfl, rfl, rfl, by decide +kernel, rfl, by decide +kernel, by decide +kernel⟩
theorem ok_PathDown (T : Txt P w K mg base Ad1 Ad2 Ad3 Ad4 Ad5 Ad6 Ad7 Ad8 Ad9 Ad10 Ad11) : Cl P w K mg base 1 "path_down" (spPath K) [] := by
  refine cl_of T.d_path_down scPathDown (fun vs H Q E h => ?_) fun f cdv A outer s H vs Q E hr h => ?_
  · obtain ⟨m, top, second, row, rfl, _⟩ := h
    rfl
  · obtain ⟨m, top, second, row, rfl, hm, hl, hs, hrow, k⟩ := h
    refine ⟨_, (pss_cons (ps_set (i := 3) scPathDown.nd rfl (by first | exact Or.inl rfl | exact Or.inr rfl) (pe_lst (pa_cons (pv 1) pa_nil)))
  (pss_cons (ps_set (i := 4) scPathDown.nd rfl (by first | exact Or.inl rfl | exact Or.inr rfl) (pv 2))
  (pss_cons (ps_while (passes_of rfl) (pt_cmpR op_notN (pv 4) pe_non (nomark _))
    (pss_cons (ps_expr (pe_bm PySem.F.plainAttrs_list PySem.F.slot_list_append PySem.F.type_list_append mt_append (pv 3) (pa_cons (pv 4) pa_nil)))
    (pss_one (ps_set (i := 4) scPathDown.nd rfl (by first | exact Or.inl rfl | exact Or.inr rfl) (pe_ix ix_tup (pv 0) (pv 4) (fun _ _ => rfl))))))
  (pss_one (ps_ret (pe_callTy call_tupR (by rfl) T.b_tuple (by decide +kernel) (pa_cons (pv 3) pa_nil))))))), ?_⟩
    refine ⟨_, rfl, by show 1 ≤ sizeLine; decide, fun L hL => ?_⟩
    let μ : Option Nat → Nat := fun o => match o with | none => 0 | some v => row.length - v + 1
    refine ⟨_, rfl, fun n σ H' => ∃ (o : Option Nat) (acc : List Nat) (j : Nat), n = μ o ∧ σ = [some (.ref m), some (.int (top : Nat)), some (.int (second : Nat)), some (.ref L), some (nV o)] ∧ Same H H' ∧ H' L = some (.lst ((top :: acc).map fun i => V.int (i : Nat))) ∧ acc ++ downO row j o = down row (row.length - second) second ∧ ∀ v, o = some v → v < row.length ∧ row.length - v ≤ j, 
      ⟨_, some second, [], row.length - second, rfl, rfl, sm0 hL, by rw [upd_same] <;> rfl, rfl, fun v e => by cases e; exact ⟨hs, Nat.le_refl _⟩⟩, fun n σ H' h => ?_⟩
    obtain ⟨o, acc, j, rfl, rfl, sh, hacc, heq, ho⟩ := h
    have hlen : acc.length ≤ 1000 := by
      have h1 := congrArg List.length heq
      rw [List.length_append] at h1
      have h2 := down_len row (row.length - second) second
      omega
    cases o with
    | none =>
      refine ⟨_, rfl, rfl, _, rfl, ifN (fun z => absurd rfl z) fun _ => ?_⟩
      refine ⟨_, rfl, ?_⟩
      unfold rTupR
      refine ⟨L, _, rfl, .inl ⟨SqL.of hacc, fun q hq => ?_⟩⟩
      have e2 : acc = down row (row.length - second) second := by rw [← heq]; exact (List.append_nil _).symm
      refine k q _ (smN sh hq) ?_
      rw [upd_same, e2]
    | some v =>
      obtain ⟨hv, hj⟩ := ho v rfl
      obtain ⟨j', rfl⟩ : ∃ j', j = j' + 1 := ⟨j - 1, by omega⟩
      obtain ⟨o2, ho2⟩ : ∃ o2, row[v]? = some o2 := ⟨_, List.getElem?_eq_getElem hv⟩
      refine ⟨_, rfl, rfl, _, rfl, ifN (fun _ => ?_) fun z => by cases z⟩
      refine ⟨fun σ' H2 => ∃ m', m' < μ (some v) ∧ ∃ (o : Option Nat) (acc : List Nat) (j : Nat), m' = μ o ∧ σ' = [some (.ref m), some (.int (top : Nat)), some (.int (second : Nat)), some (.ref L), some (nV o)] ∧ Same H H2 ∧ H2 L = some (.lst ((top :: acc).map fun i => V.int (i : Nat))) ∧ acc ++ downO row j o = down row (row.length - second) second ∧ ∀ v, o = some v → v < row.length ∧ row.length - v ≤ j, fun _ _ h => h, ?_⟩
      refine ⟨_, rfl, .inl ⟨rfl, _, SqL.of hacc⟩, _, rfl, L, _, _, rfl, rfl, hacc, by simp only [List.length_map, List.length_cons]; exact sz_lt (by omega), ?_⟩
      have sh2 : Same H (upd H' L (.lst ((top :: acc).map (fun i => V.int (i : Nat)) ++ [V.int (v : Nat)]))) := smM sh hL
      refine ⟨_, rfl, _, rfl, m, _, _, _, rfl, rfl, SqT.of (sh2 _ _ hm), atI_nat (v := nV o2) (by rw [List.getElem?_map, ho2]; rfl), ?_⟩
      have hd : downO row (j' + 1) (some v) = v :: downO row j' o2 := by
        show v :: (match row[v]? with | some (some c) => down row j' c | _ => []) = _
        rw [ho2]
        cases o2 <;> rfl
      refine ⟨μ o2, ?_, o2, acc ++ [v], j', rfl, rfl, sh2, by rw [upd_same, ← List.cons_append, List.map_append] <;> rfl, by rw [List.append_assoc, ← heq, hd]; rfl, fun c e => ?_⟩
      · cases o2 with
        | none => show 0 < row.length - v + 1; omega
        | some c =>
          have := hrow v c ho2
          show row.length - c + 1 < row.length - v + 1
          omega
      · subst e
        have := hrow v c ho2
        exact ⟨this.2, by omega⟩
end
end K11
set_option maxRecDepth 100000
set_option maxHeartbeats 4000000
namespace K11
open PySem L2 SI
local macro_rules | `(tactic| walk_at "lk") => `(tactic| first | exact lk_hit | exact lk_nil | (refine lk_next (by decide +kernel) ?_; walk_at "lk"))
def mainL (ps qs f : List Int) : List (Option Nat) := (List.range (ps.length + 1)).map fun v => mainOf ps qs f v ps.length
theorem mainL_row (ps qs f : List Int) : mainRow ps qs f ps.length = (mainL ps qs f).map nV := by
  unfold mainRow mainL
  rw [List.map_map]
  rfl
theorem mainL_len (ps qs f : List Int) : (mainL ps qs f).length = ps.length + 1 := by unfold mainL; simp
theorem mainL_at {ps qs f : List Int} {v : Nat} (h : v < ps.length + 1) : (mainL ps qs f)[v]? = some (mainOf ps qs f v ps.length) := by
  unfold mainL
  rw [List.getElem?_map, List.getElem?_range h]
  rfl
theorem mainOf_up {ps qs f : List Int} (ok : ∀ (i : Nat) (p : Int), ps[i]? = some p → 0 ≤ p ∧ p ≤ i) (v : Nat) : ∀ m c, mainOf ps qs f v m = some c → v < c ∧ c ≤ m
  | 0, c, h => by cases h
  | m + 1, c, h => by
    have h' : (match mainOf ps qs f v m with | some c => some c | none => if hit ps qs f v m = true then some (m + 1) else none) = some c := h
    cases e : mainOf ps qs f v m with
    | some c' =>
      rw [e] at h'
      cases h'
      have := mainOf_up ok v m c e
      omega
    | none =>
      rw [e] at h'
      by_cases hh : hit ps qs f v m = true
      · have h2 : (if hit ps qs f v m = true then some (m + 1) else none) = some c := h'
        rw [if_pos hh] at h2
        cases h2
        unfold hit at hh
        rw [Bool.and_eq_true, decide_eq_true_eq] at hh
        have := (ok m _ hh.1).2
        omega
      · have h2 : (if hit ps qs f v m = true then some (m + 1) else none) = some c := h'
        rw [if_neg hh] at h2
        cases h2
/-- the paths that begin at the first m edges -/
def pathsTo (ps : List Int) (row : List (Option Nat)) : Nat → List (List Nat)
  | 0 => []
  | m + 1 => pathsTo ps row m ++ (match ps[m]? with
    | some p => if p = 0 ∨ row[p.toNat]? ≠ some (some (m + 1)) then [p.toNat :: down row (row.length - (m + 1)) (m + 1)] else []
    | none => [])
theorem paths_len (ps : List Int) (row : List (Option Nat)) : ∀ m, (pathsTo ps row m).length ≤ m
  | 0 => Nat.le_refl _
  | m + 1 => by
    have := paths_len ps row m
    show (pathsTo ps row m ++ _).length ≤ _
    rw [List.length_append]
    split
    · split <;> simp <;> omega
    · simp; omega
def TupsV (H : Hp) (xs : List V) (ls : List (List Nat)) : Prop := xs.length = ls.length ∧ ∀ (i : Nat) v l, xs[i]? = some v → ls[i]? = some l → ∃ r, v = .ref r ∧ H r = some (.tup (l.map fun i => V.int (i : Nat)))
theorem TupsV.same {H H' : Hp} {xs : List V} {ls : List (List Nat)} (s : Same H H') (h : TupsV H xs ls) : TupsV H' xs ls := ⟨h.1, fun i v l a b => by obtain ⟨r, h1, h2⟩ := h.2 i v l a b; exact ⟨r, h1, s _ _ h2⟩⟩
theorem tups_snoc {H : Hp} {xs : List V} {ls : List (List Nat)} {r : Addr} {l : List Nat} (h : TupsV H xs ls) (hr : H r = some (.tup (l.map fun i => V.int (i : Nat)))) : TupsV H (xs ++ [.ref r]) (ls ++ [l]) := by
  refine ⟨by simp [h.1], fun i v l' a b => ?_⟩
  rcases Nat.lt_or_ge i xs.length with c | c
  · rw [List.getElem?_append_left c] at a
    rw [List.getElem?_append_left (by rw [← h.1]; exact c)] at b
    exact h.2 i v l' a b
  · rw [List.getElem?_append_right c] at a
    rw [List.getElem?_append_right (by rw [← h.1]; exact c), ← h.1] at b
    cases e : i - xs.length with
    | zero =>
      rw [e] at a b
      cases a
      cases b
      exact ⟨r, rfl, hr⟩
    | succ j => rw [e] at a; simp at a
def spPaths (K : PySem.W.Frag) (C : Addr) : Sp := fun vs H Q _ => ∃ (t : Addr) (ps qs : List Int), vs = [.ref t] ∧ TreeAt C H t ps qs ∧ okT ps qs ∧ ∀ q H' f xs, Same H H' → IsH ps qs 0 f → H' q = some (.tup xs) → TupsV H' xs (pathsTo ps (mainL ps qs f) ps.length) → Q (.ref q) H'
section
variable {P : Program} {w : World} {K : PySem.W.Frag} {mg : Str → Option Value} {base : Heap} {Ad1 Ad2 Ad3 Ad4 Ad5 Ad6 Ad7 Ad8 Ad9 Ad10 Ad11 : Addr}
theorem scPaths : FnScope ["tree", "main", "found", "node", "top"] ["tree"] (defScope sPaths) := ⟨rfl, rfl, rfl, by decide +kernel, rfl, by decide +kernel, by decide +kernel⟩
theorem ok_Paths (T : Txt P w K mg base Ad1 Ad2 Ad3 Ad4 Ad5 Ad6 Ad7 Ad8 Ad9 Ad10 Ad11) : Cd P w K mg base 3 "paths" sPaths ["tree"] (spPaths K Ad11) := by
  have c_MainChildren := ok_MainChildren T
  have c_PathDown := ok_PathDown T
  refine cd_of T.d_paths scPaths (fun vs H Q E h => ?_) fun f cdv A outer s H vs Q E hr h => ?_
  · obtain ⟨t, ps, qs, rfl, _⟩ := h
    rfl
  · obtain ⟨t, ps, qs, rfl, ht, ⟨hl, hlq, hok⟩, k⟩ := h
    refine ⟨_, (pss_cons (ps_set (i := 1) scPaths.nd rfl (by first | exact Or.inl rfl | exact Or.inr rfl) (pe_c c_MainChildren hr (by decide) rfl (pa_cons (pv 0) pa_nil)))
  (pss_cons (ps_set (i := 2) scPaths.nd rfl (by first | exact Or.inl rfl | exact Or.inr rfl) (pe_lst pa_nil))
  (pss_cons (ps_for (passes_of rfl) rfl (pi_range2 (by rfl) T.b_range (pa_cons pe_int (pa_cons (pe_fld (pv 0) rfl) pa_nil))) (pg_name (i := 3) scPaths.nd rfl (by first | exact Or.inl rfl | exact Or.inr rfl))
    (pss_cons (ps_set (i := 4) scPaths.nd rfl (by first | exact Or.inl rfl | exact Or.inr rfl) (pe_ix ix_tup (pe_fld (pv 0) rfl) (pe_op op_sub (pv 3) pe_int) (fun _ _ => rfl)))
    (pss_one (ps_if (PW.pt (pw_or (pt_cmpR op_eq (pv 4) pe_int (nomark _)) (pw_or1 (pt_cmpR op_ne (pe_ix ix_tup (pv 1) (pv 4) (fun _ _ => rfl)) (pv 3) (nomark _)))))
      (pss_one (ps_expr (pe_bm PySem.F.plainAttrs_list PySem.F.slot_list_append PySem.F.type_list_append mt_append (pv 2) (pa_cons (pe_c c_PathDown hr (by decide) rfl (pa_cons (pv 1) (pa_cons (pv 4) (pa_cons (pv 3) pa_nil)))) pa_nil))))
      pss_nil))))
  (pss_one (ps_ret (pe_callTy call_tupR (by rfl) T.b_tuple (by decide +kernel) (pa_cons (pv 2) pa_nil))))))), ?_⟩
    refine ⟨_, rfl, t, ps, qs, rfl, ht, ⟨hl, hlq, hok⟩, fun hm H1 f s1 hI hmm => ?_⟩
    rw [mainL_row] at hmm
    obtain ⟨dx, a, b, ht, ha, hb⟩ := ht
    have l1 : (treeF (ps.length + 1) a b).lookup ("nodes" : Str) = some (V.int (ps.length + 1)) := by walk_at "lk"
    have l2 : (treeF (ps.length + 1) a b).lookup ("parents" : Str) = some (V.ref a) := by walk_at "lk"
    have okp : ∀ (i : Nat) (p : Int), ps[i]? = some p → 0 ≤ p ∧ p ≤ i := fun i p hp => by
      obtain ⟨q, hq⟩ : ∃ q, qs[i]? = some q := ⟨_, List.getElem?_eq_getElem (by have := (List.getElem?_eq_some_iff.mp hp).1; omega)⟩
      have := hok i p q (List.getElem?_eq_some_iff.mp hp).1 hp hq
      exact ⟨this.1, this.2.1⟩
    have hrow : ∀ (v c : Nat), (mainL ps qs f)[v]? = some (some c) → v < c ∧ c < (mainL ps qs f).length := fun v c h => by
      have hv : v < ps.length + 1 := by rw [← mainL_len ps qs f]; exact (List.getElem?_eq_some_iff.mp h).1
      rw [mainL_at hv] at h
      have := mainOf_up okp v _ c (Option.some.inj h)
      rw [mainL_len]
      omega
    have hrl := mainL_len ps qs f
    have hrat : ∀ v, v < ps.length + 1 → ∃ o, (mainL ps qs f)[v]? = some o := fun v hv => ⟨_, mainL_at hv⟩
    generalize hR : mainL ps qs f = row at hmm hrow hrl hrat
    refine ⟨by show 0 ≤ sizeLine; decide, fun F hF => ?_⟩
    have s2 : Same H1 (upd H1 F (.lst [])) := sm0 hF
    refine ⟨_, rfl, t, Ad11, dx, _, _, rfl, (s1.trans s2) _ _ ht, T.lTree, T.nTree_nodes, l1, 1, (ps.length : Int) + 1, rfl, ⟨by decide, by decide, by omega, by omega⟩, ?_⟩
    rw [show ((ps.length : Int) + 1 - 1).toNat = ps.length by omega]
    refine for_range (lo := 1) (n := ps.length) (fun m σ H' => ∃ (v3 v4 : Option V) (xs : List V), σ = [some (.ref t), some (.ref hm), some (.ref F), v3, v4] ∧ Same H1 H' ∧ H' F = some (.lst xs) ∧ TupsV H' xs (pathsTo ps row m))
      ⟨none, none, [], rfl, s2, upd_same, rfl, fun i v l h => by simp at h⟩ (fun m σ H' hml h => ?_) fun σ H' h => ?_
    · obtain ⟨v3, v4, xs, rfl, sh, hFm, hT⟩ := h
      have ev : (1 : Int) + (m : Nat) = ((m + 1 : Nat) : Int) := by omega
      rw [ev]
      obtain ⟨p, hp⟩ : ∃ p, ps[m]? = some p := ⟨_, List.getElem?_eq_getElem hml⟩
      have ok := okp m p hp
      obtain ⟨pn, rfl⟩ : ∃ pn : Nat, p = (pn : Int) := ⟨p.toNat, by have := ok.1; omega⟩
      have hpm : pn ≤ m := by have := ok.2; omega
      have sH := s1.trans sh
      have htt := sH _ _ ht
      have haa := sH _ _ ha
      have hmm' := sh _ _ hmm
      obtain ⟨o, ho⟩ := hrat pn (by omega)
      have ex : pathsTo ps row (m + 1) = pathsTo ps row m ++ (if (pn : Int) = 0 ∨ row[pn]? ≠ some (some (m + 1)) then [pn :: down row (row.length - (m + 1)) (m + 1)] else []) := by
        show pathsTo ps row m ++ (match ps[m]? with | some p => _ | none => _) = _
        rw [hp]
        show _ ++ (if (pn : Int) = 0 ∨ row[(pn : Int).toNat]? ≠ _ then [(pn : Int).toNat :: _] else _) = _
        rw [Int.toNat_natCast]
      have add : ((pn : Int) = 0 ∨ row[pn]? ≠ some (some (m + 1))) → ∀ q H2, Same H' H2 → H2 q = some (.tup ((pn :: down row (row.length - (m + 1)) (m + 1)).map fun i => V.int (i : Nat))) → Same H1 (upd H2 F (.lst (xs ++ [.ref q]))) ∧ TupsV (upd H2 F (.lst (xs ++ [.ref q]))) (xs ++ [.ref q]) (pathsTo ps row (m + 1)) := fun hc q H2 s3 hq => by
        have hF2 := s3 _ _ hFm
        refine ⟨smM (sh.trans s3) hF, ?_⟩
        rw [ex, if_pos hc]
        have t1 := tups_snoc (hT.same s3) hq
        refine ⟨t1.1, fun i v l a b => ?_⟩
        obtain ⟨r, h1, h2⟩ := t1.2 i v l a b
        exact ⟨r, h1, by rw [upd_ne (ne_of h2 hF2 (by intro z; cases z))]; exact h2⟩
      have lenx : xs.length < sizeLine := sz_lt (by have := hT.1; have := paths_len ps row m; omega)
      refine ⟨_, rfl, t, Ad11, dx, _, _, rfl, htt, T.lTree, T.nTree_parents, l2, _, rfl, _, _, rfl, rfl, a, _, _, _, rfl, rfl, SqT.of haa, at_of (j := m) (by omega) (at_ints hp), ?_⟩
      refine ⟨_, rfl, rfl, _, rfl, ifI (fun c => ?_) fun c => ?_⟩
      · refine ⟨_, rfl, .inl ⟨rfl, _, SqL.of hFm⟩, _, rfl, _, rfl, _, rfl, hm, pn, m + 1, row, rfl, hmm', by omega, by omega, hrow, fun q H2 s3 hq => ?_⟩
        obtain ⟨a1, a2⟩ := add (.inl c) q H2 s3 hq
        exact ⟨F, _, _, rfl, rfl, s3 _ _ hFm, lenx, _, _, _, rfl, a1, upd_same, a2⟩
      · have hat : (row.map nV)[pn]? = some (nV o) := by rw [List.getElem?_map, ho]; rfl
        cases o with
        | none =>
          refine ⟨_, rfl, _, rfl, hm, _, _, _, rfl, rfl, SqT.of hmm', atI_nat hat, _, rfl, rfl, _, rfl, ifN (fun _ => ?_) fun z => by cases z⟩
          refine ⟨_, rfl, .inl ⟨rfl, _, SqL.of hFm⟩, _, rfl, _, rfl, _, rfl, hm, pn, m + 1, row, rfl, hmm', by omega, by omega, hrow, fun q H2 s3 hq => ?_⟩
          obtain ⟨a1, a2⟩ := add (.inr (by rw [ho]; intro z; cases z)) q H2 s3 hq
          exact ⟨F, _, _, rfl, rfl, s3 _ _ hFm, lenx, _, _, _, rfl, a1, upd_same, a2⟩
        | some c0 =>
          refine ⟨_, rfl, _, rfl, hm, _, _, _, rfl, rfl, SqT.of hmm', atI_nat hat, _, rfl, rfl, _, rfl, ifIN (fun c2 => ?_) fun c2 => ?_⟩
          · refine ⟨_, rfl, .inl ⟨rfl, _, SqL.of hFm⟩, _, rfl, _, rfl, _, rfl, hm, pn, m + 1, row, rfl, hmm', by omega, by omega, hrow, fun q H2 s3 hq => ?_⟩
            obtain ⟨a1, a2⟩ := add (.inr (by rw [ho]; intro z; cases z; exact c2 rfl)) q H2 s3 hq
            exact ⟨F, _, _, rfl, rfl, s3 _ _ hFm, lenx, _, _, _, rfl, a1, upd_same, a2⟩
          · have ec : c0 = m + 1 := by omega
            refine ⟨_, _, xs, rfl, sh, hFm, ?_⟩
            rw [ex, if_neg, List.append_nil]
            · exact hT
            · rintro (z | z)
              · exact c z
              · exact z (by rw [ho, ec])
    · obtain ⟨v3, v4, xs, rfl, sh, hFm, hT⟩ := h
      refine ⟨_, rfl, ?_⟩
      unfold rTupR
      refine ⟨F, _, rfl, .inl ⟨SqL.of hFm, fun l hl => ?_⟩⟩
      exact k l _ f xs (smN (s1.trans sh) hl) hI upd_same (by rw [hR]; exact hT.same (sm0 hl))
end
end K11
set_option maxRecDepth 100000
set_option maxHeartbeats 4000000
namespace K11
open PySem L2 SI
local macro_rules | `(tactic| walk_at "lk") => `(tactic| first | exact lk_hit | exact lk_nil | (refine lk_next (by decide +kernel) ?_; walk_at "lk"))
def spTreeEq (K : PySem.W.Frag) (C : Addr) : Sp := fun vs H Q _ => ∃ (a : Addr) (y : V) (ps qs : List Int), vs = [.ref a, y] ∧ TreeAt C H a ps qs ∧
  ((∃ (b : Addr) (ps' qs' : List Int), y = .ref b ∧ TreeAt C H b ps' qs' ∧ Q (.bl (decide (ps = ps') && decide (qs = qs'))) H) ∨ (∃ t, TyX K H y t ∧ PySem.W.kitOne K t (.ref C) = some false ∧ Q (.bl false) H))
def spPool (K : PySem.W.Frag) : Sp := fun vs H Q _ => ∃ (a : Addr) (ns : List Int), vs = [.ref a] ∧ SqL K H a (ns.map V.int) ∧ ns.length ≤ 63 ∧ ∀ p H', Same H H' → H p = none → PoolB H' p 0 → Q (.ref p) H'
section
variable {P : Program} {w : World} {K : PySem.W.Frag} {mg : Str → Option Value} {base : Heap} {Ad1 Ad2 Ad3 Ad4 Ad5 Ad6 Ad7 Ad8 Ad9 Ad10 Ad11 : Addr}
theorem scTreeEq : FnScope ["self", "other"] ["self", "other"] (defScope sTreeEq) := ⟨rfl, rfl, rfl, by decide +kernel, rfl, by decide +kernel, by decide +kernel⟩
theorem ok_TreeEq (T : Txt P w K mg base Ad1 Ad2 Ad3 Ad4 Ad5 Ad6 Ad7 Ad8 Ad9 Ad10 Ad11) : Mt P w K mg base 1 Ad11 "__eq__" (spTreeEq K Ad11) [] := by
  refine mt_of T.d_Tree___eq__ scTreeEq (fun vs H Q E h => ?_) fun f cdv A outer s H vs Q E hr h => ?_
  · obtain ⟨a, y, ps, qs, rfl, _⟩ := h
    rfl
  · obtain ⟨a, y, ps, qs, rfl, ⟨dx, a1, a2, ha, h1, h2⟩, hy⟩ := h
    refine ⟨_, (pss_one (ps_ret (pe_and (pe_callB call_isi (by rfl) T.b_isinstance (by decide +kernel) (pa_cons (pv 1) (pa_cons (pe_glob (v := .ref Ad11) rfl T.gTree rfl) pa_nil))) (pe_and (pe_cmpR (op_eqD hr.units) (pe_fld (pv 0) rfl) (pe_fld (pv 1) rfl) (nomark _)) (pe_one (pe_cmpR (op_eqD hr.units) (pe_fld (pv 0) rfl) (pe_fld (pv 1) rfl) (nomark _))))))), ?_⟩
    rcases hy with ⟨b, ps', qs', rfl, ⟨dy, b1, b2, hb, g1, g2⟩, k⟩ | ⟨t, ty, kt, k⟩
    · refine ⟨_, rfl, _, _, _, _, _, rfl, .own Ad11, .base (.ins hb T.lTree T.iTree.ca T.iTree.cn T.iTree.ct T.iTree.cm), kit_self, _, rfl, iteT ?_⟩
      refine ⟨_, rfl, a, Ad11, dx, _, _, rfl, ha, T.lTree, T.nTree_parents, (by walk_at "lk"), _, rfl, b, Ad11, dy, _, _, rfl, hb, T.lTree, T.nTree_parents, (by walk_at "lk"), _, _, dpT (SqT.of h1), dpT (SqT.of g1), shT _, shT _, ?_⟩
      rw [eqvT]
      refine ⟨_, rfl, ?_⟩
      refine ifD (fun c => ?_) fun c => ?_
      · rw [decide_eq_true c, Bool.true_and] at k
        refine ⟨_, rfl, a, Ad11, dx, _, _, rfl, ha, T.lTree, T.nTree_prices, (by walk_at "lk"), _, rfl, b, Ad11, dy, _, _, rfl, hb, T.lTree, T.nTree_prices, (by walk_at "lk"), _, _, dpT (SqT.of h2), dpT (SqT.of g2), shT _, shT _, ?_⟩
        rw [eqvT]
        exact k
      · rw [decide_eq_false c, Bool.false_and] at k
        exact k
    · refine ⟨_, rfl, _, _, _, _, _, rfl, .own Ad11, ty, kt, _, rfl, iteF ?_⟩
      exact k
theorem scLPool : FnScope ["script", "cells", "cell"] ["script"] (defScope sLPool) := ⟨rfl, rfl, rfl, by decide +kernel, rfl, by decide +kernel, by decide +kernel⟩
theorem ok_LPool (T : Txt P w K mg base Ad1 Ad2 Ad3 Ad4 Ad5 Ad6 Ad7 Ad8 Ad9 Ad10 Ad11) : Cl P w K mg base 1 "_law_pool" (spPool K) [] := by
  refine cl_of T.d__law_pool scLPool (fun vs H Q E h => ?_) fun f cdv A outer s H vs Q E hr h => ?_
  · obtain ⟨a, ns, rfl, _⟩ := h
    rfl
  · obtain ⟨a, ns, rfl, ha, hl, k⟩ := h
    refine ⟨_, (pss_cons (ps_setLc (i := 1) (own := [(("cell" : Str), 2)]) (g := gName 2) (by rfl) scLPool.nd rfl rfl (sw_true rfl rfl rfl (by decide +kernel)) (pi_list (pe_slice sl_list (pv 0) po_none (po_some pe_int))) (blkOk_by (own := [(("cell" : Str), 2)]) (N := ["script", "cells", "cell"]) (sc := defScope sLPool) (by decide +kernel)) (fun _ _ _ _ _ => (pg_name (i := 2) scLPool.nd rfl (by first | exact Or.inl rfl | exact Or.inr rfl))) (fun _ _ _ _ _ => pts_nil) (fun _ _ _ _ _ => (pe_callTy call_intI (by rfl) T.b_int (by decide +kernel) (pa_cons (pv 2) pa_nil))))
  (pss_one (ps_ret (pe_op op_cat (pe_lst (pa_cons (pe_op op_mod (pe_callTy call_intI (by rfl) T.b_int (by decide +kernel) (pa_cons (pe_callB (cr_sum rfl) (by rfl) T.b_sum (by decide +kernel) (pa_cons (pv 1) pa_nil)) pa_nil)) pe_int) pa_nil)) (pe_revL (pv 1)))))), ?_⟩
    obtain ⟨ms, ecut, hms, _⟩ := cut_map V.int ns none (some 63)
    refine ⟨_, rfl, _, rfl, a, _, rfl, ha, ?_⟩
    rw [ecut]
    intro p hp
    refine ⟨p, rfl, ⟨_, SqL.of upd_same⟩, fun D hD => lc_list (K := K) (a := p) (xs := ms.map V.int)
      (fun i H' => Same (upd H p (.lst (ms.map V.int))) H' ∧ ∃ acc : List Int, H' D = some (.lst (acc.map V.int)) ∧ acc.length = i)
      ⟨sm0 hD, [], upd_same, rfl⟩ (fun i H' _ h => h.1.seq (SqL.of upd_same)) (fun i x H' hx h => ?_) fun H' h => ?_⟩
    · obtain ⟨sh, acc, hacc, hlen⟩ := h
      obtain ⟨z, hz, rfl⟩ := ints_at hx
      have hi : i < ms.length := (List.getElem?_eq_some_iff.mp hz).1
      refine ⟨rfl, ?_⟩
      refine ⟨_, rfl, _, rfl, _, hacc, by rw [List.length_map]; exact sz_lt (by omega), smM sh hD, acc ++ [z], ?_, by simp [hlen]⟩
      rw [upd_same, List.map_append]
      rfl
    · obtain ⟨sh, acc, hacc, hlen⟩ := h
      rw [List.length_map] at hlen
      have s1 : Same H H' := (sm0 hp).trans sh
      refine ⟨_, rfl, D, acc, rfl, SqL.of hacc, _, rfl, _, _, rfl, rfl, (by show (0 : Int) < 1000003; decide), ?_⟩
      refine ⟨by show 1 ≤ sizeLine; decide, fun l1 hl1 => ?_⟩
      refine ⟨_, rfl, D, _, rfl, SqL.of (atN hacc hl1), fun l2 hl2 => ?_⟩
      refine ⟨l1, l2, _, _, rfl, rfl, atN upd_same hl2, upd_same, (by simp; exact sz_small (by omega)), fun q hq => ?_⟩
      refine k q _ (smN (smN (smN s1 hl1) hl2) hq) ((smN (smN s1 hl1) hl2).free hq) ⟨acc.sum % 1000003, acc.reverse, ?_, Int.emod_nonneg _ (by decide), ?_, by rw [List.length_reverse]; omega⟩
      · rw [upd_same, ← List.map_reverse]
        rfl
      · have := Int.emod_lt_of_pos acc.sum (show (0 : Int) < 1000003 by decide)
        omega
end
end K11
set_option maxRecDepth 100000
set_option maxHeartbeats 4000000
namespace K11
open PySem PySem.Spec PyProof.Rows L2 SI
local macro_rules | `(tactic| walk_at "lk") => `(tactic| first | exact lk_hit | exact lk_nil | (refine lk_next (by decide +kernel) ?_; walk_at "lk"))
inductive FaultRow (Ad2 Ad4 Ad6 Ad9 Ad10 : Addr) : Addr → List (Str × V) → List V → Prop where
  | bc (x : Str) (n : Int) : FaultRow Ad2 Ad4 Ad6 Ad9 Ad10 Ad2 [("many", .int n), ("what", .str x)] [.str "BadCount", .str x, .int n]
  | bp (n : Int) : FaultRow Ad2 Ad4 Ad6 Ad9 Ad10 Ad9 [("at", .int n)] [.str "BadParent", .int n]
  | bq (n : Int) : FaultRow Ad2 Ad4 Ad6 Ad9 Ad10 Ad10 [("at", .int n)] [.str "BadPrice", .int n]
  | nn (n : Int) : FaultRow Ad2 Ad4 Ad6 Ad9 Ad10 Ad4 [("node", .int n)] [.str "NoNode", .int n]
  | ww (n m : Int) : FaultRow Ad2 Ad4 Ad6 Ad9 Ad10 Ad6 [("need", .int m), ("have", .int n)] [.str "WrongWidth", .int n, .int m]
def spFault (Ad2 Ad4 Ad6 Ad9 Ad10 : Addr) (a : Addr) (cls : Value) (d : Option Addr) : Sp := fun vs H Q _ => ∃ (C dd : Addr) (fs : List (Str × V)) (row : List V), vs = [.ref a] ∧ cls = .ref C ∧ d = some dd ∧ H dd = some (.xd fs) ∧ FaultRow Ad2 Ad4 Ad6 Ad9 Ad10 C fs row ∧
  ∀ q r H', Same H H' → H' r = some (.tup row) → H' q = some (.tup [.ref r]) → Q (.ref q) H'
theorem paired4 {α β : Type} {R : α → β → Prop} {a b c d : α} {x y z t : β} (h1 : R a x) (h2 : R b y) (h3 : R c z) (h4 : R d t) : Paired R [a, b, c, d] [x, y, z, t] := .cons h1 (.cons h2 (.cons h3 (.cons h4 .nil)))
theorem kit4 {K : PySem.W.Frag} {t a b c d : Value} (h1 : PySem.W.kitOne K t a = some false) (h2 : PySem.W.kitOne K t b = some false) (h3 : PySem.W.kitOne K t c = some false) (h4 : PySem.W.kitOne K t d = some false) : PySem.W.kitAny K t [a, b, c, d] = some false :=
  kitAny_cons h1 (fun _ => kitAny_cons h2 (fun _ => kitAny_cons h3 (fun _ => kitAny_cons h4 (fun _ => kitAny_nil) fun z => nomatch z) fun z => nomatch z) fun z => nomatch z) fun z => nomatch z
section
variable {P : Program} {w : World} {K : PySem.W.Frag} {mg : Str → Option Value} {base : Heap} {Ad1 Ad2 Ad3 Ad4 Ad5 Ad6 Ad7 Ad8 Ad9 Ad10 Ad11 : Addr}
theorem scLFault : FnScope ["e", "told"] ["e"] (defScope sLFault) := ⟨rfl, rfl, rfl, by decide +kernel, rfl, by decide +kernel, by decide +kernel⟩
theorem ok_LFaultW (T : Txt P w K mg base Ad1 Ad2 Ad3 Ad4 Ad5 Ad6 Ad7 Ad8 Ad9 Ad10 Ad11) : ClW P w K mg base 1 "_law_fault" (fun p vs H Q E => ∃ cls d, Zc cls d p.2 ∧ (∃ vs, p.2.data = .fields vs) ∧ spFault Ad2 Ad4 Ad6 Ad9 Ad10 p.1 cls d vs H Q E) := by
  refine clW_of T.d__law_fault scLFault (fun p vs H Q E h => ?_) fun f cdv A outer s H vs Q E p hr h => ?_
  · obtain ⟨cls, d, _, _, C, dd, fs, row, rfl, _⟩ := h
    rfl
  · obtain ⟨a, oe⟩ := p
    obtain ⟨cls, d, hz, hf, C, dd, fs, row, rfl, rfl, rfl, hd, hrow, k⟩ := h
    refine ⟨_, (pss_cons (ps_set (i := 1) scLFault.nd rfl (by first | exact Or.inl rfl | exact Or.inr rfl) (pe_lst pa_nil))
  (C8.pss_cut (ps_if (pt_val (pe_callB (call_isX (X := (L2H.cxH CX0 P w K mg base ["e", "told"] "_law_fault" (defScope sLFault) f cdv A outer s H E (a, oe)).nox) T.ek (List.mem_cons_self) hz hf) (by rfl) T.b_isinstance (by decide +kernel) (pa_cons (pv 0) (pa_cons (pe_glob (v := .ref Ad2) rfl T.gBadCount rfl) pa_nil))))
    (pss_one (ps_expr (pe_bm PySem.F.plainAttrs_list PySem.F.slot_list_append PySem.F.type_list_append mt_append (pv 1) (pa_cons (pe_tup (pa_cons pe_str (pa_cons (pe_errF (X := (L2H.cxH CX0 P w K mg base ["e", "told"] "_law_fault" (defScope sLFault) f cdv A outer s H E (a, oe)).nox) (List.mem_cons_self) hz hf (pv 0)) (pa_cons (pe_errF (X := (L2H.cxH CX0 P w K mg base ["e", "told"] "_law_fault" (defScope sLFault) f cdv A outer s H E (a, oe)).nox) (List.mem_cons_self) hz hf (pv 0)) pa_nil)))) pa_nil))))
    pss_nil)
  (C8.pss_cut (ps_if (pt_val (pe_callB (call_isX (X := (L2H.cxH CX0 P w K mg base ["e", "told"] "_law_fault" (defScope sLFault) f cdv A outer s H E (a, oe)).nox) T.ek (List.mem_cons_self) hz hf) (by rfl) T.b_isinstance (by decide +kernel) (pa_cons (pv 0) (pa_cons (pe_glob (v := .ref Ad9) rfl T.gBadParent rfl) pa_nil))))
    (pss_one (ps_expr (pe_bm PySem.F.plainAttrs_list PySem.F.slot_list_append PySem.F.type_list_append mt_append (pv 1) (pa_cons (pe_tup (pa_cons pe_str (pa_cons (pe_errF (X := (L2H.cxH CX0 P w K mg base ["e", "told"] "_law_fault" (defScope sLFault) f cdv A outer s H E (a, oe)).nox) (List.mem_cons_self) hz hf (pv 0)) pa_nil))) pa_nil))))
    pss_nil)
  (C8.pss_cut (ps_if (pt_val (pe_callB (call_isX (X := (L2H.cxH CX0 P w K mg base ["e", "told"] "_law_fault" (defScope sLFault) f cdv A outer s H E (a, oe)).nox) T.ek (List.mem_cons_self) hz hf) (by rfl) T.b_isinstance (by decide +kernel) (pa_cons (pv 0) (pa_cons (pe_glob (v := .ref Ad10) rfl T.gBadPrice rfl) pa_nil))))
    (pss_one (ps_expr (pe_bm PySem.F.plainAttrs_list PySem.F.slot_list_append PySem.F.type_list_append mt_append (pv 1) (pa_cons (pe_tup (pa_cons pe_str (pa_cons (pe_errF (X := (L2H.cxH CX0 P w K mg base ["e", "told"] "_law_fault" (defScope sLFault) f cdv A outer s H E (a, oe)).nox) (List.mem_cons_self) hz hf (pv 0)) pa_nil))) pa_nil))))
    pss_nil)
  (C8.pss_cut (ps_if (pt_val (pe_callB (call_isX (X := (L2H.cxH CX0 P w K mg base ["e", "told"] "_law_fault" (defScope sLFault) f cdv A outer s H E (a, oe)).nox) T.ek (List.mem_cons_self) hz hf) (by rfl) T.b_isinstance (by decide +kernel) (pa_cons (pv 0) (pa_cons (pe_glob (v := .ref Ad4) rfl T.gNoNode rfl) pa_nil))))
    (pss_one (ps_expr (pe_bm PySem.F.plainAttrs_list PySem.F.slot_list_append PySem.F.type_list_append mt_append (pv 1) (pa_cons (pe_tup (pa_cons pe_str (pa_cons (pe_errF (X := (L2H.cxH CX0 P w K mg base ["e", "told"] "_law_fault" (defScope sLFault) f cdv A outer s H E (a, oe)).nox) (List.mem_cons_self) hz hf (pv 0)) pa_nil))) pa_nil))))
    pss_nil)
  (C8.pss_cut (ps_if (pt_val (pe_callB (call_isX (X := (L2H.cxH CX0 P w K mg base ["e", "told"] "_law_fault" (defScope sLFault) f cdv A outer s H E (a, oe)).nox) T.ek (List.mem_cons_self) hz hf) (by rfl) T.b_isinstance (by decide +kernel) (pa_cons (pv 0) (pa_cons (pe_glob (v := .ref Ad6) rfl T.gWrongWidth rfl) pa_nil))))
    (pss_one (ps_expr (pe_bm PySem.F.plainAttrs_list PySem.F.slot_list_append PySem.F.type_list_append mt_append (pv 1) (pa_cons (pe_tup (pa_cons pe_str (pa_cons (pe_errF (X := (L2H.cxH CX0 P w K mg base ["e", "told"] "_law_fault" (defScope sLFault) f cdv A outer s H E (a, oe)).nox) (List.mem_cons_self) hz hf (pv 0)) (pa_cons (pe_errF (X := (L2H.cxH CX0 P w K mg base ["e", "told"] "_law_fault" (defScope sLFault) f cdv A outer s H E (a, oe)).nox) (List.mem_cons_self) hz hf (pv 0)) pa_nil)))) pa_nil))))
    pss_nil)
  (C8.pss_cut (ps_if (pt_val (pe_callB (call_isXT (X := (L2H.cxH CX0 P w K mg base ["e", "told"] "_law_fault" (defScope sLFault) f cdv A outer s H E (a, oe)).nox) T.ek (List.mem_cons_self) hz hf) (by rfl) T.b_isinstance (by decide +kernel) (pa_cons (pv 0) (pa_cons (pe_tup (pa_cons (pe_glob (v := .ref Ad7) rfl T.gBadNext rfl) (pa_cons (pe_glob (v := .ref Ad8) rfl T.gBadWeight rfl) (pa_cons (pe_glob (v := .ref Ad3) rfl T.gNotPebbles rfl) (pa_cons (pe_glob (v := .ref Ad5) rfl T.gUnlikeWidths rfl) pa_nil))))) pa_nil))))
    (pss_one (ps_expr (pe_bm PySem.F.plainAttrs_list PySem.F.slot_list_append PySem.F.type_list_append mt_append (pv 1) (pa_cons (pe_tup (pa_cons pe_str (pa_cons pe_int pa_nil))) pa_nil))))
    pss_nil)
  (C8.pss_cut (ps_if (pt_not (pt_val (pe_callB (call_isX (X := (L2H.cxH CX0 P w K mg base ["e", "told"] "_law_fault" (defScope sLFault) f cdv A outer s H E (a, oe)).nox) T.ek (List.mem_cons_self) hz hf) (by rfl) T.b_isinstance (by decide +kernel) (pa_cons (pv 0) (pa_cons (pe_bltn (v := .ty "ValueError") (u := .type "ValueError") (by rfl) T.b_ValueError (by decide +kernel) rfl) pa_nil)))))
    (pss_one (ps_expr (pe_bm PySem.F.plainAttrs_list PySem.F.slot_list_append PySem.F.type_list_append mt_append (pv 1) (pa_cons (pe_tup (pa_cons pe_str (pa_cons pe_int pa_nil))) pa_nil))))
    pss_nil)
  (pss_one (ps_ret (pe_callTy call_tuple_of (by rfl) T.b_tuple (by decide +kernel) (pa_cons (pv 1) pa_nil)))))))))))), ?_⟩
    cases hrow with
    | bc x n =>
      refine ⟨by show 0 ≤ sizeLine; decide, fun l hl => ?_⟩
      have hd1 := atN (o := .lst []) hd hl
      have s1 : Same H (upd H l (.lst [])) := sm0 hl
      have hl1 : upd H l (.lst []) l = some (.lst []) := upd_same
      have hl0 := hl
      generalize upd H l (.lst []) = H1 at hd1 s1 hl1 ⊢
      refine ⟨fun σ' H' => ∃ (l r : Addr), σ' = [some (.ref a), some (.ref l)] ∧ Same H H' ∧ H' dd = some (.xd [("many", .int n), ("what", .str x)]) ∧ H' r = some (.tup [.str "BadCount", .str x, .int n]) ∧ H' l = some (.lst [.ref r]), ?_, ?_⟩
      · have tr : ∀ d0, some dd = some d0 → ∃ fs, H1 d0 = some (.xd fs) := fun d0 e => by cases e; exact ⟨_, hd1⟩
        refine ⟨_, rfl, Ad2, _, _, true, rfl, T.eBadCount, rfl, .own Ad2, T.tBadCount_BadCount, tr, _, rfl, iteT ?_⟩
        refine ⟨_, rfl, .inl ⟨rfl, _, SqL.of hl1⟩, Ad2, dd, rfl, T.eBadCount, T.fBadCount_what, rfl, _, rfl, rfl, _, _, hd1, (by walk_at "lk"), Ad2, dd, rfl, T.eBadCount, T.fBadCount_many, rfl, _, rfl, rfl, _, _, hd1, (by walk_at "lk"), (by show 3 ≤ sizeLine; decide), fun r hr1 => ?_⟩
        refine ⟨l, _, _, rfl, rfl, atN hl1 hr1, (by show 0 < sizeLine; decide), ?_⟩
        have s2 := smN s1 (q := r) (o := .tup [.str "BadCount", .str x, .int n]) hr1
        have g1 := atN (o := .tup [.str "BadCount", .str x, .int n]) hd1 hr1
        have g2 := atN (o := .tup [.str "BadCount", .str x, .int n]) hl1 hr1
        have g3 : upd H1 r (.tup [.str "BadCount", .str x, .int n]) r = some (.tup [.str "BadCount", .str x, .int n]) := upd_same
        exact ⟨l, r, rfl, smM s2 hl0, (upd_ne (ne_of g1 g2 (by intro z; cases z))).trans g1, (upd_ne (ne_of g3 g2 (by intro z; cases z))).trans g3, upd_same⟩
      rintro _ H1 ⟨l, r, rfl, s1, hd1, hr1, hl1⟩
      refine ⟨fun σ' H' => ∃ (l r : Addr), σ' = [some (.ref a), some (.ref l)] ∧ Same H H' ∧ H' dd = some (.xd [("many", .int n), ("what", .str x)]) ∧ H' r = some (.tup [.str "BadCount", .str x, .int n]) ∧ H' l = some (.lst [.ref r]), ?_, ?_⟩
      · have tr : ∀ d0, some dd = some d0 → ∃ fs, H1 d0 = some (.xd fs) := fun d0 e => by cases e; exact ⟨_, hd1⟩
        refine ⟨_, rfl, Ad2, _, _, false, rfl, T.eBadCount, rfl, .own Ad9, T.tBadCount_BadParent, tr, _, rfl, iteF ?_⟩
        exact ⟨l, r, rfl, s1, hd1, hr1, hl1⟩
      rintro _ H1 ⟨l, r, rfl, s1, hd1, hr1, hl1⟩
      refine ⟨fun σ' H' => ∃ (l r : Addr), σ' = [some (.ref a), some (.ref l)] ∧ Same H H' ∧ H' dd = some (.xd [("many", .int n), ("what", .str x)]) ∧ H' r = some (.tup [.str "BadCount", .str x, .int n]) ∧ H' l = some (.lst [.ref r]), ?_, ?_⟩
      · have tr : ∀ d0, some dd = some d0 → ∃ fs, H1 d0 = some (.xd fs) := fun d0 e => by cases e; exact ⟨_, hd1⟩
        refine ⟨_, rfl, Ad2, _, _, false, rfl, T.eBadCount, rfl, .own Ad10, T.tBadCount_BadPrice, tr, _, rfl, iteF ?_⟩
        exact ⟨l, r, rfl, s1, hd1, hr1, hl1⟩
      rintro _ H1 ⟨l, r, rfl, s1, hd1, hr1, hl1⟩
      refine ⟨fun σ' H' => ∃ (l r : Addr), σ' = [some (.ref a), some (.ref l)] ∧ Same H H' ∧ H' dd = some (.xd [("many", .int n), ("what", .str x)]) ∧ H' r = some (.tup [.str "BadCount", .str x, .int n]) ∧ H' l = some (.lst [.ref r]), ?_, ?_⟩
      · have tr : ∀ d0, some dd = some d0 → ∃ fs, H1 d0 = some (.xd fs) := fun d0 e => by cases e; exact ⟨_, hd1⟩
        refine ⟨_, rfl, Ad2, _, _, false, rfl, T.eBadCount, rfl, .own Ad4, T.tBadCount_NoNode, tr, _, rfl, iteF ?_⟩
        exact ⟨l, r, rfl, s1, hd1, hr1, hl1⟩
      rintro _ H1 ⟨l, r, rfl, s1, hd1, hr1, hl1⟩
      refine ⟨fun σ' H' => ∃ (l r : Addr), σ' = [some (.ref a), some (.ref l)] ∧ Same H H' ∧ H' dd = some (.xd [("many", .int n), ("what", .str x)]) ∧ H' r = some (.tup [.str "BadCount", .str x, .int n]) ∧ H' l = some (.lst [.ref r]), ?_, ?_⟩
      · have tr : ∀ d0, some dd = some d0 → ∃ fs, H1 d0 = some (.xd fs) := fun d0 e => by cases e; exact ⟨_, hd1⟩
        refine ⟨_, rfl, Ad2, _, _, false, rfl, T.eBadCount, rfl, .own Ad6, T.tBadCount_WrongWidth, tr, _, rfl, iteF ?_⟩
        exact ⟨l, r, rfl, s1, hd1, hr1, hl1⟩
      rintro _ H1 ⟨l, r, rfl, s1, hd1, hr1, hl1⟩
      refine ⟨fun σ' H' => ∃ (l r : Addr), σ' = [some (.ref a), some (.ref l)] ∧ Same H H' ∧ H' dd = some (.xd [("many", .int n), ("what", .str x)]) ∧ H' r = some (.tup [.str "BadCount", .str x, .int n]) ∧ H' l = some (.lst [.ref r]), ?_, ?_⟩
      · have tr : ∀ d0, some dd = some d0 → ∃ fs, H1 d0 = some (.xd fs) := fun d0 e => by cases e; exact ⟨_, hd1⟩
        refine ⟨_, rfl, (by show 4 ≤ sizeLine; decide), fun tp htp => ?_⟩
        refine ⟨Ad2, tp, _, _, false, rfl, T.eBadCount, rfl, upd_same, paired4 (.own Ad7) (.own Ad8) (.own Ad3) (.own Ad5), kit4 T.tBadCount_BadNext T.tBadCount_BadWeight T.tBadCount_NotPebbles T.tBadCount_UnlikeWidths, (fun d0 e => by cases e; exact ⟨_, atN hd1 htp⟩), _, rfl, iteF ?_⟩
        exact ⟨l, r, rfl, smN s1 htp, atN hd1 htp, atN hr1 htp, atN hl1 htp⟩
      rintro _ H1 ⟨l, r, rfl, s1, hd1, hr1, hl1⟩
      refine ⟨fun σ' H' => ∃ (l r : Addr), σ' = [some (.ref a), some (.ref l)] ∧ Same H H' ∧ H' dd = some (.xd [("many", .int n), ("what", .str x)]) ∧ H' r = some (.tup [.str "BadCount", .str x, .int n]) ∧ H' l = some (.lst [.ref r]), ?_, ?_⟩
      · have tr : ∀ d0, some dd = some d0 → ∃ fs, H1 d0 = some (.xd fs) := fun d0 e => by cases e; exact ⟨_, hd1⟩
        refine ⟨_, rfl, Ad2, _, _, true, rfl, T.eBadCount, rfl, .ty "ValueError", T.tBadCount_ValueError, tr, _, rfl, iteF ?_⟩
        exact ⟨l, r, rfl, s1, hd1, hr1, hl1⟩
      rintro _ H1 ⟨l, r, rfl, s1, hd1, hr1, hl1⟩
      refine ⟨_, rfl, l, _, rfl, .inl ⟨SqL.of hl1, fun q hq => ?_⟩⟩
      exact k q r _ (smN s1 hq) (atN hr1 hq) upd_same
    | bp n =>
      refine ⟨by show 0 ≤ sizeLine; decide, fun l hl => ?_⟩
      have hd1 := atN (o := .lst []) hd hl
      have s1 : Same H (upd H l (.lst [])) := sm0 hl
      have hl1 : upd H l (.lst []) l = some (.lst []) := upd_same
      have hl0 := hl
      generalize upd H l (.lst []) = H1 at hd1 s1 hl1 ⊢
      refine ⟨fun σ' H' => ∃ (l : Addr), σ' = [some (.ref a), some (.ref l)] ∧ Same H H' ∧ H' dd = some (.xd [("at", .int n)]) ∧ H l = none ∧ H' l = some (.lst []), ?_, ?_⟩
      · have tr : ∀ d0, some dd = some d0 → ∃ fs, H1 d0 = some (.xd fs) := fun d0 e => by cases e; exact ⟨_, hd1⟩
        refine ⟨_, rfl, Ad9, _, _, false, rfl, T.eBadParent, rfl, .own Ad2, T.tBadParent_BadCount, tr, _, rfl, iteF ?_⟩
        exact ⟨l, rfl, s1, hd1, hl0, hl1⟩
      rintro _ H1 ⟨l, rfl, s1, hd1, hl0, hl1⟩
      refine ⟨fun σ' H' => ∃ (l r : Addr), σ' = [some (.ref a), some (.ref l)] ∧ Same H H' ∧ H' dd = some (.xd [("at", .int n)]) ∧ H' r = some (.tup [.str "BadParent", .int n]) ∧ H' l = some (.lst [.ref r]), ?_, ?_⟩
      · have tr : ∀ d0, some dd = some d0 → ∃ fs, H1 d0 = some (.xd fs) := fun d0 e => by cases e; exact ⟨_, hd1⟩
        refine ⟨_, rfl, Ad9, _, _, true, rfl, T.eBadParent, rfl, .own Ad9, T.tBadParent_BadParent, tr, _, rfl, iteT ?_⟩
        refine ⟨_, rfl, .inl ⟨rfl, _, SqL.of hl1⟩, Ad9, dd, rfl, T.eBadParent, T.fBadParent_at, rfl, _, rfl, rfl, _, _, hd1, (by walk_at "lk"), (by show 2 ≤ sizeLine; decide), fun r hr1 => ?_⟩
        refine ⟨l, _, _, rfl, rfl, atN hl1 hr1, (by show 0 < sizeLine; decide), ?_⟩
        have s2 := smN s1 (q := r) (o := .tup [.str "BadParent", .int n]) hr1
        have g1 := atN (o := .tup [.str "BadParent", .int n]) hd1 hr1
        have g2 := atN (o := .tup [.str "BadParent", .int n]) hl1 hr1
        have g3 : upd H1 r (.tup [.str "BadParent", .int n]) r = some (.tup [.str "BadParent", .int n]) := upd_same
        exact ⟨l, r, rfl, smM s2 hl0, (upd_ne (ne_of g1 g2 (by intro z; cases z))).trans g1, (upd_ne (ne_of g3 g2 (by intro z; cases z))).trans g3, upd_same⟩
      rintro _ H1 ⟨l, r, rfl, s1, hd1, hr1, hl1⟩
      refine ⟨fun σ' H' => ∃ (l r : Addr), σ' = [some (.ref a), some (.ref l)] ∧ Same H H' ∧ H' dd = some (.xd [("at", .int n)]) ∧ H' r = some (.tup [.str "BadParent", .int n]) ∧ H' l = some (.lst [.ref r]), ?_, ?_⟩
      · have tr : ∀ d0, some dd = some d0 → ∃ fs, H1 d0 = some (.xd fs) := fun d0 e => by cases e; exact ⟨_, hd1⟩
        refine ⟨_, rfl, Ad9, _, _, false, rfl, T.eBadParent, rfl, .own Ad10, T.tBadParent_BadPrice, tr, _, rfl, iteF ?_⟩
        exact ⟨l, r, rfl, s1, hd1, hr1, hl1⟩
      rintro _ H1 ⟨l, r, rfl, s1, hd1, hr1, hl1⟩
      refine ⟨fun σ' H' => ∃ (l r : Addr), σ' = [some (.ref a), some (.ref l)] ∧ Same H H' ∧ H' dd = some (.xd [("at", .int n)]) ∧ H' r = some (.tup [.str "BadParent", .int n]) ∧ H' l = some (.lst [.ref r]), ?_, ?_⟩
      · have tr : ∀ d0, some dd = some d0 → ∃ fs, H1 d0 = some (.xd fs) := fun d0 e => by cases e; exact ⟨_, hd1⟩
        refine ⟨_, rfl, Ad9, _, _, false, rfl, T.eBadParent, rfl, .own Ad4, T.tBadParent_NoNode, tr, _, rfl, iteF ?_⟩
        exact ⟨l, r, rfl, s1, hd1, hr1, hl1⟩
      rintro _ H1 ⟨l, r, rfl, s1, hd1, hr1, hl1⟩
      refine ⟨fun σ' H' => ∃ (l r : Addr), σ' = [some (.ref a), some (.ref l)] ∧ Same H H' ∧ H' dd = some (.xd [("at", .int n)]) ∧ H' r = some (.tup [.str "BadParent", .int n]) ∧ H' l = some (.lst [.ref r]), ?_, ?_⟩
      · have tr : ∀ d0, some dd = some d0 → ∃ fs, H1 d0 = some (.xd fs) := fun d0 e => by cases e; exact ⟨_, hd1⟩
        refine ⟨_, rfl, Ad9, _, _, false, rfl, T.eBadParent, rfl, .own Ad6, T.tBadParent_WrongWidth, tr, _, rfl, iteF ?_⟩
        exact ⟨l, r, rfl, s1, hd1, hr1, hl1⟩
      rintro _ H1 ⟨l, r, rfl, s1, hd1, hr1, hl1⟩
      refine ⟨fun σ' H' => ∃ (l r : Addr), σ' = [some (.ref a), some (.ref l)] ∧ Same H H' ∧ H' dd = some (.xd [("at", .int n)]) ∧ H' r = some (.tup [.str "BadParent", .int n]) ∧ H' l = some (.lst [.ref r]), ?_, ?_⟩
      · have tr : ∀ d0, some dd = some d0 → ∃ fs, H1 d0 = some (.xd fs) := fun d0 e => by cases e; exact ⟨_, hd1⟩
        refine ⟨_, rfl, (by show 4 ≤ sizeLine; decide), fun tp htp => ?_⟩
        refine ⟨Ad9, tp, _, _, false, rfl, T.eBadParent, rfl, upd_same, paired4 (.own Ad7) (.own Ad8) (.own Ad3) (.own Ad5), kit4 T.tBadParent_BadNext T.tBadParent_BadWeight T.tBadParent_NotPebbles T.tBadParent_UnlikeWidths, (fun d0 e => by cases e; exact ⟨_, atN hd1 htp⟩), _, rfl, iteF ?_⟩
        exact ⟨l, r, rfl, smN s1 htp, atN hd1 htp, atN hr1 htp, atN hl1 htp⟩
      rintro _ H1 ⟨l, r, rfl, s1, hd1, hr1, hl1⟩
      refine ⟨fun σ' H' => ∃ (l r : Addr), σ' = [some (.ref a), some (.ref l)] ∧ Same H H' ∧ H' dd = some (.xd [("at", .int n)]) ∧ H' r = some (.tup [.str "BadParent", .int n]) ∧ H' l = some (.lst [.ref r]), ?_, ?_⟩
      · have tr : ∀ d0, some dd = some d0 → ∃ fs, H1 d0 = some (.xd fs) := fun d0 e => by cases e; exact ⟨_, hd1⟩
        refine ⟨_, rfl, Ad9, _, _, true, rfl, T.eBadParent, rfl, .ty "ValueError", T.tBadParent_ValueError, tr, _, rfl, iteF ?_⟩
        exact ⟨l, r, rfl, s1, hd1, hr1, hl1⟩
      rintro _ H1 ⟨l, r, rfl, s1, hd1, hr1, hl1⟩
      refine ⟨_, rfl, l, _, rfl, .inl ⟨SqL.of hl1, fun q hq => ?_⟩⟩
      exact k q r _ (smN s1 hq) (atN hr1 hq) upd_same
    | bq n =>
      refine ⟨by show 0 ≤ sizeLine; decide, fun l hl => ?_⟩
      have hd1 := atN (o := .lst []) hd hl
      have s1 : Same H (upd H l (.lst [])) := sm0 hl
      have hl1 : upd H l (.lst []) l = some (.lst []) := upd_same
      have hl0 := hl
      generalize upd H l (.lst []) = H1 at hd1 s1 hl1 ⊢
      refine ⟨fun σ' H' => ∃ (l : Addr), σ' = [some (.ref a), some (.ref l)] ∧ Same H H' ∧ H' dd = some (.xd [("at", .int n)]) ∧ H l = none ∧ H' l = some (.lst []), ?_, ?_⟩
      · have tr : ∀ d0, some dd = some d0 → ∃ fs, H1 d0 = some (.xd fs) := fun d0 e => by cases e; exact ⟨_, hd1⟩
        refine ⟨_, rfl, Ad10, _, _, false, rfl, T.eBadPrice, rfl, .own Ad2, T.tBadPrice_BadCount, tr, _, rfl, iteF ?_⟩
        exact ⟨l, rfl, s1, hd1, hl0, hl1⟩
      rintro _ H1 ⟨l, rfl, s1, hd1, hl0, hl1⟩
      refine ⟨fun σ' H' => ∃ (l : Addr), σ' = [some (.ref a), some (.ref l)] ∧ Same H H' ∧ H' dd = some (.xd [("at", .int n)]) ∧ H l = none ∧ H' l = some (.lst []), ?_, ?_⟩
      · have tr : ∀ d0, some dd = some d0 → ∃ fs, H1 d0 = some (.xd fs) := fun d0 e => by cases e; exact ⟨_, hd1⟩
        refine ⟨_, rfl, Ad10, _, _, false, rfl, T.eBadPrice, rfl, .own Ad9, T.tBadPrice_BadParent, tr, _, rfl, iteF ?_⟩
        exact ⟨l, rfl, s1, hd1, hl0, hl1⟩
      rintro _ H1 ⟨l, rfl, s1, hd1, hl0, hl1⟩
      refine ⟨fun σ' H' => ∃ (l r : Addr), σ' = [some (.ref a), some (.ref l)] ∧ Same H H' ∧ H' dd = some (.xd [("at", .int n)]) ∧ H' r = some (.tup [.str "BadPrice", .int n]) ∧ H' l = some (.lst [.ref r]), ?_, ?_⟩
      · have tr : ∀ d0, some dd = some d0 → ∃ fs, H1 d0 = some (.xd fs) := fun d0 e => by cases e; exact ⟨_, hd1⟩
        refine ⟨_, rfl, Ad10, _, _, true, rfl, T.eBadPrice, rfl, .own Ad10, T.tBadPrice_BadPrice, tr, _, rfl, iteT ?_⟩
        refine ⟨_, rfl, .inl ⟨rfl, _, SqL.of hl1⟩, Ad10, dd, rfl, T.eBadPrice, T.fBadPrice_at, rfl, _, rfl, rfl, _, _, hd1, (by walk_at "lk"), (by show 2 ≤ sizeLine; decide), fun r hr1 => ?_⟩
        refine ⟨l, _, _, rfl, rfl, atN hl1 hr1, (by show 0 < sizeLine; decide), ?_⟩
        have s2 := smN s1 (q := r) (o := .tup [.str "BadPrice", .int n]) hr1
        have g1 := atN (o := .tup [.str "BadPrice", .int n]) hd1 hr1
        have g2 := atN (o := .tup [.str "BadPrice", .int n]) hl1 hr1
        have g3 : upd H1 r (.tup [.str "BadPrice", .int n]) r = some (.tup [.str "BadPrice", .int n]) := upd_same
        exact ⟨l, r, rfl, smM s2 hl0, (upd_ne (ne_of g1 g2 (by intro z; cases z))).trans g1, (upd_ne (ne_of g3 g2 (by intro z; cases z))).trans g3, upd_same⟩
      rintro _ H1 ⟨l, r, rfl, s1, hd1, hr1, hl1⟩
      refine ⟨fun σ' H' => ∃ (l r : Addr), σ' = [some (.ref a), some (.ref l)] ∧ Same H H' ∧ H' dd = some (.xd [("at", .int n)]) ∧ H' r = some (.tup [.str "BadPrice", .int n]) ∧ H' l = some (.lst [.ref r]), ?_, ?_⟩
      · have tr : ∀ d0, some dd = some d0 → ∃ fs, H1 d0 = some (.xd fs) := fun d0 e => by cases e; exact ⟨_, hd1⟩
        refine ⟨_, rfl, Ad10, _, _, false, rfl, T.eBadPrice, rfl, .own Ad4, T.tBadPrice_NoNode, tr, _, rfl, iteF ?_⟩
        exact ⟨l, r, rfl, s1, hd1, hr1, hl1⟩
      rintro _ H1 ⟨l, r, rfl, s1, hd1, hr1, hl1⟩
      refine ⟨fun σ' H' => ∃ (l r : Addr), σ' = [some (.ref a), some (.ref l)] ∧ Same H H' ∧ H' dd = some (.xd [("at", .int n)]) ∧ H' r = some (.tup [.str "BadPrice", .int n]) ∧ H' l = some (.lst [.ref r]), ?_, ?_⟩
      · have tr : ∀ d0, some dd = some d0 → ∃ fs, H1 d0 = some (.xd fs) := fun d0 e => by cases e; exact ⟨_, hd1⟩
        refine ⟨_, rfl, Ad10, _, _, false, rfl, T.eBadPrice, rfl, .own Ad6, T.tBadPrice_WrongWidth, tr, _, rfl, iteF ?_⟩
        exact ⟨l, r, rfl, s1, hd1, hr1, hl1⟩
      rintro _ H1 ⟨l, r, rfl, s1, hd1, hr1, hl1⟩
      refine ⟨fun σ' H' => ∃ (l r : Addr), σ' = [some (.ref a), some (.ref l)] ∧ Same H H' ∧ H' dd = some (.xd [("at", .int n)]) ∧ H' r = some (.tup [.str "BadPrice", .int n]) ∧ H' l = some (.lst [.ref r]), ?_, ?_⟩
      · have tr : ∀ d0, some dd = some d0 → ∃ fs, H1 d0 = some (.xd fs) := fun d0 e => by cases e; exact ⟨_, hd1⟩
        refine ⟨_, rfl, (by show 4 ≤ sizeLine; decide), fun tp htp => ?_⟩
        refine ⟨Ad10, tp, _, _, false, rfl, T.eBadPrice, rfl, upd_same, paired4 (.own Ad7) (.own Ad8) (.own Ad3) (.own Ad5), kit4 T.tBadPrice_BadNext T.tBadPrice_BadWeight T.tBadPrice_NotPebbles T.tBadPrice_UnlikeWidths, (fun d0 e => by cases e; exact ⟨_, atN hd1 htp⟩), _, rfl, iteF ?_⟩
        exact ⟨l, r, rfl, smN s1 htp, atN hd1 htp, atN hr1 htp, atN hl1 htp⟩
      rintro _ H1 ⟨l, r, rfl, s1, hd1, hr1, hl1⟩
      refine ⟨fun σ' H' => ∃ (l r : Addr), σ' = [some (.ref a), some (.ref l)] ∧ Same H H' ∧ H' dd = some (.xd [("at", .int n)]) ∧ H' r = some (.tup [.str "BadPrice", .int n]) ∧ H' l = some (.lst [.ref r]), ?_, ?_⟩
      · have tr : ∀ d0, some dd = some d0 → ∃ fs, H1 d0 = some (.xd fs) := fun d0 e => by cases e; exact ⟨_, hd1⟩
        refine ⟨_, rfl, Ad10, _, _, true, rfl, T.eBadPrice, rfl, .ty "ValueError", T.tBadPrice_ValueError, tr, _, rfl, iteF ?_⟩
        exact ⟨l, r, rfl, s1, hd1, hr1, hl1⟩
      rintro _ H1 ⟨l, r, rfl, s1, hd1, hr1, hl1⟩
      refine ⟨_, rfl, l, _, rfl, .inl ⟨SqL.of hl1, fun q hq => ?_⟩⟩
      exact k q r _ (smN s1 hq) (atN hr1 hq) upd_same
    | nn n =>
      refine ⟨by show 0 ≤ sizeLine; decide, fun l hl => ?_⟩
      have hd1 := atN (o := .lst []) hd hl
      have s1 : Same H (upd H l (.lst [])) := sm0 hl
      have hl1 : upd H l (.lst []) l = some (.lst []) := upd_same
      have hl0 := hl
      generalize upd H l (.lst []) = H1 at hd1 s1 hl1 ⊢
      refine ⟨fun σ' H' => ∃ (l : Addr), σ' = [some (.ref a), some (.ref l)] ∧ Same H H' ∧ H' dd = some (.xd [("node", .int n)]) ∧ H l = none ∧ H' l = some (.lst []), ?_, ?_⟩
      · have tr : ∀ d0, some dd = some d0 → ∃ fs, H1 d0 = some (.xd fs) := fun d0 e => by cases e; exact ⟨_, hd1⟩
        refine ⟨_, rfl, Ad4, _, _, false, rfl, T.eNoNode, rfl, .own Ad2, T.tNoNode_BadCount, tr, _, rfl, iteF ?_⟩
        exact ⟨l, rfl, s1, hd1, hl0, hl1⟩
      rintro _ H1 ⟨l, rfl, s1, hd1, hl0, hl1⟩
      refine ⟨fun σ' H' => ∃ (l : Addr), σ' = [some (.ref a), some (.ref l)] ∧ Same H H' ∧ H' dd = some (.xd [("node", .int n)]) ∧ H l = none ∧ H' l = some (.lst []), ?_, ?_⟩
      · have tr : ∀ d0, some dd = some d0 → ∃ fs, H1 d0 = some (.xd fs) := fun d0 e => by cases e; exact ⟨_, hd1⟩
        refine ⟨_, rfl, Ad4, _, _, false, rfl, T.eNoNode, rfl, .own Ad9, T.tNoNode_BadParent, tr, _, rfl, iteF ?_⟩
        exact ⟨l, rfl, s1, hd1, hl0, hl1⟩
      rintro _ H1 ⟨l, rfl, s1, hd1, hl0, hl1⟩
      refine ⟨fun σ' H' => ∃ (l : Addr), σ' = [some (.ref a), some (.ref l)] ∧ Same H H' ∧ H' dd = some (.xd [("node", .int n)]) ∧ H l = none ∧ H' l = some (.lst []), ?_, ?_⟩
      · have tr : ∀ d0, some dd = some d0 → ∃ fs, H1 d0 = some (.xd fs) := fun d0 e => by cases e; exact ⟨_, hd1⟩
        refine ⟨_, rfl, Ad4, _, _, false, rfl, T.eNoNode, rfl, .own Ad10, T.tNoNode_BadPrice, tr, _, rfl, iteF ?_⟩
        exact ⟨l, rfl, s1, hd1, hl0, hl1⟩
      rintro _ H1 ⟨l, rfl, s1, hd1, hl0, hl1⟩
      refine ⟨fun σ' H' => ∃ (l r : Addr), σ' = [some (.ref a), some (.ref l)] ∧ Same H H' ∧ H' dd = some (.xd [("node", .int n)]) ∧ H' r = some (.tup [.str "NoNode", .int n]) ∧ H' l = some (.lst [.ref r]), ?_, ?_⟩
      · have tr : ∀ d0, some dd = some d0 → ∃ fs, H1 d0 = some (.xd fs) := fun d0 e => by cases e; exact ⟨_, hd1⟩
        refine ⟨_, rfl, Ad4, _, _, true, rfl, T.eNoNode, rfl, .own Ad4, T.tNoNode_NoNode, tr, _, rfl, iteT ?_⟩
        refine ⟨_, rfl, .inl ⟨rfl, _, SqL.of hl1⟩, Ad4, dd, rfl, T.eNoNode, T.fNoNode_node, rfl, _, rfl, rfl, _, _, hd1, (by walk_at "lk"), (by show 2 ≤ sizeLine; decide), fun r hr1 => ?_⟩
        refine ⟨l, _, _, rfl, rfl, atN hl1 hr1, (by show 0 < sizeLine; decide), ?_⟩
        have s2 := smN s1 (q := r) (o := .tup [.str "NoNode", .int n]) hr1
        have g1 := atN (o := .tup [.str "NoNode", .int n]) hd1 hr1
        have g2 := atN (o := .tup [.str "NoNode", .int n]) hl1 hr1
        have g3 : upd H1 r (.tup [.str "NoNode", .int n]) r = some (.tup [.str "NoNode", .int n]) := upd_same
        exact ⟨l, r, rfl, smM s2 hl0, (upd_ne (ne_of g1 g2 (by intro z; cases z))).trans g1, (upd_ne (ne_of g3 g2 (by intro z; cases z))).trans g3, upd_same⟩
      rintro _ H1 ⟨l, r, rfl, s1, hd1, hr1, hl1⟩
      refine ⟨fun σ' H' => ∃ (l r : Addr), σ' = [some (.ref a), some (.ref l)] ∧ Same H H' ∧ H' dd = some (.xd [("node", .int n)]) ∧ H' r = some (.tup [.str "NoNode", .int n]) ∧ H' l = some (.lst [.ref r]), ?_, ?_⟩
      · have tr : ∀ d0, some dd = some d0 → ∃ fs, H1 d0 = some (.xd fs) := fun d0 e => by cases e; exact ⟨_, hd1⟩
        refine ⟨_, rfl, Ad4, _, _, false, rfl, T.eNoNode, rfl, .own Ad6, T.tNoNode_WrongWidth, tr, _, rfl, iteF ?_⟩
        exact ⟨l, r, rfl, s1, hd1, hr1, hl1⟩
      rintro _ H1 ⟨l, r, rfl, s1, hd1, hr1, hl1⟩
      refine ⟨fun σ' H' => ∃ (l r : Addr), σ' = [some (.ref a), some (.ref l)] ∧ Same H H' ∧ H' dd = some (.xd [("node", .int n)]) ∧ H' r = some (.tup [.str "NoNode", .int n]) ∧ H' l = some (.lst [.ref r]), ?_, ?_⟩
      · have tr : ∀ d0, some dd = some d0 → ∃ fs, H1 d0 = some (.xd fs) := fun d0 e => by cases e; exact ⟨_, hd1⟩
        refine ⟨_, rfl, (by show 4 ≤ sizeLine; decide), fun tp htp => ?_⟩
        refine ⟨Ad4, tp, _, _, false, rfl, T.eNoNode, rfl, upd_same, paired4 (.own Ad7) (.own Ad8) (.own Ad3) (.own Ad5), kit4 T.tNoNode_BadNext T.tNoNode_BadWeight T.tNoNode_NotPebbles T.tNoNode_UnlikeWidths, (fun d0 e => by cases e; exact ⟨_, atN hd1 htp⟩), _, rfl, iteF ?_⟩
        exact ⟨l, r, rfl, smN s1 htp, atN hd1 htp, atN hr1 htp, atN hl1 htp⟩
      rintro _ H1 ⟨l, r, rfl, s1, hd1, hr1, hl1⟩
      refine ⟨fun σ' H' => ∃ (l r : Addr), σ' = [some (.ref a), some (.ref l)] ∧ Same H H' ∧ H' dd = some (.xd [("node", .int n)]) ∧ H' r = some (.tup [.str "NoNode", .int n]) ∧ H' l = some (.lst [.ref r]), ?_, ?_⟩
      · have tr : ∀ d0, some dd = some d0 → ∃ fs, H1 d0 = some (.xd fs) := fun d0 e => by cases e; exact ⟨_, hd1⟩
        refine ⟨_, rfl, Ad4, _, _, true, rfl, T.eNoNode, rfl, .ty "ValueError", T.tNoNode_ValueError, tr, _, rfl, iteF ?_⟩
        exact ⟨l, r, rfl, s1, hd1, hr1, hl1⟩
      rintro _ H1 ⟨l, r, rfl, s1, hd1, hr1, hl1⟩
      refine ⟨_, rfl, l, _, rfl, .inl ⟨SqL.of hl1, fun q hq => ?_⟩⟩
      exact k q r _ (smN s1 hq) (atN hr1 hq) upd_same
    | ww n m =>
      refine ⟨by show 0 ≤ sizeLine; decide, fun l hl => ?_⟩
      have hd1 := atN (o := .lst []) hd hl
      have s1 : Same H (upd H l (.lst [])) := sm0 hl
      have hl1 : upd H l (.lst []) l = some (.lst []) := upd_same
      have hl0 := hl
      generalize upd H l (.lst []) = H1 at hd1 s1 hl1 ⊢
      refine ⟨fun σ' H' => ∃ (l : Addr), σ' = [some (.ref a), some (.ref l)] ∧ Same H H' ∧ H' dd = some (.xd [("need", .int m), ("have", .int n)]) ∧ H l = none ∧ H' l = some (.lst []), ?_, ?_⟩
      · have tr : ∀ d0, some dd = some d0 → ∃ fs, H1 d0 = some (.xd fs) := fun d0 e => by cases e; exact ⟨_, hd1⟩
        refine ⟨_, rfl, Ad6, _, _, false, rfl, T.eWrongWidth, rfl, .own Ad2, T.tWrongWidth_BadCount, tr, _, rfl, iteF ?_⟩
        exact ⟨l, rfl, s1, hd1, hl0, hl1⟩
      rintro _ H1 ⟨l, rfl, s1, hd1, hl0, hl1⟩
      refine ⟨fun σ' H' => ∃ (l : Addr), σ' = [some (.ref a), some (.ref l)] ∧ Same H H' ∧ H' dd = some (.xd [("need", .int m), ("have", .int n)]) ∧ H l = none ∧ H' l = some (.lst []), ?_, ?_⟩
      · have tr : ∀ d0, some dd = some d0 → ∃ fs, H1 d0 = some (.xd fs) := fun d0 e => by cases e; exact ⟨_, hd1⟩
        refine ⟨_, rfl, Ad6, _, _, false, rfl, T.eWrongWidth, rfl, .own Ad9, T.tWrongWidth_BadParent, tr, _, rfl, iteF ?_⟩
        exact ⟨l, rfl, s1, hd1, hl0, hl1⟩
      rintro _ H1 ⟨l, rfl, s1, hd1, hl0, hl1⟩
      refine ⟨fun σ' H' => ∃ (l : Addr), σ' = [some (.ref a), some (.ref l)] ∧ Same H H' ∧ H' dd = some (.xd [("need", .int m), ("have", .int n)]) ∧ H l = none ∧ H' l = some (.lst []), ?_, ?_⟩
      · have tr : ∀ d0, some dd = some d0 → ∃ fs, H1 d0 = some (.xd fs) := fun d0 e => by cases e; exact ⟨_, hd1⟩
        refine ⟨_, rfl, Ad6, _, _, false, rfl, T.eWrongWidth, rfl, .own Ad10, T.tWrongWidth_BadPrice, tr, _, rfl, iteF ?_⟩
        exact ⟨l, rfl, s1, hd1, hl0, hl1⟩
      rintro _ H1 ⟨l, rfl, s1, hd1, hl0, hl1⟩
      refine ⟨fun σ' H' => ∃ (l : Addr), σ' = [some (.ref a), some (.ref l)] ∧ Same H H' ∧ H' dd = some (.xd [("need", .int m), ("have", .int n)]) ∧ H l = none ∧ H' l = some (.lst []), ?_, ?_⟩
      · have tr : ∀ d0, some dd = some d0 → ∃ fs, H1 d0 = some (.xd fs) := fun d0 e => by cases e; exact ⟨_, hd1⟩
        refine ⟨_, rfl, Ad6, _, _, false, rfl, T.eWrongWidth, rfl, .own Ad4, T.tWrongWidth_NoNode, tr, _, rfl, iteF ?_⟩
        exact ⟨l, rfl, s1, hd1, hl0, hl1⟩
      rintro _ H1 ⟨l, rfl, s1, hd1, hl0, hl1⟩
      refine ⟨fun σ' H' => ∃ (l r : Addr), σ' = [some (.ref a), some (.ref l)] ∧ Same H H' ∧ H' dd = some (.xd [("need", .int m), ("have", .int n)]) ∧ H' r = some (.tup [.str "WrongWidth", .int n, .int m]) ∧ H' l = some (.lst [.ref r]), ?_, ?_⟩
      · have tr : ∀ d0, some dd = some d0 → ∃ fs, H1 d0 = some (.xd fs) := fun d0 e => by cases e; exact ⟨_, hd1⟩
        refine ⟨_, rfl, Ad6, _, _, true, rfl, T.eWrongWidth, rfl, .own Ad6, T.tWrongWidth_WrongWidth, tr, _, rfl, iteT ?_⟩
        refine ⟨_, rfl, .inl ⟨rfl, _, SqL.of hl1⟩, Ad6, dd, rfl, T.eWrongWidth, T.fWrongWidth_have, rfl, _, rfl, rfl, _, _, hd1, (by walk_at "lk"), Ad6, dd, rfl, T.eWrongWidth, T.fWrongWidth_need, rfl, _, rfl, rfl, _, _, hd1, (by walk_at "lk"), (by show 3 ≤ sizeLine; decide), fun r hr1 => ?_⟩
        refine ⟨l, _, _, rfl, rfl, atN hl1 hr1, (by show 0 < sizeLine; decide), ?_⟩
        have s2 := smN s1 (q := r) (o := .tup [.str "WrongWidth", .int n, .int m]) hr1
        have g1 := atN (o := .tup [.str "WrongWidth", .int n, .int m]) hd1 hr1
        have g2 := atN (o := .tup [.str "WrongWidth", .int n, .int m]) hl1 hr1
        have g3 : upd H1 r (.tup [.str "WrongWidth", .int n, .int m]) r = some (.tup [.str "WrongWidth", .int n, .int m]) := upd_same
        exact ⟨l, r, rfl, smM s2 hl0, (upd_ne (ne_of g1 g2 (by intro z; cases z))).trans g1, (upd_ne (ne_of g3 g2 (by intro z; cases z))).trans g3, upd_same⟩
      rintro _ H1 ⟨l, r, rfl, s1, hd1, hr1, hl1⟩
      refine ⟨fun σ' H' => ∃ (l r : Addr), σ' = [some (.ref a), some (.ref l)] ∧ Same H H' ∧ H' dd = some (.xd [("need", .int m), ("have", .int n)]) ∧ H' r = some (.tup [.str "WrongWidth", .int n, .int m]) ∧ H' l = some (.lst [.ref r]), ?_, ?_⟩
      · have tr : ∀ d0, some dd = some d0 → ∃ fs, H1 d0 = some (.xd fs) := fun d0 e => by cases e; exact ⟨_, hd1⟩
        refine ⟨_, rfl, (by show 4 ≤ sizeLine; decide), fun tp htp => ?_⟩
        refine ⟨Ad6, tp, _, _, false, rfl, T.eWrongWidth, rfl, upd_same, paired4 (.own Ad7) (.own Ad8) (.own Ad3) (.own Ad5), kit4 T.tWrongWidth_BadNext T.tWrongWidth_BadWeight T.tWrongWidth_NotPebbles T.tWrongWidth_UnlikeWidths, (fun d0 e => by cases e; exact ⟨_, atN hd1 htp⟩), _, rfl, iteF ?_⟩
        exact ⟨l, r, rfl, smN s1 htp, atN hd1 htp, atN hr1 htp, atN hl1 htp⟩
      rintro _ H1 ⟨l, r, rfl, s1, hd1, hr1, hl1⟩
      refine ⟨fun σ' H' => ∃ (l r : Addr), σ' = [some (.ref a), some (.ref l)] ∧ Same H H' ∧ H' dd = some (.xd [("need", .int m), ("have", .int n)]) ∧ H' r = some (.tup [.str "WrongWidth", .int n, .int m]) ∧ H' l = some (.lst [.ref r]), ?_, ?_⟩
      · have tr : ∀ d0, some dd = some d0 → ∃ fs, H1 d0 = some (.xd fs) := fun d0 e => by cases e; exact ⟨_, hd1⟩
        refine ⟨_, rfl, Ad6, _, _, true, rfl, T.eWrongWidth, rfl, .ty "ValueError", T.tWrongWidth_ValueError, tr, _, rfl, iteF ?_⟩
        exact ⟨l, r, rfl, s1, hd1, hr1, hl1⟩
      rintro _ H1 ⟨l, r, rfl, s1, hd1, hr1, hl1⟩
      refine ⟨_, rfl, l, _, rfl, .inl ⟨SqL.of hl1, fun q hq => ?_⟩⟩
      exact k q r _ (smN s1 hq) (atN hr1 hq) upd_same
end
end K11
set_option maxRecDepth 100000
set_option maxHeartbeats 4000000
namespace K11
open PySem L2 SI
local macro_rules | `(tactic| walk_at "lk") => `(tactic| first | exact lk_hit | exact lk_nil | (refine lk_next (by decide +kernel) ?_; walk_at "lk"))
def spRaised (K : PySem.W.Frag) (C : Addr) : Sp := fun vs H Q _ =>
  (∃ (a b : Addr) (ps qs : List Int), vs = [.str "tree", .ref a, .ref b] ∧ RowR K H a ps ∧ RowR K H b qs ∧ ∀ o q H', DueIs ps qs o → Same H H' → dueV H' q o → Q (.ref q) H') ∨
  (∃ (t : Addr) (ps qs : List Int) (v : Int), vs = [.str "children", .ref t, .int v] ∧ TreeAt C H t ps qs ∧ ps.length ≤ 59 ∧ (v < 0 ∨ (ps.length : Int) + 1 ≤ v) ∧ ∀ q r H', Same H H' → H' r = some (.tup [.str "NoNode", .int v]) → H' q = some (.tup [.ref r]) → Q (.ref q) H')
section
variable {P : Program} {w : World} {K : PySem.W.Frag} {mg : Str → Option Value} {base : Heap} {Ad1 Ad2 Ad3 Ad4 Ad5 Ad6 Ad7 Ad8 Ad9 Ad10 Ad11 : Addr}
theorem scLRaised : FnScope ["deed", "one", "two", "e"] ["deed", "one", "two"] (defScope sLRaised) := ⟨rfl, rfl, rfl, by decide +kernel, rfl, by decide +kernel, by decide +kernel⟩
theorem ok_LRaised (T : Txt P w K mg base Ad1 Ad2 Ad3 Ad4 Ad5 Ad6 Ad7 Ad8 Ad9 Ad10 Ad11) : Cl P w K mg base 6 "_law_raised" (spRaised K Ad11) [] := by
  have k_Tree := (ok_Tree T).mkr
  have m_TreeChildren := (ok_Children T).mt
  have w_LFault := ok_LFaultW T
  refine cl_of T.d__law_raised scLRaised (fun vs H Q E h => ?_) fun f cdv A outer s H vs Q E hr h => ?_
  · rcases h with ⟨a, b, ps, qs, rfl, _⟩ | ⟨t, ps, qs, v, rfl, _⟩ <;> rfl
  · refine ⟨_, (pss_cons (ps_try_as (i := 3) rfl rfl scLRaised.nd rfl rfl ⟨rfl, by decide, Or.inl T.gPebbleError⟩ takes0
    (fun W pn xe tk po => (pss_one (ps_if (pt_cmpR op_eq (pv 0) pe_str (nomark _))
      (pss_one (ps_expr (pe_mkX tk k_Tree hr (by decide) rfl (pa_cons (pv 1) (pa_cons (pv 2) pa_nil)))))
      (pss_one (ps_expr (pe_mtX tk m_TreeChildren hr (by decide) (pv 1) (pa_cons (pv 2) pa_nil)))))))
    (fun a oe cls d pn hz hf => (pss_one (ps_ret (pe_cWE (X := cxd P w K mg base ["deed", "one", "two", "e"] "_law_raised" sLRaised f cdv A outer s H E) (sp' := spFault Ad2 Ad4 Ad6 Ad9 Ad10) hz hf w_LFault hr (by decide) rfl (pa_cons (pv 3) pa_nil))))))
  (pss_one (ps_ret (pe_tup pa_nil)))), ?_⟩
    rcases h with ⟨a, b, ps, qs, rfl, ha, hb, k⟩ | ⟨t, ps, qs, v, rfl, ht, hl, hv, k⟩
    · refine ⟨_, rfl, rfl, _, rfl, ifT (by decide +kernel) ?_⟩
      refine ⟨_, rfl, _, rfl, fun x dx hx hdx ne => ?_⟩
      have s0 : Same H (upd (upd H dx (.own x)) x (.ins Ad11 dx [])) := smM (sm0 hdx) hx
      refine ⟨x, dx, a, b, ps, qs, rfl, upd_same, ha.same s0, hb.same s0, fun hok H' hb' ht => ⟨rfl, ?_⟩, fun y fs hbad d H' s' hd => ?_⟩
      · refine ⟨by show 0 ≤ sizeLine; decide, fun q hq => ?_⟩
        have s1 : Same H H' := fun c o e => hb' c o (ne_of_none e hx) (s0 _ _ e)
        exact k none q _ (.good hok) (smN s1 hq) upd_same
      · have s1 : Same H (upd H' d (.xd fs)) := smN (s0.trans s') hd
        cases hbad with
        | many h =>
          refine ⟨true, T.xBadCount_PebbleError, fun _ e na => ?_, fun z => nomatch z⟩
          exact ⟨_, rfl, Ad2, d, _, _, rfl, rfl, rfl, upd_same, .bc _ _, fun q r H2 s2 hr2 hq2 => k (some _) q _ (.many h) (s1.trans s2) ⟨r, hq2, hr2⟩⟩
        | width h h2 =>
          refine ⟨true, T.xWrongWidth_PebbleError, fun _ e na => ?_, fun z => nomatch z⟩
          exact ⟨_, rfl, Ad6, d, _, _, rfl, rfl, rfl, upd_same, .ww _ _, fun q r H2 s2 hr2 hq2 => k (some _) q _ (.width h h2) (s1.trans s2) ⟨r, hq2, hr2⟩⟩
        | par h h2 i h3 =>
          refine ⟨true, T.xBadParent_PebbleError, fun _ e na => ?_, fun z => nomatch z⟩
          exact ⟨_, rfl, Ad9, d, _, _, rfl, rfl, rfl, upd_same, .bp _, fun q r H2 s2 hr2 hq2 => k (some _) q _ (.par h h2 i h3) (s1.trans s2) ⟨r, hq2, hr2⟩⟩
        | pri h h2 i h3 =>
          refine ⟨true, T.xBadPrice_PebbleError, fun _ e na => ?_, fun z => nomatch z⟩
          exact ⟨_, rfl, Ad10, d, _, _, rfl, rfl, rfl, upd_same, .bq _, fun q r H2 s2 hr2 hq2 => k (some _) q _ (.pri h h2 i h3) (s1.trans s2) ⟨r, hq2, hr2⟩⟩
    · refine ⟨_, rfl, rfl, _, rfl, ifF (by decide +kernel) ?_⟩
      obtain ⟨dx, a, b, ht, h1, h2⟩ := ht
      refine ⟨_, rfl, t, dx, _, rfl, ht, (by walk_at "lk"), _, rfl, t, ps, qs, v, rfl, ⟨dx, a, b, ht, h1, h2⟩, hl, fun c0 c1 => absurd hv (by omega), fun _ d hd => ?_⟩
      refine ⟨true, T.xNoNode_PebbleError, fun _ e na => ?_, fun z => nomatch z⟩
      exact ⟨_, rfl, Ad4, d, _, _, rfl, rfl, rfl, upd_same, .nn _, fun q r H2 s2 hr2 hq2 => k q r _ ((sm0 hd).trans s2) hr2 hq2⟩
end
end K11
set_option maxRecDepth 100000
set_option maxHeartbeats 4000000
namespace K11
open PySem PySem.Spec PyProof.Rows L2 SI
theorem PoolB.up {H : Hp} {p : Addr} {b c : Nat} (h : PoolB H p b) (hc : b ≤ c) : PoolB H p c := by
  obtain ⟨z, ns, h1, h2, h3, h4⟩ := h
  exact ⟨z, ns, h1, h2, by omega, h4⟩
theorem PoolB.ne {H : Hp} {p l : Addr} {b : Nat} (h : PoolB H p b) (hl : H l = none) : l ≠ p := by
  obtain ⟨z, ns, h1, _⟩ := h
  exact (ne_of_none h1 hl).symm
theorem PoolB.new {H : Hp} {p l : Addr} {b : Nat} {o : HO} (h : PoolB H p b) (hl : H l = none) : PoolB (upd H l o) p b := by
  have n := h.ne hl
  obtain ⟨z, ns, h1, h2⟩ := h
  exact ⟨z, ns, by rw [upd_ne n.symm]; exact h1, h2⟩
theorem PoolB.same {H H' : Hp} {p : Addr} {b : Nat} (h : PoolB H p b) (s : Same H H') : PoolB H' p b := by
  obtain ⟨z, ns, h1, h2⟩ := h
  exact ⟨z, ns, s _ _ h1, h2⟩
theorem PoolB.put {H : Hp} {p a : Addr} {b : Nat} {o : HO} (h : PoolB H p b) (n : a ≠ p) : PoolB (upd H a o) p b := by
  obtain ⟨z, ns, h1, h2⟩ := h
  exact ⟨z, ns, by rw [upd_ne n.symm]; exact h1, h2⟩
theorem But.free {p a : Addr} {H H' : Hp} (s : But p H H') (n : a ≠ p) (h : H' a = none) : H a = none := by
  cases e : H a with
  | none => rfl
  | some o => rw [s a o n e] at h; cases h
theorem pick {L : List Int} {d : Int} (h0 : 0 ≤ d) (h1 : d < L.length) : ∃ z, z ∈ L ∧ atI (L.map V.int) d = some (.int z) := by
  have h : d.toNat < L.length := by omega
  exact ⟨L[d.toNat], List.getElem_mem h, at_of (j := d.toNat) (by omega) (at_ints (List.getElem?_eq_getElem h))⟩
theorem okTo_snoc {ps qs : List Int} {i : Nat} {d r : Int} (h1 : ps.length = i) (h2 : qs.length = i) (h : okTo ps qs i) (e : okE i d r) : okTo (ps ++ [d]) (qs ++ [r]) (i + 1) := by
  intro j p q hj hp hq
  by_cases c : j < i
  · rw [List.getElem?_append_left (by omega)] at hp hq
    exact h j p q c hp hq
  · obtain rfl : j = i := by omega
    rw [List.getElem?_append_right (by omega), h1, Nat.sub_self] at hp
    rw [List.getElem?_append_right (by omega), h2, Nat.sub_self] at hq
    cases hp
    cases hq
    exact e
def spRows : Sp := fun vs H Q _ => ∃ (p : Addr) (b : Nat), vs = [.ref p] ∧ PoolB H p b ∧ b ≤ 10 ^ 6 ∧ ∀ (q a c : Addr) (ps qs : List Int) H', But p H H' → PoolB H' p (b + 400) → H' q = some (.tup [.ref a, .ref c]) → H' a = some (.lst (ps.map V.int)) → H' c = some (.lst (qs.map V.int)) → okT ps qs → H a = none → H c = none → a ≠ c → Q (.ref q) H'
theorem big6 {b : Nat} (h : b ≤ 10 ^ 7) : b ≤ 10 ^ 100 := Nat.le_trans h (Nat.pow_le_pow_right (by decide) (by decide))
section
variable {P : Program} {w : World} {K : PySem.W.Frag} {mg : Str → Option Value} {base : Heap} {Ad1 Ad2 Ad3 Ad4 Ad5 Ad6 Ad7 Ad8 Ad9 Ad10 Ad11 : Addr}
theorem scLRows : FnScope ["pool", "nodes", "shape", "parents", "prices", "at", "parent", "row"] ["pool"] (defScope sLRows) := ⟨rfl, rfl, rfl, by decide +kernel, rfl, by decide +kernel, by decide +kernel⟩
theorem ok_LRows (T : Txt P w K mg base Ad1 Ad2 Ad3 Ad4 Ad5 Ad6 Ad7 Ad8 Ad9 Ad10 Ad11) : Cl P w K mg base 2 "_law_rows" spRows [] := by
  have c_LDraw := ok_LDraw T
  refine cl_of T.d__law_rows scLRows (fun vs H Q E h => ?_) fun f cdv A outer s H vs Q E hr h => ?_
  · obtain ⟨p, b, rfl, _⟩ := h
    rfl
  · obtain ⟨p, b, rfl, hp, hb, k⟩ := h
    refine ⟨_, (pss_cons (ps_set (i := 1) scLRows.nd rfl (by first | exact Or.inl rfl | exact Or.inr rfl) (pe_ix ix_list (pe_lst (pa_cons pe_int (pa_cons pe_int (pa_cons pe_int (pa_cons pe_int (pa_cons pe_int (pa_cons pe_int (pa_cons pe_int (pa_cons pe_int pa_nil))))))))) (pe_c c_LDraw hr (by decide) rfl (pa_cons (pv 0) (pa_cons pe_int pa_nil))) (fun _ _ => rfl)))
  (C8.pss_cut (ps_if (pt_cmpR op_eq (pe_c c_LDraw hr (by decide) rfl (pa_cons (pv 0) (pa_cons pe_int pa_nil))) pe_int (nomark _))
    (pss_one (ps_set (i := 1) scLRows.nd rfl (by first | exact Or.inl rfl | exact Or.inr rfl) (pe_ix ix_list (pe_lst (pa_cons pe_int (pa_cons pe_int (pa_cons pe_int (pa_cons pe_int (pa_cons pe_int (pa_cons pe_int (pa_cons pe_int (pa_cons pe_int pa_nil))))))))) (pe_c c_LDraw hr (by decide) rfl (pa_cons (pv 0) (pa_cons pe_int pa_nil))) (fun _ _ => rfl))))
    pss_nil)
  (pss_cons (ps_set (i := 2) scLRows.nd rfl (by first | exact Or.inl rfl | exact Or.inr rfl) (pe_c c_LDraw hr (by decide) rfl (pa_cons (pv 0) (pa_cons pe_int pa_nil))))
  (pss_cons (ps_set (i := 3) scLRows.nd rfl (by first | exact Or.inl rfl | exact Or.inr rfl) (pe_lst pa_nil))
  (pss_cons (ps_set (i := 4) scLRows.nd rfl (by first | exact Or.inl rfl | exact Or.inr rfl) (pe_lst pa_nil))
  (pss_cons (ps_for (passes_of rfl) rfl (pi_range1 (by rfl) T.b_range (pa_cons (pe_op op_sub (pv 1) pe_int) pa_nil)) (pg_name (i := 5) scLRows.nd rfl (by first | exact Or.inl rfl | exact Or.inr rfl))
    (pss_cons (ps_set (i := 6) scLRows.nd rfl (by first | exact Or.inl rfl | exact Or.inr rfl) (pe_c c_LDraw hr (by decide) rfl (pa_cons (pv 0) (pa_cons (pe_op op_add (pv 5) pe_int) pa_nil))))
    (C8.pss_cut (ps_if (pt_cmpR op_eq (pv 2) pe_int (nomark _))
      (pss_one (ps_set (i := 6) scLRows.nd rfl (by first | exact Or.inl rfl | exact Or.inr rfl) (pe_callB (call_max2 rfl) (by rfl) T.b_max (by decide +kernel) (pa_cons pe_int (pa_cons (pe_op op_sub (pv 5) (pe_c c_LDraw hr (by decide) rfl (pa_cons (pv 0) (pa_cons pe_int pa_nil)))) pa_nil)))))
      pss_nil)
    (C8.pss_cut (ps_if (pt_cmpR op_eq (pv 2) pe_int (nomark _))
      (pss_one (ps_set (i := 6) scLRows.nd rfl (by first | exact Or.inl rfl | exact Or.inr rfl) (pe_op op_mulW (pv 5) (pe_callTy call_int1 (by rfl) T.b_int (by decide +kernel) (pa_cons (pe_cmpR op_gt (pe_c c_LDraw hr (by decide) rfl (pa_cons (pv 0) (pa_cons pe_int pa_nil))) pe_int (nomark _)) pa_nil)))))
      pss_nil)
    (pss_cons (ps_expr (pe_bm PySem.F.plainAttrs_list PySem.F.slot_list_append PySem.F.type_list_append mt_append (pv 3) (pa_cons (pv 6) pa_nil)))
    (pss_cons (ps_set (i := 7) scLRows.nd rfl (by first | exact Or.inl rfl | exact Or.inr rfl) (pe_lst (pa_cons pe_int (pa_cons pe_int (pa_cons pe_int (pa_cons pe_int (pa_cons pe_int (pa_cons pe_int (pa_cons pe_int (pa_cons (pe_op op_add pe_int (pe_c c_LDraw hr (by decide) rfl (pa_cons (pv 0) (pa_cons pe_int pa_nil)))) pa_nil))))))))))
    (pss_one (ps_expr (pe_bm PySem.F.plainAttrs_list PySem.F.slot_list_append PySem.F.type_list_append mt_append (pv 4) (pa_cons (pe_ix ix_list (pv 7) (pe_c c_LDraw hr (by decide) rfl (pa_cons (pv 0) (pa_cons pe_int pa_nil))) (fun _ _ => rfl)) pa_nil))))))))))
  (pss_one (ps_ret (pe_tup (pa_cons (pv 3) (pa_cons (pv 4) pa_nil))))))))))), ?_⟩
    have hb6 : b ≤ 1000000 := hb
    have G : ∀ {c : Nat}, c ≤ b + 1000 → c ≤ 10 ^ 100 := fun h => big6 (by show _ ≤ 10000000; omega)
    have N : ∀ {n : Int}, n ≤ 1000 → n ≤ 10 ^ 130 := fun h => Int.le_trans h (by decide +kernel)
    refine ⟨by show 8 ≤ sizeLine; decide, fun l hl => ?_⟩
    refine ⟨_, rfl, draw_of (hp.new hl) (G (by omega)) (by decide) (N (by decide)) fun d H1 b1 p1 d0 d1 => ?_⟩
    have nl := hp.ne hl
    have e1 := b1 l _ nl upd_same
    obtain ⟨z, hz, hat⟩ := pick (L := [5, 6, 7, 8, 4, 3, 2, 1]) d0 d1
    have zb : ∀ z ∈ ([5, 6, 7, 8, 4, 3, 2, 1] : List Int), 1 ≤ z ∧ z ≤ 60 := by decide
    have bH1 : But p H H1 := (But.of (sm0 hl)).trans b1
    refine ⟨l, _, _, _, rfl, rfl, SqL.of e1, hat, ?_⟩
    refine ⟨fun σ' H' => ∃ n : Int, σ' = [some (.ref p), some (.int n), none, none, none, none, none, none] ∧ 1 ≤ n ∧ n ≤ 60 ∧ But p H H' ∧ PoolB H' p (b + 3), ?_, ?_⟩
    · refine ⟨_, rfl, draw_of p1 (G (by omega)) (by decide) (N (by decide)) fun d' H2 b2 p2 d0' d1' => ?_⟩
      refine ⟨rfl, _, rfl, ifI (fun c => ?_) fun c => ?_⟩
      · refine ⟨by show 8 ≤ sizeLine; decide, fun l2 hl2 => ?_⟩
        refine ⟨_, rfl, draw_of (p2.new hl2) (G (by omega)) (by decide) (N (by decide)) fun d3 H3 b3 p3 d03 d13 => ?_⟩
        have e3 := b3 l2 _ (p2.ne hl2) upd_same
        obtain ⟨z3, hz3, hat3⟩ := pick (L := [9, 12, 20, 33, 47, 59, 60, 60]) d03 d13
        have zb3 : ∀ z ∈ ([9, 12, 20, 33, 47, 59, 60, 60] : List Int), 1 ≤ z ∧ z ≤ 60 := by decide
        refine ⟨l2, _, _, _, rfl, rfl, SqL.of e3, hat3, ?_⟩
        exact ⟨z3, rfl, (zb3 z3 hz3).1, (zb3 z3 hz3).2, (bH1.trans b2).trans ((But.of (sm0 hl2)).trans b3), p3⟩
      · exact ⟨z, rfl, (zb z hz).1, (zb z hz).2, bH1.trans b2, p2.up (by omega)⟩
    rintro _ H4 ⟨n, rfl, n1, n60, bH4, p4⟩
    refine ⟨_, rfl, draw_of p4 (G (by omega)) (by decide) (N (by decide)) fun sh H5 b5 p5 s0 s1 => ?_⟩
    have bH5 := bH4.trans b5
    refine ⟨by show 0 ≤ sizeLine; decide, fun a ha => ?_⟩
    refine ⟨by show 0 ≤ sizeLine; decide, fun c hc => ?_⟩
    have na := p5.ne ha
    have p6 := p5.new (o := .lst []) ha
    have nc := p6.ne hc
    have p7 := p6.new (o := .lst []) hc
    have fa := bH5.free na ha
    have bH6 : But p H (upd H5 a (.lst [])) := bH5.trans (But.of (sm0 ha))
    have fc := bH6.free nc hc
    have nac : a ≠ c := fun e => by rw [← e, upd_same] at hc; cases hc
    have bH7 : But p H (upd (upd H5 a (.lst [])) c (.lst [])) := bH6.trans (But.of (sm0 hc))
    have ea : upd (upd H5 a (.lst [])) c (.lst []) a = some (.lst (([] : List Int).map V.int)) := atN upd_same hc
    have ec : upd (upd H5 a (.lst [])) c (.lst []) c = some (.lst (([] : List Int).map V.int)) := upd_same
    generalize upd (upd H5 a (.lst [])) c (.lst []) = H7 at p7 bH7 ea ec ⊢
    refine ⟨_, rfl, _, _, rfl, rfl, _, rfl, by omega, by omega, ?_⟩
    refine for_range (lo := 0) (n := (n - 1).toNat) (fun i σ H' => ∃ (v5 v6 v7 : Option V) (ps qs : List Int), σ = [some (.ref p), some (.int n), some (.int sh), some (.ref a), some (.ref c), v5, v6, v7] ∧ But p H H' ∧ PoolB H' p (b + 4 + 5 * i) ∧
        H' a = some (.lst (ps.map V.int)) ∧ H' c = some (.lst (qs.map V.int)) ∧ ps.length = i ∧ qs.length = i ∧ okTo ps qs i)
      ⟨none, none, none, [], [], rfl, bH7, p7, ea, ec, rfl, rfl, fun j p q hj => absurd hj (Nat.not_lt_zero _)⟩ (fun i σ H' hi h => ?_) fun σ H' h => ?_
    · obtain ⟨v5, v6, v7, ps, qs, rfl, bH, pH, hA, hC, lp, lq, hok⟩ := h
      rw [Int.zero_add]
      have hi2 : i < 60 := by omega
      refine ⟨_, rfl, _, rfl, _, _, rfl, rfl, draw_of pH (G (by omega)) (by omega) (N (by omega)) fun d H1 b1 p1 d0 d1 => ?_⟩
      refine ⟨fun σ' H' => ∃ d : Int, σ' = [some (.ref p), some (.int n), some (.int sh), some (.ref a), some (.ref c), some (.int (i : Nat)), some (.int d), v7] ∧ 0 ≤ d ∧ d ≤ i ∧ But p H H' ∧ PoolB H' p (b + 4 + 5 * i + 2) ∧ H' a = some (.lst (ps.map V.int)) ∧ H' c = some (.lst (qs.map V.int)), ?_, ?_⟩
      · refine ⟨_, rfl, rfl, _, rfl, ifI (fun c3 => ?_) fun c3 => ?_⟩
        · refine ⟨_, rfl, _, rfl, draw_of p1 (G (by omega)) (by decide) (N (by decide)) fun e H2 b2 p2 e0 e1 => ?_⟩
          refine ⟨_, _, rfl, rfl, _, _, rfl, ?_⟩
          refine ⟨_, rfl, ?_, ?_, (bH.trans b1).trans b2, p2, b2 a _ na (b1 a _ na hA), b2 c _ nc (b1 c _ nc hC)⟩
          · split <;> omega
          · split <;> omega
        · exact ⟨d, rfl, d0, by omega, bH.trans b1, p1.up (by omega), b1 a _ na hA, b1 c _ nc hC⟩
      rintro _ H2 ⟨d, rfl, d0, d1, bH2, p2, hA2, hC2⟩
      refine ⟨fun σ' H' => ∃ d : Int, σ' = [some (.ref p), some (.int n), some (.int sh), some (.ref a), some (.ref c), some (.int (i : Nat)), some (.int d), v7] ∧ 0 ≤ d ∧ d ≤ i ∧ But p H H' ∧ PoolB H' p (b + 4 + 5 * i + 3) ∧ H' a = some (.lst (ps.map V.int)) ∧ H' c = some (.lst (qs.map V.int)), ?_, ?_⟩
      · refine ⟨_, rfl, rfl, _, rfl, ifI (fun c3 => ?_) fun c3 => ?_⟩
        · refine ⟨_, rfl, _, rfl, draw_of p2 (G (by omega)) (by decide) (N (by decide)) fun e H3 b3 p3 e0 e1 => ?_⟩
          refine ⟨_, _, rfl, rfl, .inr ⟨_, rfl, _, _, rfl, rfl, cmul_small (abs_small (by omega) (by omega)) (abs_small (by split <;> omega) (by split <;> omega)), ?_⟩⟩
          refine ⟨_, rfl, ?_, ?_, bH2.trans b3, p3, b3 a _ na hA2, b3 c _ nc hC2⟩
          · split <;> omega
          · split <;> omega
        · exact ⟨d, rfl, d0, d1, bH2, p2.up (by omega), hA2, hC2⟩
      rintro _ H3 ⟨d, rfl, d0, d1, bH3, p3, hA3, hC3⟩
      refine ⟨_, rfl, .inl ⟨rfl, _, SqL.of hA3⟩, _, rfl, a, _, _, rfl, rfl, hA3, by rw [List.length_map]; exact sz_lt (by omega), ?_⟩
      have bH4' : But p H (upd H3 a (.lst (ps.map V.int ++ [.int d]))) := fun x o nx e => by rw [upd_ne (ne_of_none e fa)]; exact bH3 x o nx e
      have p4' : PoolB (upd H3 a (.lst (ps.map V.int ++ [.int d]))) p (b + 4 + 5 * i + 3) := p3.put na
      have hA4 : upd H3 a (.lst (ps.map V.int ++ [.int d])) a = some (.lst ((ps ++ [d]).map V.int)) := by rw [upd_same, List.map_append]; rfl
      have hC4 : upd H3 a (.lst (ps.map V.int ++ [.int d])) c = some (.lst (qs.map V.int)) := by rw [upd_ne nac.symm]; exact hC3
      generalize upd H3 a (.lst (ps.map V.int ++ [.int d])) = H4' at bH4' p4' hA4 hC4 ⊢
      refine ⟨_, rfl, draw_of p4' (G (by omega)) (by decide) (N (by decide)) fun e H5' b5' p5' e0 e1 => ?_⟩
      refine ⟨_, _, rfl, rfl, by show 8 ≤ sizeLine; decide, fun l hl => ?_⟩
      have nl := p5'.ne hl
      refine ⟨_, rfl, .inl ⟨rfl, _, SqL.of (atN (b5' c _ nc hC4) hl)⟩, _, rfl, _, rfl, draw_of (p5'.new hl) (G (by omega)) (by decide) (N (by decide)) fun g H6 b6 p6' g0 g1 => ?_⟩
      have el := b6 l _ nl upd_same
      have zb4 : ∀ z ∈ ([2, 2, 3, 4, 6, 8, 31, 2 + e] : List Int), 2 ≤ z ∧ z ≤ 31 := by
        intro z hz
        simp only [List.mem_cons, List.not_mem_nil, or_false] at hz
        omega
      obtain ⟨z, hz, hat⟩ := pick (L := [2, 2, 3, 4, 6, 8, 31, 2 + e]) g0 g1
      have hC6 := b6 c _ nc (atN (b5' c _ nc hC4) hl)
      have hA6 := b6 a _ na (atN (b5' a _ na hA4) hl)
      refine ⟨l, _, _, _, rfl, rfl, SqL.of el, hat, c, _, _, rfl, rfl, hC6, by rw [List.length_map]; exact sz_lt (by omega), ?_⟩
      have bH6' : But p H H6 := ((bH4'.trans b5').trans (But.of (sm0 hl))).trans b6
      refine ⟨_, _, _, ps ++ [d], qs ++ [z], rfl, fun x o nx e => by rw [upd_ne (ne_of_none e fc)]; exact bH6' x o nx e, (p6'.put nc).up (by omega), by rw [upd_ne nac]; exact hA6, by rw [upd_same, List.map_append]; rfl, by simp [lp], by simp [lq], okTo_snoc lp lq hok ⟨d0, d1, (zb4 z hz).1, (zb4 z hz).2⟩⟩
    · obtain ⟨v5, v6, v7, ps, qs, rfl, bH, pH, hA, hC, lp, lq, hok⟩ := h
      refine ⟨_, rfl, _, rfl, by show 2 ≤ sizeLine; decide, fun q hq => ?_⟩
      refine k q a c ps qs _ (bH.trans (But.of (sm0 hq))) ((pH.new hq).up (by omega)) upd_same (atN hA hq) (atN hC hq) ⟨by omega, by omega, ?_⟩ fa fc nac
      rw [lp]
      exact hok
end
end K11
set_option maxRecDepth 100000
set_option maxHeartbeats 4000000
namespace K11
open PySem PySem.Spec PyProof.Rows L2 SI
/-! the ways up: from low, after k steps, and the product of the prices -/
def up1 (ps : List Int) (v : Nat) : Nat := if v = 0 then 0 else (ps.getD (v - 1) 0).toNat
def pr1 (qs : List Int) (v : Nat) : Int := if v = 0 then 1 else qs.getD (v - 1) 1
def anc (ps : List Int) (low : Nat) : Nat → Nat
  | 0 => low
  | k + 1 => up1 ps (anc ps low k)
def prd (ps qs : List Int) (low : Nat) : Nat → Int
  | 0 => 1
  | k + 1 => prd ps qs low k * pr1 qs (anc ps low k)
section
variable {ps qs : List Int}
theorem edge_of (ok : okT ps qs) {v : Nat} (h0 : 0 < v) (h1 : v ≤ ps.length) : ∃ (p : Nat) (q : Int), ps[v - 1]? = some (p : Int) ∧ qs[v - 1]? = some q ∧ p < v ∧ 2 ≤ q ∧ q ≤ 31 ∧ up1 ps v = p ∧ pr1 qs v = q := by
  have hv : v - 1 < ps.length := by omega
  have e1 : ps[v - 1]? = some ps[v - 1] := List.getElem?_eq_getElem hv
  have hv2 : v - 1 < qs.length := by have := ok.2.1; omega
  have e2 : qs[v - 1]? = some qs[v - 1] := List.getElem?_eq_getElem hv2
  obtain ⟨a, b, c, d⟩ := ok.2.2 (v - 1) _ _ hv e1 e2
  refine ⟨ps[v - 1].toNat, qs[v - 1], by rw [e1]; congr 1; omega, e2, by omega, c, d, ?_, ?_⟩
  · unfold up1
    rw [if_neg (by omega), List.getD_eq_getElem?_getD, e1]
    rfl
  · unfold pr1
    rw [if_neg (by omega), List.getD_eq_getElem?_getD, e2]
    rfl
theorem up1_zero : up1 ps 0 = 0 := rfl
theorem anc_le (ok : okT ps qs) {low : Nat} (hl : low ≤ ps.length) : ∀ k, anc ps low k ≤ low ∧ (anc ps low k + k ≤ low ∨ anc ps low k = 0)
  | 0 => ⟨Nat.le_refl _, .inl (Nat.le_refl _)⟩
  | k + 1 => by
    obtain ⟨h1, h2⟩ := anc_le ok hl k
    show up1 ps (anc ps low k) ≤ low ∧ (up1 ps (anc ps low k) + (k + 1) ≤ low ∨ up1 ps (anc ps low k) = 0)
    by_cases c : anc ps low k = 0
    · rw [c]
      exact ⟨Nat.zero_le _, .inr rfl⟩
    · obtain ⟨p, q, _, _, hp, _, _, e, _⟩ := edge_of ok (v := anc ps low k) (by omega) (by omega)
      rw [e]
      exact ⟨by omega, .inl (by omega)⟩
theorem prd_le (ok : okT ps qs) {low : Nat} (hl : low ≤ ps.length) : ∀ k, 1 ≤ prd ps qs low k ∧ prd ps qs low k ≤ 31 ^ (low - anc ps low k)
  | 0 => ⟨Int.le_refl _, by show (1 : Int) ≤ _; exact pow31 _⟩
  | k + 1 => by
    obtain ⟨h1, h2⟩ := prd_le ok hl k
    have ha := (anc_le ok hl k).1
    show 1 ≤ prd ps qs low k * pr1 qs (anc ps low k) ∧ prd ps qs low k * pr1 qs (anc ps low k) ≤ 31 ^ (low - up1 ps (anc ps low k))
    by_cases c : anc ps low k = 0
    · rw [c] at h2 ⊢
      have e : pr1 qs 0 = 1 := rfl
      rw [e, Int.mul_one, up1_zero]
      exact ⟨h1, h2⟩
    · obtain ⟨p, q, _, _, hp, q2, q31, e, e'⟩ := edge_of ok (v := anc ps low k) (by omega) (by omega)
      rw [e, e']
      have m1 : (1 : Int) * 1 ≤ prd ps qs low k * q := Int.mul_le_mul h1 (by omega) (by decide) (by omega)
      have m2 : prd ps qs low k * q ≤ 31 ^ (low - anc ps low k) * 31 := Int.mul_le_mul h2 q31 (by omega) (by have := pow31 (low - anc ps low k); omega)
      rw [← Int.pow_succ] at m2
      exact ⟨by omega, Int.le_trans m2 (pow31_le (by omega))⟩
/-- f holds the greatest product of what is done -/
structure Mx (ps qs : List Int) (S : Nat → Nat → Prop) (f : List Int) : Prop where
  len : f.length = ps.length + 1
  one : ∀ (v : Nat) x, f[v]? = some x → 1 ≤ x
  ge : ∀ low k x, S low k → f[anc ps low k]? = some x → prd ps qs low k ≤ x
  at_ : ∀ (v : Nat) x, f[v]? = some x → x = 1 ∨ ∃ low k, S low k ∧ anc ps low k = v ∧ prd ps qs low k = x
theorem mx_ones : Mx ps qs (fun _ _ => False) (List.replicate (ps.length + 1) 1) where
  len := by simp
  one := fun v x h => by
    rw [List.getElem?_replicate] at h
    split at h <;> cases h
    exact Int.le_refl _
  ge := fun _ _ _ h => h.elim
  at_ := fun v x h => by
    rw [List.getElem?_replicate] at h
    split at h <;> cases h
    exact .inl rfl
theorem mx_step {S S' : Nat → Nat → Prop} {f : List Int} {L t : Nat} {y : Int} (h : Mx ps qs S f) (hy : f[anc ps L t]? = some y) (hS : ∀ low k, S' low k ↔ S low k ∨ (low = L ∧ k = t)) :
    Mx ps qs S' (f.set (anc ps L t) (if prd ps qs L t > y then prd ps qs L t else y)) where
  len := by rw [List.length_set]; exact h.len
  one := fun v x hx => by
    rw [List.getElem?_set] at hx
    split at hx
    · split at hx
      · cases hx
        have := h.one _ _ hy
        split <;> omega
      · cases hx
    · exact h.one _ _ hx
  ge := fun low k x hs hx => by
    have hlt := (List.getElem?_eq_some_iff.mp hy).1
    rw [List.getElem?_set] at hx
    split at hx
    · rename_i e
      cases hx
      rcases (hS low k).mp hs with hs | ⟨rfl, rfl⟩
      · have := h.ge low k y hs (by rw [← e]; exact hy)
        split <;> omega
      · split <;> omega
    · rename_i e
      rcases (hS low k).mp hs with hs | ⟨rfl, rfl⟩
      · exact h.ge low k x hs hx
      · exact absurd rfl e
  at_ := fun v x hx => by
    have hlt := (List.getElem?_eq_some_iff.mp hy).1
    rw [List.getElem?_set] at hx
    split at hx
    · rename_i e
      cases hx
      split
      · exact .inr ⟨L, t, (hS _ _).mpr (.inr ⟨rfl, rfl⟩), e, rfl⟩
      · rcases h.at_ _ _ hy with h1 | ⟨low, k, hs, h1, h2⟩
        · exact .inl h1
        · exact .inr ⟨low, k, (hS _ _).mpr (.inl hs), by rw [h1, e], h2⟩
    · rcases h.at_ _ _ hx with h1 | ⟨low, k, hs, h1, h2⟩
      · exact .inl h1
      · exact .inr ⟨low, k, (hS _ _).mpr (.inl hs), h1, h2⟩
theorem mx_imp {S S' : Nat → Nat → Prop} {f : List Int} (h : Mx ps qs S f) (hS : ∀ low k, S' low k ↔ S low k) : Mx ps qs S' f :=
  ⟨h.len, h.one, fun low k x hs => h.ge low k x ((hS _ _).mp hs), fun v x hx => (h.at_ v x hx).elim .inl fun ⟨low, k, hs, r⟩ => .inr ⟨low, k, (hS _ _).mpr hs, r⟩⟩
theorem mx_isH (ok : okT ps qs) {f : List Int} (h : Mx ps qs (fun low k => low ≤ ps.length ∧ k ≤ ps.length) f) : IsH ps qs 0 f := by
  have up : ∀ (i : Nat) p q x y, ps[i]? = some p → qs[i]? = some q → f[i + 1]? = some x → f[p.toNat]? = some y → q * x ≤ y := by
    intro i p q x y hp hq hx hy
    have hi := (List.getElem?_eq_some_iff.mp hp).1
    obtain ⟨p', q', e1, e2, h3, h4, h5, h6, h7⟩ := edge_of ok (v := i + 1) (by omega) (by omega)
    rw [Nat.add_sub_cancel, hp] at e1
    rw [Nat.add_sub_cancel, hq] at e2
    cases e1
    cases e2
    rw [Int.toNat_natCast] at hy
    have key : ∀ low k, low ≤ ps.length → k ≤ ps.length → anc ps low k = i + 1 → prd ps qs low k = x → q * x ≤ y := by
      intro low k hl hk ha hx'
      have hk2 := (anc_le ok hl k).2
      have e : anc ps low (k + 1) = p' := by show up1 ps (anc ps low k) = p'; rw [ha]; exact h6
      have := h.ge low (k + 1) y ⟨hl, by omega⟩ (by rw [e]; exact hy)
      have e2 : prd ps qs low (k + 1) = x * q := by show prd ps qs low k * pr1 qs (anc ps low k) = _; rw [ha, h7, hx']
      rw [e2, Int.mul_comm] at this
      exact this
    rcases h.at_ _ _ hx with rfl | ⟨low, k, ⟨hl, hk⟩, ha, hx'⟩
    · exact key (i + 1) 0 (by omega) (by omega) rfl rfl
    · exact key low k hl hk ha hx'
  refine ⟨h.len, fun v x hx => ⟨h.one v x hx, ?_⟩, fun i p q x y _ => up i p q x y, fun v y hy => ?_⟩
  · rcases h.at_ _ _ hx with rfl | ⟨low, k, ⟨hl, hk⟩, ha, hx'⟩
    · exact pow31 _
    · have := (prd_le ok hl k).2
      rw [ha, hx'] at this
      exact Int.le_trans this (pow31_le (by omega))
  · rcases h.at_ _ _ hy with rfl | ⟨low, k, ⟨hl, hk⟩, ha, hx'⟩
    · exact .inl rfl
    · clear hk
      induction k with
      | zero => exact .inl hx'.symm
      | succ k ih =>
        have ha' : up1 ps (anc ps low k) = v := ha
        have hx2 : prd ps qs low k * pr1 qs (anc ps low k) = y := hx'
        by_cases c : anc ps low k = 0
        · rw [c] at ha' hx2
          rw [show pr1 qs 0 = 1 from rfl, Int.mul_one] at hx2
          exact ih (by rw [c]; exact ha') hx2
        · have hal := (anc_le ok hl k).1
          obtain ⟨p', q', e1, e2, h3, h4, h5, h6, h7⟩ := edge_of ok (v := anc ps low k) (by omega) (by omega)
          rw [h6] at ha'
          subst ha'
          rw [h7] at hx2
          obtain ⟨x, hx⟩ : ∃ x, f[anc ps low k - 1 + 1]? = some x := ⟨_, List.getElem?_eq_getElem (by rw [h.len]; omega)⟩
          have u := up _ _ _ x y e1 e2 hx (by rw [Int.toNat_natCast]; exact hy)
          rw [show anc ps low k - 1 + 1 = anc ps low k by omega] at hx
          have hk2 := (anc_le ok hl k).2
          have g := h.ge low k x ⟨hl, by omega⟩ hx
          refine .inr ⟨anc ps low k - 1, q', x, Nat.zero_le _, e1, e2, by rw [show anc ps low k - 1 + 1 = anc ps low k by omega]; exact hx, ?_⟩
          have g2 : q' * prd ps qs low k ≤ q' * x := Int.mul_le_mul_of_nonneg_left g (by omega)
          rw [Int.mul_comm] at hx2
          omega
end
def spLHeights : Sp := fun vs H Q _ => ∃ (a b : Addr) (ps qs : List Int), vs = [.ref a, .ref b] ∧ H a = some (.lst (ps.map V.int)) ∧ H b = some (.lst (qs.map V.int)) ∧ okT ps qs ∧ ∀ q H' f, Same H H' → IsH ps qs 0 f → H' q = some (.lst (f.map V.int)) → Q (.ref q) H'
section
variable {P : Program} {w : World} {K : PySem.W.Frag} {mg : Str → Option Value} {base : Heap} {Ad1 Ad2 Ad3 Ad4 Ad5 Ad6 Ad7 Ad8 Ad9 Ad10 Ad11 : Addr}
theorem scLHeights : FnScope ["parents", "prices", "tops", "low", "node", "product", "turn"] ["parents", "prices"] (defScope sLHeights) := ⟨rfl, rfl, rfl, by decide +kernel, rfl, by decide +kernel, by decide +kernel⟩
theorem ok_LHeights (T : Txt P w K mg base Ad1 Ad2 Ad3 Ad4 Ad5 Ad6 Ad7 Ad8 Ad9 Ad10 Ad11) : Cl P w K mg base 1 "_law_heights" spLHeights [] := by
  refine cl_of T.d__law_heights scLHeights (fun vs H Q E h => ?_) fun f cdv A outer s H vs Q E hr h => ?_
  · obtain ⟨a, b, ps, qs, rfl, _⟩ := h
    rfl
  · obtain ⟨a, b, ps, qs, rfl, ha, hb, ok, k⟩ := h
    refine ⟨_, (pss_cons (ps_set (i := 2) scLHeights.nd rfl (by first | exact Or.inl rfl | exact Or.inr rfl) (pe_op op_rep (pe_lst (pa_cons pe_int pa_nil)) (pe_op op_add (pe_callB call_len_seq (by rfl) T.b_len (by decide +kernel) (pa_cons (pv 0) pa_nil)) pe_int)))
  (pss_cons (ps_for (passes_of rfl) rfl (pi_range1 (by rfl) T.b_range (pa_cons (pe_callB call_len_seq (by rfl) T.b_len (by decide +kernel) (pa_cons (pv 2) pa_nil)) pa_nil)) (pg_name (i := 3) scLHeights.nd rfl (by first | exact Or.inl rfl | exact Or.inr rfl))
    (pss_cons (ps_set (i := 4) scLHeights.nd rfl (by first | exact Or.inl rfl | exact Or.inr rfl) (pv 3))
    (pss_cons (ps_set (i := 5) scLHeights.nd rfl (by first | exact Or.inl rfl | exact Or.inr rfl) pe_int)
    (pss_one (ps_for (passes_of rfl) rfl (pi_range1 (by rfl) T.b_range (pa_cons (pe_callB call_len_seq (by rfl) T.b_len (by decide +kernel) (pa_cons (pv 2) pa_nil)) pa_nil)) (pg_name (i := 6) scLHeights.nd rfl (by first | exact Or.inl rfl | exact Or.inr rfl))
      (pss_cons (ps_asg (pe_callB (call_max2 rfl) (by rfl) T.b_max (by decide +kernel) (pa_cons (pe_ix ix_list (pv 2) (pv 4) (fun _ _ => rfl)) (pa_cons (pv 5) pa_nil))) (pg_sub (pv 2) (pv 4) set_list))
      (pss_one (ps_if (pt_cmpR op_gt (pv 4) pe_int (nomark _))
        (pss_cons (ps_set (i := 5) scLHeights.nd rfl (by first | exact Or.inl rfl | exact Or.inr rfl) (pe_op op_mulW (pv 5) (pe_ix ix_list (pv 1) (pe_op op_sub (pv 4) pe_int) (fun _ _ => rfl))))
        (pss_one (ps_set (i := 4) scLHeights.nd rfl (by first | exact Or.inl rfl | exact Or.inr rfl) (pe_ix ix_list (pv 0) (pe_op op_sub (pv 4) pe_int) (fun _ _ => rfl)))))
        pss_nil))))))))
  (pss_one (ps_ret (pv 2))))), ?_⟩
    have hl := ok.1
    have hl2 := ok.2.1
    refine ⟨by show 1 ≤ sizeLine; decide, fun z1 h1 => ?_⟩
    have s1 : Same H (upd H z1 (.lst [.int 1])) := sm0 h1
    refine ⟨_, rfl, a, _, rfl, .inl (SqL.of (s1 _ _ ha)), _, _, rfl, rfl, z1, _, _, rfl, rfl, upd_same, by simp; omega, by simp; omega, sz_small (by simp; omega), fun F hF => ?_⟩
    rw [show ((((ps.map V.int).length : Nat) : Int) + 1).toNat = ps.length + 1 by simp, rep_one]
    have s2 : Same H (upd (upd H z1 (.lst [.int 1])) F (.lst (List.replicate (ps.length + 1) (.int 1)))) := smN s1 hF
    have e0 : List.replicate (ps.length + 1) (V.int 1) = (List.replicate (ps.length + 1) (1 : Int)).map V.int := by rw [List.map_replicate]
    have hF2 : upd (upd H z1 (.lst [.int 1])) F (.lst (List.replicate (ps.length + 1) (.int 1))) F = some (.lst ((List.replicate (ps.length + 1) (1 : Int)).map V.int)) := by rw [upd_same, e0]
    have fF := s1.free hF
    generalize upd (upd H z1 (.lst [.int 1])) F (.lst (List.replicate (ps.length + 1) (.int 1))) = H2 at s2 hF2 ⊢
    refine ⟨_, rfl, F, _, rfl, .inl (SqL.of hF2), _, rfl, by simp <;> omega, by simp <;> omega, ?_⟩
    rw [show (((((List.replicate (ps.length + 1) (1 : Int)).map V.int).length : Nat) : Int)).toNat = ps.length + 1 by simp]
    refine for_range (lo := 0) (n := ps.length + 1) (fun i σ H' => ∃ (v3 v4 v5 v6 : Option V) (f : List Int), σ = [some (.ref a), some (.ref b), some (.ref F), v3, v4, v5, v6] ∧ Same H H' ∧ H' F = some (.lst (f.map V.int)) ∧ Mx ps qs (fun low k => low < i ∧ k ≤ ps.length) f)
      ⟨none, none, none, none, _, rfl, s2, hF2, mx_imp mx_ones fun low k => ⟨fun h => absurd h.1 (Nat.not_lt_zero _), fun h => h.elim⟩⟩ (fun i σ H' hi h => ?_) fun σ H' h => ?_
    · obtain ⟨v3, v4, v5, v6, f, rfl, sh, hf, hM⟩ := h
      rw [Int.zero_add]
      refine ⟨_, rfl, ?_⟩
      refine ⟨_, rfl, F, _, rfl, .inl (SqL.of hf), _, rfl, by rw [List.length_map, hM.len]; omega, by rw [List.length_map, hM.len]; omega, ?_⟩
      rw [show ((((f.map V.int).length : Nat) : Int)).toNat = ps.length + 1 by rw [List.length_map, hM.len]; omega]
      have hil : i ≤ ps.length := by omega
      refine for_range (lo := 0) (n := ps.length + 1) (fun t σ H' => ∃ (v6 : Option V) (f : List Int), σ = [some (.ref a), some (.ref b), some (.ref F), some (.int (i : Nat)), some (.int (anc ps i t : Nat)), some (.int (prd ps qs i t)), v6] ∧ Same H H' ∧ H' F = some (.lst (f.map V.int)) ∧ Mx ps qs (fun low k => (low < i ∧ k ≤ ps.length) ∨ (low = i ∧ k < t)) f)
        ⟨v6, f, rfl, sh, hf, mx_imp hM fun low k => by omega⟩ (fun t σ H' ht h => ?_) fun σ H' h => ?_
      · obtain ⟨v6, f, rfl, sh, hf, hM⟩ := h
        have hanc := (anc_le ok hil t).1
        obtain ⟨y, hy⟩ : ∃ y, f[anc ps i t]? = some y := ⟨_, List.getElem?_eq_getElem (by rw [hM.len]; omega)⟩
        have hpr := prd_le ok hil t
        have hpb : prd ps qs i t ≤ 10 ^ 200 := by
          have e1 : (31 : Int) ^ (i - anc ps i t) ≤ 31 ^ 60 := pow31_le (by omega)
          have e2 : (31 : Int) ^ 60 ≤ 10 ^ 200 := by decide +kernel
          omega
        refine ⟨_, rfl, _, rfl, F, _, _, _, rfl, rfl, SqL.of hf, atI_nat (at_ints hy), _, rfl, _, _, rfl, ?_⟩
        refine ⟨_, rfl, _, rfl, F, _, _, anc ps i t, rfl, rfl, hf, ixN_of rfl (by rw [List.length_map, hM.len]; omega), ?_⟩
        have hM2 := mx_step (S' := fun low k => (low < i ∧ k ≤ ps.length) ∨ (low = i ∧ k < t + 1)) hM hy fun low k => by omega
        have hf2 : upd H' F (.lst ((f.map V.int).set (anc ps i t) (.int (if prd ps qs i t > y then prd ps qs i t else y)))) F = some (.lst ((f.set (anc ps i t) (if prd ps qs i t > y then prd ps qs i t else y)).map V.int)) := by rw [upd_same, List.map_set]
        have sh2 : Same H (upd H' F (.lst ((f.map V.int).set (anc ps i t) (.int (if prd ps qs i t > y then prd ps qs i t else y))))) := smM sh fF
        generalize upd H' F (.lst ((f.map V.int).set (anc ps i t) (.int (if prd ps qs i t > y then prd ps qs i t else y)))) = H3 at hf2 sh2 ⊢
        refine ⟨_, rfl, _, _, rfl, rfl, _, rfl, ifD (fun c => ?_) fun c => ?_⟩
        · obtain ⟨p', q', e1, e2, h3, h4, h5, h6, h7⟩ := edge_of ok (v := anc ps i t) (by omega) (by omega)
          refine ⟨_, rfl, _, rfl, _, rfl, _, _, rfl, rfl, b, _, _, _, rfl, rfl, SqL.of (sh2 _ _ hb), at_of (j := anc ps i t - 1) (by omega) (at_ints e2), _, _, rfl, rfl, cmul_small (abs_small (by omega) hpb) (abs_small (by omega) (by omega)), ?_⟩
          refine ⟨_, rfl, _, rfl, _, _, rfl, rfl, a, _, _, _, rfl, rfl, SqL.of (sh2 _ _ ha), at_of (j := anc ps i t - 1) (by omega) (at_ints e1), ?_⟩
          refine ⟨some (.int (0 + (t : Nat))), _, ?_, sh2, hf2, hM2⟩
          show _ = [some (V.ref a), some (V.ref b), some (V.ref F), some (V.int (i : Nat)), some (V.int (up1 ps (anc ps i t) : Nat)), some (V.int (prd ps qs i t * pr1 qs (anc ps i t))), some (V.int (0 + (t : Nat)))]
          rw [h6, h7]
          rfl
        · have e0 : anc ps i t = 0 := by omega
          refine ⟨some (.int (0 + (t : Nat))), _, ?_, sh2, hf2, hM2⟩
          show _ = [some (V.ref a), some (V.ref b), some (V.ref F), some (V.int (i : Nat)), some (V.int (up1 ps (anc ps i t) : Nat)), some (V.int (prd ps qs i t * pr1 qs (anc ps i t))), some (V.int (0 + (t : Nat)))]
          rw [e0, show pr1 qs 0 = 1 from rfl, Int.mul_one]
          rfl
      · obtain ⟨v6, f, rfl, sh, hf, hM⟩ := h
        exact ⟨_, _, _, _, f, rfl, sh, hf, mx_imp hM fun low k => by omega⟩
    · obtain ⟨v3, v4, v5, v6, f, rfl, sh, hf, hM⟩ := h
      exact ⟨_, rfl, k F H' f sh (mx_isH ok (mx_imp hM fun low k => by omega)) hf⟩
end
end K11
set_option maxRecDepth 100000
set_option maxHeartbeats 4000000
namespace K11
open PySem PySem.Spec PyProof.Rows L2 SI
/-- a test answered by facts -/
def tMonoT (t : TT) : TT := fun σ H Q => ∃ Q' : Bool → Hp → Prop, t σ H Q' ∧ ∀ b H1, Q' b H1 → Q b H1
theorem pt_mono {X : Cx} {e : Expr} {t : TT} (h : PT X e t) : PT X e (tMonoT t) := ⟨fun pins s σ H Q I ⟨Q', q, m⟩ => thn (h.run pins s σ H Q' I q) fun b s1 ⟨H1, I1, q1⟩ => ⟨H1, I1, m b H1 q1⟩⟩
def nZ : Option Nat → Nat
  | none => 0
  | some c => c
def gZ : V → V
  | .non => .int 0
  | x => x
def zV (o : Option Nat) : V := .int (nZ o : Nat)
def zRow (ps qs f : List Int) (m : Nat) : List V := (mainRow ps qs f m).map gZ
theorem gZ_nV (o : Option Nat) : gZ (nV o) = zV o := by cases o <;> rfl
theorem zRow_at {ps qs f : List Int} {m v : Nat} (h : v < ps.length + 1) : (zRow ps qs f m)[v]? = some (zV (mainOf ps qs f v m)) := by
  unfold zRow
  rw [List.getElem?_map, mainRow_at h]
  show some (gZ (nV _)) = _
  rw [gZ_nV]
theorem zRow_len (ps qs f : List Int) (m : Nat) : (zRow ps qs f m).length = ps.length + 1 := by unfold zRow mainRow; simp
theorem zRow_L (ps qs f : List Int) : zRow ps qs f ps.length = (mainL ps qs f).map zV := by
  unfold zRow
  rw [mainL_row, List.map_map]
  exact List.map_congr_left fun o _ => gZ_nV o
theorem zRow_next {ps qs f : List Int} {m p : Nat} {q x y : Int} (hp : ps[m]? = some (p : Int)) (hq : qs[m]? = some q) (hx : f[m + 1]? = some x) (hy : f[p]? = some y) (hpl : p < ps.length + 1) :
    zRow ps qs f (m + 1) = if mainOf ps qs f p m = none ∧ q * x = y then (zRow ps qs f m).set p (.int ((m + 1 : Nat) : Int)) else zRow ps qs f m := by
  unfold zRow
  rw [main_next hp hq hx hy hpl]
  split
  · rw [List.map_set]; rfl
  · rfl
theorem zRow_0 (ps qs f : List Int) : zRow ps qs f 0 = List.replicate (ps.length + 1) (V.int 0) := by
  unfold zRow mainRow
  rw [List.map_map, show (gZ ∘ fun v => nV (mainOf ps qs f v 0)) = fun _ => V.int 0 from rfl, List.map_const', List.length_range]
def iV (i : Nat) : V := V.int (i : Nat)
def spLPaths : Sp := fun vs H Q _ => ∃ (a b : Addr) (ps qs : List Int), vs = [.ref a, .ref b] ∧ H a = some (.lst (ps.map V.int)) ∧ H b = some (.lst (qs.map V.int)) ∧ okT ps qs ∧
  ∀ q H' f xs, Same H H' → IsH ps qs 0 f → H' q = some (.tup xs) → TupsV H' xs (pathsTo ps (mainL ps qs f) ps.length) → Q (.ref q) H'
section
variable {P : Program} {w : World} {K : PySem.W.Frag} {mg : Str → Option Value} {base : Heap} {Ad1 Ad2 Ad3 Ad4 Ad5 Ad6 Ad7 Ad8 Ad9 Ad10 Ad11 : Addr}
theorem scLPaths : FnScope ["parents", "prices", "tops", "main", "node", "parent", "product", "rows", "row", "turn"] ["parents", "prices"] (defScope sLPaths) := ⟨rfl, rfl, rfl, by decide +kernel, rfl, by decide +kernel, by decide +kernel⟩
theorem ok_LPaths (T : Txt P w K mg base Ad1 Ad2 Ad3 Ad4 Ad5 Ad6 Ad7 Ad8 Ad9 Ad10 Ad11) : Cl P w K mg base 2 "_law_paths" spLPaths [] := by
  have c_LHeights := ok_LHeights T
  refine cl_of T.d__law_paths scLPaths (fun vs H Q E h => ?_) fun f cdv A outer s H vs Q E hr h => ?_
  · obtain ⟨a, b, ps, qs, rfl, _⟩ := h
    rfl
  · obtain ⟨a, b, ps, qs, rfl, ha, hb, ok, k⟩ := h
    refine ⟨_, (pss_cons (ps_set (i := 2) scLPaths.nd rfl (by first | exact Or.inl rfl | exact Or.inr rfl) (pe_c c_LHeights hr (by decide) rfl (pa_cons (pv 0) (pa_cons (pv 1) pa_nil))))
  (pss_cons (ps_set (i := 3) scLPaths.nd rfl (by first | exact Or.inl rfl | exact Or.inr rfl) (pe_op op_rep (pe_lst (pa_cons pe_int pa_nil)) (pe_callB call_len_seq (by rfl) T.b_len (by decide +kernel) (pa_cons (pv 2) pa_nil))))
  (pss_cons (ps_for (passes_of rfl) rfl (pi_range2 (by rfl) T.b_range (pa_cons pe_int (pa_cons (pe_callB call_len_seq (by rfl) T.b_len (by decide +kernel) (pa_cons (pv 2) pa_nil)) pa_nil))) (pg_name (i := 4) scLPaths.nd rfl (by first | exact Or.inl rfl | exact Or.inr rfl))
    (pss_cons (ps_set (i := 5) scLPaths.nd rfl (by first | exact Or.inl rfl | exact Or.inr rfl) (pe_ix ix_list (pv 0) (pe_op op_sub (pv 4) pe_int) (fun _ _ => rfl)))
    (pss_cons (ps_set (i := 6) scLPaths.nd rfl (by first | exact Or.inl rfl | exact Or.inr rfl) (pe_op op_mulW (pe_ix ix_list (pv 1) (pe_op op_sub (pv 4) pe_int) (fun _ _ => rfl)) (pe_ix ix_list (pv 2) (pv 4) (fun _ _ => rfl))))
    (pss_one (ps_if (PW.pt (pw_and (pt_cmpR op_eq (pe_ix ix_list (pv 3) (pv 5) (fun _ _ => rfl)) pe_int (nomark _)) (pw_and1 (pt_cmpR op_eq (pv 6) (pe_ix ix_list (pv 2) (pv 5) (fun _ _ => rfl)) (nomark _)))))
      (pss_one (ps_asg (pv 4) (pg_sub (pv 3) (pv 5) set_list)))
      pss_nil)))))
  (pss_cons (ps_set (i := 7) scLPaths.nd rfl (by first | exact Or.inl rfl | exact Or.inr rfl) (pe_lst pa_nil))
  (pss_cons (ps_for (passes_of rfl) rfl (pi_range2 (by rfl) T.b_range (pa_cons pe_int (pa_cons (pe_callB call_len_seq (by rfl) T.b_len (by decide +kernel) (pa_cons (pv 2) pa_nil)) pa_nil))) (pg_name (i := 4) scLPaths.nd rfl (by first | exact Or.inl rfl | exact Or.inr rfl))
    (pss_cons (ps_set (i := 5) scLPaths.nd rfl (by first | exact Or.inl rfl | exact Or.inr rfl) (pe_ix ix_list (pv 0) (pe_op op_sub (pv 4) pe_int) (fun _ _ => rfl)))
    (pss_one (ps_if (pt_mono (PW.pt (pw_or (pt_cmpR op_eq (pv 5) pe_int (nomark _)) (pw_or1 (pt_cmpR op_ne (pe_ix ix_list (pv 3) (pv 5) (fun _ _ => rfl)) (pv 4) (nomark _))))))
      (pss_cons (ps_set (i := 8) scLPaths.nd rfl (by first | exact Or.inl rfl | exact Or.inr rfl) (pe_lst (pa_cons (pv 5) (pa_cons (pv 4) pa_nil))))
      (pss_cons (ps_for (passes_of rfl) rfl (pi_range1 (by rfl) T.b_range (pa_cons (pe_callB call_len_seq (by rfl) T.b_len (by decide +kernel) (pa_cons (pv 2) pa_nil)) pa_nil)) (pg_name (i := 9) scLPaths.nd rfl (by first | exact Or.inl rfl | exact Or.inr rfl))
        (pss_one (ps_if (pt_cmpR op_gt (pe_ix ix_list (pv 3) (pe_ix ix_list (pv 8) (pe_un un_neg pe_int) (fun _ _ => rfl)) (fun _ _ => rfl)) pe_int (nomark _))
          (pss_one (ps_expr (pe_bm PySem.F.plainAttrs_list PySem.F.slot_list_append PySem.F.type_list_append mt_append (pv 8) (pa_cons (pe_ix ix_list (pv 3) (pe_ix ix_list (pv 8) (pe_un un_neg pe_int) (fun _ _ => rfl)) (fun _ _ => rfl)) pa_nil))))
          pss_nil)))
      (pss_one (ps_expr (pe_bm PySem.F.plainAttrs_list PySem.F.slot_list_append PySem.F.type_list_append mt_append (pv 7) (pa_cons (pe_callTy call_tuple_of (by rfl) T.b_tuple (by decide +kernel) (pa_cons (pv 8) pa_nil)) pa_nil))))))
      pss_nil))))
  (pss_one (ps_ret (pe_callTy call_tuple_of (by rfl) T.b_tuple (by decide +kernel) (pa_cons (pv 7) pa_nil))))))))), ?_⟩
    have hl := ok.1
    have hlq := ok.2.1
    have hok := ok.2.2
    refine ⟨_, rfl, _, rfl, a, b, ps, qs, rfl, ha, hb, ok, fun tq H1 f s1 hI ht => ?_⟩
    have lf : ((f.map V.int).length : Int) = (ps.length : Int) + 1 := by rw [List.length_map, hI.len]; omega
    refine ⟨by show 1 ≤ sizeLine; decide, fun z1 h1 => ?_⟩
    have s2 : Same H1 (upd H1 z1 (.lst [.int 0])) := sm0 h1
    refine ⟨_, rfl, tq, _, rfl, .inl (SqL.of (s2 _ _ ht)), z1, _, _, rfl, rfl, upd_same, by rw [lf]; omega, by rw [lf]; omega, sz_small (by rw [lf]; simp; omega), fun M hM => ?_⟩
    rw [lf, show ((ps.length : Int) + 1).toNat = ps.length + 1 by omega, rep_one, ← zRow_0 ps qs f]
    have s3 : Same H1 (upd (upd H1 z1 (.lst [.int 0])) M (.lst (zRow ps qs f 0))) := smN s2 hM
    have fM := s2.free hM
    have eM : upd (upd H1 z1 (.lst [.int 0])) M (.lst (zRow ps qs f 0)) M = some (.lst (zRow ps qs f 0)) := upd_same
    generalize upd (upd H1 z1 (.lst [.int 0])) M (.lst (zRow ps qs f 0)) = H2 at s3 eM ⊢
    refine ⟨_, rfl, tq, _, rfl, .inl (SqL.of (s3 _ _ ht)), 1, _, rfl, ⟨by decide, by decide, by rw [lf]; omega, by rw [lf]; omega⟩, ?_⟩
    rw [lf, show ((ps.length : Int) + 1 - 1).toNat = ps.length by omega]
    refine for_range (lo := 1) (n := ps.length) (fun m σ H' => ∃ v4 v5 v6 : Option V, σ = [some (.ref a), some (.ref b), some (.ref tq), some (.ref M), v4, v5, v6, none, none, none] ∧ Same H1 H' ∧ H' M = some (.lst (zRow ps qs f m)))
      ⟨none, none, none, rfl, s3, eM⟩ (fun m σ H' hml h => ?_) fun σ H' h => ?_
    · obtain ⟨v4, v5, v6, rfl, sh, hMm⟩ := h
      have ev : (1 : Int) + (m : Nat) = ((m + 1 : Nat) : Int) := by omega
      rw [ev]
      obtain ⟨p, hp⟩ : ∃ p, ps[m]? = some p := ⟨_, List.getElem?_eq_getElem hml⟩
      obtain ⟨q, hqq⟩ : ∃ q, qs[m]? = some q := ⟨_, List.getElem?_eq_getElem (by omega)⟩
      have ok1 := hok m p q hml hp hqq
      obtain ⟨pn, rfl⟩ : ∃ pn : Nat, p = (pn : Int) := ⟨p.toNat, by have := ok1.1; omega⟩
      have hpm : pn ≤ m := by have := ok1.2.1; omega
      obtain ⟨x, hx⟩ : ∃ x, f[m + 1]? = some x := ⟨_, List.getElem?_eq_getElem (by rw [hI.len]; omega)⟩
      obtain ⟨y, hy⟩ : ∃ y, f[pn]? = some y := ⟨_, List.getElem?_eq_getElem (by rw [hI.len]; omega)⟩
      have px := hI.pos _ _ hx
      have hbig : x ≤ 10 ^ 200 := by
        have e1 : (31 : Int) ^ (ps.length + 1 - (m + 1)) ≤ 31 ^ 60 := pow31_le (by omega)
        have e2 : (31 : Int) ^ 60 ≤ 10 ^ 200 := by decide +kernel
        omega
      have sH := s1.trans sh
      have haa := sH _ _ ha
      have hbb := sH _ _ hb
      have htt := sh _ _ ht
      have hpl : pn < ps.length + 1 := by omega
      have nxt := zRow_next (f := f) hp hqq hx hy hpl
      refine ⟨_, rfl, _, rfl, _, _, rfl, rfl, a, _, _, _, rfl, rfl, SqL.of haa, at_of (j := m) (by omega) (at_ints hp), ?_⟩
      refine ⟨_, rfl, _, rfl, _, _, rfl, rfl, b, _, _, _, rfl, rfl, SqL.of hbb, at_of (j := m) (by omega) (at_ints hqq), _, rfl, _, rfl, tq, _, _, _, rfl, rfl, SqL.of htt, atI_nat (at_ints hx), _, _, rfl, rfl, cmul_small (abs_small (by have := ok1.2.2.1; omega) (by have := ok1.2.2.2; omega)) (abs_small (by omega) hbig), ?_⟩
      refine ⟨_, rfl, _, rfl, M, _, _, _, rfl, rfl, SqL.of hMm, atI_nat (zRow_at hpl), rfl, _, rfl, ?_⟩
      cases e : mainOf ps qs f pn m with
      | some c =>
        have okp : ∀ (i : Nat) (p : Int), ps[i]? = some p → 0 ≤ p ∧ p ≤ i := fun i p hp => by
          obtain ⟨q, hq⟩ : ∃ q, qs[i]? = some q := ⟨_, List.getElem?_eq_getElem (by have := (List.getElem?_eq_some_iff.mp hp).1; omega)⟩
          have := hok i p q (List.getElem?_eq_some_iff.mp hp).1 hp hq
          exact ⟨this.1, this.2.1⟩
        have hc := mainOf_up okp pn m c e
        refine ifI (fun z => by have z : ((c : Nat) : Int) = 0 := z; omega) fun _ => ?_
        refine ⟨_, _, _, rfl, sh, ?_⟩
        rw [nxt, e, if_neg (fun z => by cases z.1)]
        exact hMm
      | none =>
        refine ifI (fun _ => ?_) fun z => absurd rfl z
        refine ⟨_, rfl, _, rfl, _, rfl, tq, _, _, _, rfl, rfl, SqL.of htt, atI_nat (at_ints hy), rfl, _, rfl, ifI (fun c => ?_) fun c => ?_⟩
        · refine ⟨_, rfl, _, rfl, _, rfl, M, _, _, pn, rfl, rfl, hMm, ixN_of rfl (by rw [zRow_len]; omega), ?_⟩
          refine ⟨_, _, _, rfl, smM sh fM, ?_⟩
          rw [upd_same, nxt, e, if_pos ⟨rfl, c⟩]
        · refine ⟨_, _, _, rfl, sh, ?_⟩
          rw [nxt, e, if_neg (fun z => c z.2)]
          exact hMm
    · obtain ⟨v4, v5, v6, rfl, sh3, hMm⟩ := h
      rw [zRow_L] at hMm
      have okp : ∀ (i : Nat) (p : Int), ps[i]? = some p → 0 ≤ p ∧ p ≤ i := fun i p hp => by
        obtain ⟨q, hq⟩ : ∃ q, qs[i]? = some q := ⟨_, List.getElem?_eq_getElem (by have := (List.getElem?_eq_some_iff.mp hp).1; omega)⟩
        have := hok i p q (List.getElem?_eq_some_iff.mp hp).1 hp hq
        exact ⟨this.1, this.2.1⟩
      have hrow : ∀ (v c : Nat), (mainL ps qs f)[v]? = some (some c) → v < c ∧ c < (mainL ps qs f).length := fun v c h => by
        have hv : v < ps.length + 1 := by rw [← mainL_len ps qs f]; exact (List.getElem?_eq_some_iff.mp h).1
        rw [mainL_at hv] at h
        have := mainOf_up okp v _ c (Option.some.inj h)
        rw [mainL_len]
        omega
      have hrl := mainL_len ps qs f
      have hrat : ∀ v, v < ps.length + 1 → ∃ o, (mainL ps qs f)[v]? = some o := fun v hv => ⟨_, mainL_at hv⟩
      have lf2 : (f.map V.int).length = ps.length + 1 := by omega
      generalize hR : mainL ps qs f = row at hMm hrow hrl hrat
      refine ⟨by show 0 ≤ sizeLine; decide, fun F hF => ?_⟩
      have s4 : Same H' (upd H' F (.lst [])) := sm0 hF
      refine ⟨_, rfl, tq, _, rfl, .inl (SqL.of (s4 _ _ (sh3 _ _ ht))), 1, _, rfl, ⟨by decide, by decide, by rw [lf]; omega, by rw [lf]; omega⟩, ?_⟩
      rw [lf, show ((ps.length : Int) + 1 - 1).toNat = ps.length by omega]
      refine for_range (lo := 1) (n := ps.length) (fun m σ H2 => ∃ (v4 v5 v6 v8 v9 : Option V) (xs : List V), σ = [some (.ref a), some (.ref b), some (.ref tq), some (.ref M), v4, v5, v6, some (.ref F), v8, v9] ∧ Same H' H2 ∧ H2 F = some (.lst xs) ∧ TupsV H2 xs (pathsTo ps row m))
        ⟨_, _, _, _, _, [], rfl, s4, upd_same, rfl, fun i v l h => by simp at h⟩ (fun m σ H2 hml h => ?_) fun σ H2 h => ?_
      · obtain ⟨v4, v5, v6, v8, v9, xs, rfl, sh, hFm, hT⟩ := h
        have ev : (1 : Int) + (m : Nat) = ((m + 1 : Nat) : Int) := by omega
        rw [ev]
        obtain ⟨p, hp⟩ : ∃ p, ps[m]? = some p := ⟨_, List.getElem?_eq_getElem hml⟩
        have ok1 := okp m p hp
        obtain ⟨pn, rfl⟩ : ∃ pn : Nat, p = (pn : Int) := ⟨p.toNat, by have := ok1.1; omega⟩
        have hpm : pn ≤ m := by have := ok1.2; omega
        have sH := (s1.trans sh3).trans sh
        have haa := sH _ _ ha
        have htt := (sh3.trans sh) _ _ ht
        have hMm' := sh _ _ hMm
        obtain ⟨o, ho⟩ := hrat pn (by omega)
        have ex : pathsTo ps row (m + 1) = pathsTo ps row m ++ (if (pn : Int) = 0 ∨ row[pn]? ≠ some (some (m + 1)) then [pn :: down row (row.length - (m + 1)) (m + 1)] else []) := by
          show pathsTo ps row m ++ (match ps[m]? with | some p => _ | none => _) = _
          rw [hp]
          show _ ++ (if (pn : Int) = 0 ∨ row[(pn : Int).toNat]? ≠ _ then [(pn : Int).toNat :: _] else _) = _
          rw [Int.toNat_natCast]
        have lenx : xs.length < sizeLine := sz_lt (by have := hT.1; have := paths_len ps row m; omega)
        refine ⟨_, rfl, _, rfl, _, _, rfl, rfl, a, _, _, _, rfl, rfl, SqL.of haa, at_of (j := m) (by omega) (at_ints hp), ?_⟩
        -- the way down
        refine ⟨fun b H3 => H3 = H2 ∧ (b = true ↔ ((pn : Int) = 0 ∨ row[pn]? ≠ some (some (m + 1)))), ?_, ?_⟩
        · refine ⟨_, rfl, rfl, _, rfl, ifI (fun c => ⟨rfl, fun _ => .inl c, fun _ => rfl⟩) fun c => ?_⟩
          have hat : (row.map zV)[pn]? = some (zV o) := by rw [List.getElem?_map, ho]; rfl
          have key : (!decide (zV o = V.int ((m + 1 : Nat) : Int))) = true ↔ row[pn]? ≠ some (some (m + 1)) := by
            rw [Bool.not_eq_true', decide_eq_false_iff_not, ho]
            cases o with
            | none => exact ⟨fun _ z => (by cases z), fun _ z => absurd (show ((0 : Nat) : Int) = ((m + 1 : Nat) : Int) from V.int.inj z) (by omega)⟩
            | some c0 => exact ⟨fun h z => h (by cases z; rfl), fun h z => h (by have e : ((c0 : Nat) : Int) = ((m + 1 : Nat) : Int) := V.int.inj z; rw [show c0 = m + 1 by omega])⟩
          exact ⟨_, rfl, _, rfl, M, _, _, _, rfl, rfl, SqL.of hMm', atI_nat hat, _, rfl, rfl, _, rfl, rfl, fun z => .inr (key.mp z), fun z => key.mpr (z.resolve_left c)⟩
        rintro bt H3 ⟨e3, hbt⟩
        obtain rfl : H2 = H3 := e3.symm
        cases bt with
        | false =>
          refine ifF rfl ?_
          refine ⟨_, _, _, _, _, xs, rfl, sh, hFm, ?_⟩
          rw [ex, if_neg (fun z => by cases hbt.mpr z), List.append_nil]
          exact hT
        | true =>
          have hc := hbt.mp rfl
          refine ifT rfl ?_
          refine ⟨_, rfl, _, rfl, by show 2 ≤ sizeLine; decide, fun r hr => ?_⟩
          have er : upd H2 r (.lst [.int (pn : Int), .int ((m + 1 : Nat) : Int)]) r = some (.lst (([] : List Nat).map iV ++ [iV pn, iV (m + 1)])) := upd_same
          have s5 : Same H2 (upd H2 r (.lst [.int (pn : Int), .int ((m + 1 : Nat) : Int)])) := sm0 hr
          generalize upd H2 r (.lst [.int (pn : Int), .int ((m + 1 : Nat) : Int)]) = H3 at er s5 ⊢
          refine ⟨_, rfl, tq, _, rfl, .inl (SqL.of (s5 _ _ htt)), _, rfl, by omega, by omega, ?_⟩
          rw [lf, show ((ps.length : Int) + 1).toNat = ps.length + 1 by omega]
          refine for_range (lo := 0) (n := ps.length + 1) (fun t σ H4 => ∃ (v9 : Option V) (ini : List Nat) (v j : Nat), σ = [some (.ref a), some (.ref b), some (.ref tq), some (.ref M), some (.int ((m + 1 : Nat) : Int)), some (.int (pn : Int)), v6, some (.ref F), some (.ref r), v9] ∧ Same H2 H4 ∧
              H4 r = some (.lst ((pn :: ini).map iV ++ [iV v])) ∧ down row (row.length - (m + 1)) (m + 1) = ini ++ down row j v ∧ v < row.length ∧ row.length - v ≤ j ∧ (m + 1) + ini.length ≤ v ∧ (row[v]? = some none ∨ t ≤ ini.length))
            ⟨v9, [], m + 1, _, rfl, s5, er, rfl, by omega, Nat.le_refl _, Nat.le_refl _, .inr (Nat.zero_le _)⟩ (fun t σ H4 ht4 h => ?_) fun σ H4 h => ?_
          · obtain ⟨v9, ini, v, j, rfl, sh4, hr4, hd, hv, hj, hiv, hst⟩ := h
            obtain ⟨o2, ho2⟩ := hrat v (by omega)
            obtain ⟨j', rfl⟩ : ∃ j', j = j' + 1 := ⟨j - 1, by omega⟩
            have hM4 := sh4 _ _ hMm'
            have hat : (row.map zV)[v]? = some (zV o2) := by rw [List.getElem?_map, ho2]; rfl
            refine ⟨_, rfl, _, rfl, _, rfl, r, _, _, _, rfl, rfl, SqL.of hr4, atI_last _ _, M, _, _, _, rfl, rfl, SqL.of hM4, atI_nat hat, _, _, rfl, rfl, _, rfl, ?_⟩
            cases o2 with
            | none =>
              refine ifD (fun z => by have z : (0 : Int) < ((0 : Nat) : Int) := z; omega) fun _ => ?_
              exact ⟨_, ini, v, j' + 1, rfl, sh4, hr4, hd, hv, hj, hiv, .inl ho2⟩
            | some c =>
              have hc2 := hrow v c ho2
              refine ifD (fun _ => ?_) fun z => absurd (show (0 : Int) < ((c : Nat) : Int) by omega) z
              refine ⟨_, rfl, .inl ⟨rfl, _, SqL.of hr4⟩, _, rfl, _, rfl, _, rfl, r, _, _, _, rfl, rfl, SqL.of hr4, atI_last _ _, M, _, _, _, rfl, rfl, SqL.of hM4, atI_nat hat, r, _, _, rfl, rfl, hr4, by simp; exact sz_lt (by omega), ?_⟩
              refine ⟨_, ini ++ [v], c, j', rfl, smM sh4 hr, ?_, ?_, hc2.2, by omega, by simp; omega, .inr ?_⟩
              · rw [upd_same]
                show some (HO.lst (_ ++ [iV c])) = _
                simp
              · rw [hd, List.append_assoc]
                congr 1
                show v :: (match row[v]? with | some (some c) => down row j' c | _ => []) = _
                rw [ho2]
                rfl
              · rcases hst with z | z
                · rw [ho2] at z; cases z
                · simp; omega
          · obtain ⟨v9, ini, v, j, rfl, sh4, hr4, hd, hv, hj, hiv, hst⟩ := h
            have hend : row[v]? = some none := hst.elim id fun z => by omega
            obtain ⟨j', rfl⟩ : ∃ j', j = j' + 1 := ⟨j - 1, by omega⟩
            have ed : down row (j' + 1) v = [v] := by
              show v :: (match row[v]? with | some (some c) => down row j' c | _ => []) = _
              rw [hend]
            rw [ed] at hd
            have hF4 := sh4 _ _ hFm
            refine ⟨_, rfl, .inl ⟨rfl, _, SqL.of hF4⟩, _, rfl, r, _, rfl, .inl ⟨SqL.of hr4, fun q hq => ?_⟩⟩
            have er2 : (pn :: ini).map iV ++ [iV v] = (pn :: down row (row.length - (m + 1)) (m + 1)).map fun i => V.int (i : Nat) := by
              rw [hd]
              show _ = (pn :: (ini ++ [v])).map iV
              simp
            rw [er2]
            refine ⟨F, _, _, rfl, rfl, atN hF4 hq, lenx, _, _, _, _, _, xs ++ [.ref q], rfl, smM (sh.trans (smN sh4 hq)) hF, upd_same, ?_⟩
            rw [ex, if_pos hc]
            have t1 := tups_snoc (r := q) (l := pn :: down row (row.length - (m + 1)) (m + 1)) (hT.same (smN sh4 hq)) upd_same
            refine ⟨t1.1, fun i v l a b => ?_⟩
            obtain ⟨r', h1, h2⟩ := t1.2 i v l a b
            exact ⟨r', h1, by rw [upd_ne (ne_of h2 (atN hF4 hq) (by intro z; cases z))]; exact h2⟩
      · obtain ⟨v4, v5, v6, v8, v9, xs, rfl, sh, hFm, hT⟩ := h
        refine ⟨_, rfl, F, _, rfl, .inl ⟨SqL.of hFm, fun l hl => ?_⟩⟩
        exact k l _ f xs (smN ((s1.trans sh3).trans sh) hl) hI upd_same (by rw [hR]; exact hT.same (sm0 hl))
end
end K11
set_option maxRecDepth 100000
set_option maxHeartbeats 4000000
namespace K11
open PySem PySem.Spec PyProof.Rows L2 SI
/-! each node but the root is in one path, behind its top -/
def tails (ls : List (List Nat)) : List Nat := (ls.map List.tail).flatten
theorem tails_app (l k : List (List Nat)) : tails (l ++ k) = tails l ++ tails k := by unfold tails; rw [List.map_append, List.flatten_append]
section
variable {ps : List Int} {row : List (Option Nat)}
def nx (row : List (Option Nat)) (v u : Nat) : Bool := decide (row[u]? = some (some v))
theorem down_count (hrow : ∀ (v c : Nat), row[v]? = some (some c) → v < c ∧ c < row.length) (v : Nat) : ∀ (k s : Nat), s < row.length → row.length - s ≤ k →
    (down row k s).count v = (if s = v then 1 else 0) + (down row k s).countP (nx row v)
  | 0, s, h1, h2 => by omega
  | k + 1, s, h1, h2 => by
    cases e : row[s]? with
    | none => rw [List.getElem?_eq_none_iff] at e; omega
    | some o =>
      cases o with
      | none =>
        have ed : down row (k + 1) s = [s] := by
          show s :: (match row[s]? with | some (some c) => down row k c | _ => []) = _
          rw [e]
        have en : nx row v s = false := by unfold nx; rw [e]; simp
        rw [ed, List.count_cons, List.countP_cons, en]
        simp
      | some c =>
        have ed : down row (k + 1) s = s :: down row k c := by
          show s :: (match row[s]? with | some (some c) => down row k c | _ => []) = _
          rw [e]
        have hc := hrow s c e
        have ih := down_count hrow v k c hc.2 (by omega)
        have en : nx row v s = decide (c = v) := by unfold nx; rw [e]; simp
        rw [ed, List.count_cons, List.countP_cons, en, ih]
        by_cases c1 : c = v <;> by_cases c2 : s = v <;> simp [c1, c2] <;> omega
theorem down_mem (hrow : ∀ (v c : Nat), row[v]? = some (some c) → v < c ∧ c < row.length) {u : Nat} : ∀ (k s : Nat), s < row.length → u ∈ down row k s → s ≤ u ∧ u < row.length
  | 0, s, h1, h2 => by cases h2
  | k + 1, s, h1, h2 => by
    have h3 : u ∈ s :: (match row[s]? with | some (some c) => down row k c | _ => []) := h2
    rcases List.mem_cons.mp h3 with rfl | h3
    · exact ⟨Nat.le_refl _, h1⟩
    · cases e : row[s]? with
      | none => rw [e] at h3; cases h3
      | some o =>
        rw [e] at h3
        cases o with
        | none => cases h3
        | some c =>
          have hc := hrow s c e
          have := down_mem hrow k c hc.2 h3
          exact ⟨by omega, this.2⟩
def stt (ps : List Int) (row : List (Option Nat)) (m : Nat) : Bool := match ps[m]? with
  | some p => decide (p = 0 ∨ row[p.toNat]? ≠ some (some (m + 1)))
  | none => false
theorem tails_next (m : Nat) : tails (pathsTo ps row (m + 1)) = tails (pathsTo ps row m) ++ (if stt ps row m = true then down row (row.length - (m + 1)) (m + 1) else []) := by
  show tails (pathsTo ps row m ++ _) = _
  rw [tails_app]
  congr 1
  unfold stt
  cases e : ps[m]? with
  | none => rfl
  | some p =>
    show tails (if p = 0 ∨ row[p.toNat]? ≠ some (some (m + 1)) then _ else _) = if decide (p = 0 ∨ row[p.toNat]? ≠ some (some (m + 1))) = true then _ else _
    by_cases c : p = 0 ∨ row[p.toNat]? ≠ some (some (m + 1))
    · rw [if_pos c, if_pos (decide_eq_true c)]
      unfold tails
      simp
    · rw [if_neg c, if_neg (by simpa using c)]
      rfl
theorem tails_mem (hrow : ∀ (v c : Nat), row[v]? = some (some c) → v < c ∧ c < row.length) {u : Nat} : ∀ m, m < row.length → u ∈ tails (pathsTo ps row m) → 1 ≤ u ∧ u < row.length
  | 0, _, h => by cases h
  | m + 1, hm, h => by
    rw [tails_next, List.mem_append] at h
    rcases h with h | h
    · exact tails_mem hrow m (by omega) h
    · split at h
      · have := down_mem hrow _ _ hm h
        exact ⟨by omega, this.2⟩
      · cases h
theorem tails_count (hrow : ∀ (v c : Nat), row[v]? = some (some c) → v < c ∧ c < row.length) (v : Nat) (hv : 1 ≤ v) : ∀ m, m < row.length →
    (tails (pathsTo ps row m)).count v = (if v ≤ m ∧ stt ps row (v - 1) = true then 1 else 0) + (tails (pathsTo ps row m)).countP (nx row v)
  | 0, _ => by
    rw [if_neg (by omega)]
    rfl
  | m + 1, hm => by
    rw [tails_next, List.count_append, List.countP_append, tails_count hrow v hv m (by omega)]
    by_cases c : stt ps row m = true
    · rw [if_pos c, down_count hrow v _ (m + 1) hm (Nat.le_refl _)]
      by_cases e : m + 1 = v
      · subst e
        rw [if_neg (fun z : m + 1 ≤ m ∧ stt ps row (m + 1 - 1) = true => by omega), if_pos rfl, if_pos ⟨Nat.le_refl _, by rw [Nat.add_sub_cancel]; exact c⟩]
        omega
      · rw [if_neg e]
        by_cases c2 : v ≤ m ∧ stt ps row (v - 1) = true
        · rw [if_pos c2, if_pos ⟨by omega, c2.2⟩]; omega
        · rw [if_neg c2, if_neg (fun z => c2 ⟨by omega, z.2⟩)]; omega
    · rw [if_neg c]
      have : (v ≤ m + 1 ∧ stt ps row (v - 1) = true) ↔ (v ≤ m ∧ stt ps row (v - 1) = true) := by
        refine ⟨fun z => ⟨?_, z.2⟩, fun z => ⟨by omega, z.2⟩⟩
        by_cases e : v = m + 1
        · subst e; rw [Nat.add_sub_cancel] at z; exact absurd z.2 c
        · omega
      simp only [this, List.count_nil, List.countP_nil, Nat.add_zero]
theorem tails_once (hrow : ∀ (v c : Nat), row[v]? = some (some c) → v < c ∧ c < row.length) (hpar : ∀ (v c : Nat), row[v]? = some (some c) → ps[c - 1]? = some (v : Int)) (hl : row.length = ps.length + 1)
    (okp : ∀ (i : Nat) (p : Int), ps[i]? = some p → 0 ≤ p ∧ p ≤ i) (v : Nat) (h1 : 1 ≤ v) (h2 : v ≤ ps.length) : (tails (pathsTo ps row ps.length)).count v = 1 := by
  induction v using Nat.strongRecOn with
  | ind v ih =>
    rw [tails_count hrow v h1 ps.length (by omega)]
    obtain ⟨p, hp⟩ : ∃ p, ps[v - 1]? = some p := ⟨_, List.getElem?_eq_getElem (by omega)⟩
    have ok := okp _ _ hp
    obtain ⟨pn, rfl⟩ : ∃ pn : Nat, p = (pn : Int) := ⟨p.toNat, by omega⟩
    have es : stt ps row (v - 1) = decide ((pn : Int) = 0 ∨ row[pn]? ≠ some (some v)) := by
      unfold stt
      rw [hp, show v - 1 + 1 = v by omega]
      rfl
    have par : ∀ u, nx row v u = true → u = pn := fun u hu => by
      unfold nx at hu
      rw [decide_eq_true_eq] at hu
      have := hpar u v hu
      rw [hp] at this
      have := Option.some.inj this
      omega
    by_cases c : (pn : Int) = 0 ∨ row[pn]? ≠ some (some v)
    · rw [if_pos ⟨h2, by rw [es]; exact decide_eq_true c⟩]
      have z : (tails (pathsTo ps row ps.length)).countP (nx row v) = 0 := by
        rw [List.countP_eq_zero]
        intro u hu hx
        have e := par u hx
        have hm := tails_mem hrow _ (by omega) hu
        subst e
        rcases c with c | c
        · omega
        · unfold nx at hx
          rw [decide_eq_true_eq] at hx
          exact c hx
      rw [z]
    · rw [if_neg (fun z => by rw [es, decide_eq_true_eq] at z; exact c z.2)]
      have c1 : (pn : Int) ≠ 0 := fun z => c (.inl z)
      have c2 : row[pn]? = some (some v) := Classical.byContradiction fun z => c (.inr z)
      have e : (tails (pathsTo ps row ps.length)).countP (nx row v) = (tails (pathsTo ps row ps.length)).count pn := by
        unfold List.count
        apply List.countP_congr
        intro u _
        rw [beq_iff_eq]
        refine ⟨par u, fun z => ?_⟩
        subst z
        unfold nx
        exact decide_eq_true c2
      rw [e, ih pn (by omega) (by omega) (by omega)]
theorem tails_perm (hrow : ∀ (v c : Nat), row[v]? = some (some c) → v < c ∧ c < row.length) (hpar : ∀ (v c : Nat), row[v]? = some (some c) → ps[c - 1]? = some (v : Int)) (hl : row.length = ps.length + 1)
    (okp : ∀ (i : Nat) (p : Int), ps[i]? = some p → 0 ≤ p ∧ p ≤ i) : (tails (pathsTo ps row ps.length)).Perm (List.range' 1 ps.length) := by
  rw [List.perm_iff_count]
  intro v
  rw [List.count_range_1']
  split
  · exact tails_once hrow hpar hl okp v (by omega) (by omega)
  · rename_i h
    rw [List.count_eq_zero]
    intro hm
    have := tails_mem hrow _ (by omega) hm
    omega
end
theorem mainOf_par {ps qs f : List Int} (v : Nat) : ∀ m c, mainOf ps qs f v m = some c → ps[c - 1]? = some (v : Int)
  | 0, c, h => by cases h
  | m + 1, c, h => by
    have h' : (match mainOf ps qs f v m with | some c => some c | none => if hit ps qs f v m = true then some (m + 1) else none) = some c := h
    cases e : mainOf ps qs f v m with
    | some c' =>
      rw [e] at h'
      cases h'
      exact mainOf_par v m c e
    | none =>
      rw [e] at h'
      by_cases hh : hit ps qs f v m = true
      · have h2 : (if hit ps qs f v m = true then some (m + 1) else none) = some c := h'
        rw [if_pos hh] at h2
        cases h2
        unfold hit at hh
        rw [Bool.and_eq_true, decide_eq_true_eq] at hh
        exact hh.1
      · have h2 : (if hit ps qs f v m = true then some (m + 1) else none) = some c := h'
        rw [if_neg hh] at h2
        cases h2
theorem paths_perm {ps qs f : List Int} (ok : okT ps qs) : (tails (pathsTo ps (mainL ps qs f) ps.length)).Perm (List.range' 1 ps.length) := by
  have okp : ∀ (i : Nat) (p : Int), ps[i]? = some p → 0 ≤ p ∧ p ≤ i := fun i p hp => by
    obtain ⟨q, hq⟩ : ∃ q, qs[i]? = some q := ⟨_, List.getElem?_eq_getElem (by have := (List.getElem?_eq_some_iff.mp hp).1; have := ok.2.1; omega)⟩
    have := ok.2.2 i p q (List.getElem?_eq_some_iff.mp hp).1 hp hq
    exact ⟨this.1, this.2.1⟩
  have at_ : ∀ (v c : Nat), (mainL ps qs f)[v]? = some (some c) → mainOf ps qs f v ps.length = some c := fun v c h => by
    have hv : v < ps.length + 1 := by rw [← mainL_len ps qs f]; exact (List.getElem?_eq_some_iff.mp h).1
    rw [mainL_at hv] at h
    exact Option.some.inj h
  refine tails_perm (fun v c h => ?_) (fun v c h => mainOf_par v _ c (at_ v c h)) (mainL_len ps qs f) okp
  have := mainOf_up okp v _ c (at_ v c h)
  rw [mainL_len]
  omega
theorem paths_ne {ps : List Int} {row : List (Option Nat)} : ∀ m, ∀ l ∈ pathsTo ps row m, 0 < l.length ∧ l.length ≤ row.length + 1
  | 0, l, h => by cases h
  | m + 1, l, h => by
    have h' : l ∈ pathsTo ps row m ++ (match ps[m]? with
      | some p => if p = 0 ∨ row[p.toNat]? ≠ some (some (m + 1)) then [p.toNat :: down row (row.length - (m + 1)) (m + 1)] else []
      | none => []) := h
    rcases List.mem_append.mp h' with h2 | h2
    · exact paths_ne m l h2
    · split at h2
      · split at h2
        · rw [List.mem_singleton] at h2
          subst h2
          have := down_len row (row.length - (m + 1)) (m + 1)
          simp
          omega
        · cases h2
      · cases h2
theorem sorted_one {ns' : List Int} {ts : List Nat} {n : Nat} (h : ts.Perm (List.range' 1 n)) (hp : ns'.Perm (ts.map fun i : Nat => (i : Int))) (hs : ns'.Pairwise (· ≤ ·)) : ns' = (List.range n).map fun i : Nat => (1 : Int) + (i : Nat) := by
  have e : (List.range n).map (fun i : Nat => (1 : Int) + (i : Nat)) = (List.range' 1 n).map fun i : Nat => (i : Int) := by
    rw [List.range'_eq_map_range, List.map_map]
    apply List.map_congr_left
    intro i _
    show (1 : Int) + (i : Nat) = ((1 + i : Nat) : Int)
    omega
  refine List.Perm.eq_of_pairwise (le := (· ≤ ·)) (fun a b _ _ h1 h2 => Int.le_antisymm h1 h2) hs ?_ ?_
  · rw [List.pairwise_map]
    exact List.pairwise_lt_range.imp fun h => by omega
  · rw [e]
    exact hp.trans (h.map _)
theorem cut_tail {l : List Nat} (h : 0 < l.length) : cutV (l.map fun i => V.int (i : Nat)) (some 1) none = l.tail.map fun i => V.int (i : Nat) := by
  unfold cutV
  have e : HT.sIx (l.map fun i => V.int (i : Nat)).length 0 (some 1) = 1 := (HT.sIx_nat _ 0 1).trans (by rw [List.length_map]; omega)
  rw [e, HT.sIx_none, List.take_of_length_le (by rw [List.length_drop]; omega), ← List.map_drop, List.drop_one]
def spEach (K : PySem.W.Frag) : Sp := fun vs H Q _ => ∃ (r : Addr) (xs : List V) (ls : List (List Nat)) (n : Nat), vs = [.ref r, .int ((n : Int) + 1)] ∧ H r = some (.tup xs) ∧ TupsV H xs ls ∧ (tails ls).Perm (List.range' 1 n) ∧ (∀ l ∈ ls, 0 < l.length ∧ l.length ≤ 100) ∧ n ≤ 100 ∧ ∀ H', Same H H' → Q (.bl true) H'
section
variable {P : Program} {w : World} {K : PySem.W.Frag} {mg : Str → Option Value} {base : Heap} {Ad1 Ad2 Ad3 Ad4 Ad5 Ad6 Ad7 Ad8 Ad9 Ad10 Ad11 : Addr}
theorem scLEachOnce : FnScope ["rows", "nodes", "lows", "row"] ["rows", "nodes"] (defScope sLEachOnce) := ⟨rfl, rfl, rfl, by decide +kernel, rfl, by decide +kernel, by decide +kernel⟩
theorem ok_LEachOnce (T : Txt P w K mg base Ad1 Ad2 Ad3 Ad4 Ad5 Ad6 Ad7 Ad8 Ad9 Ad10 Ad11) : Cl P w K mg base 1 "_law_each_once" (spEach K) [] := by
  refine cl_of T.d__law_each_once scLEachOnce (fun vs H Q E h => ?_) fun f cdv A outer s H vs Q E hr h => ?_
  · obtain ⟨r, xs, ls, n, rfl, _⟩ := h
    rfl
  · obtain ⟨r, xs, ls, n, rfl, hx, hT, hp, hne, hn, k⟩ := h
    refine ⟨_, (pss_cons (ps_set (i := 2) scLEachOnce.nd rfl (by first | exact Or.inl rfl | exact Or.inr rfl) (pe_lst pa_nil))
  (pss_cons (ps_for (passes_of rfl) rfl (pi_tup (pv 0)) (pg_name (i := 3) scLEachOnce.nd rfl (by first | exact Or.inl rfl | exact Or.inr rfl))
    (pss_one (ps_set (i := 2) scLEachOnce.nd rfl (by first | exact Or.inl rfl | exact Or.inr rfl) (pe_op op_cat (pv 2) (pe_callTy call_list_of (by rfl) T.b_list (by decide +kernel) (pa_cons (pe_slice sl_tupA (pv 3) (po_some pe_int) po_none) pa_nil))))))
  (pss_one (ps_ret (pe_cmpR (op_eqD hr.units) (pe_callB cr_sortedI (by rfl) T.b_sorted (by decide +kernel) (pa_cons (pv 2) pa_nil)) (pe_listRg rfl (by rfl) T.b_list (prg_2 (by rfl) T.b_range pe_int (pv 1))) (nomark _)))))), ?_⟩
    have htl : (tails ls).length = n := by rw [hp.length_eq, List.length_range']
    have hpl : ∀ i, (tails (ls.take i)).length ≤ n := fun i => by
      have e : tails ls = tails (ls.take i) ++ tails (ls.drop i) := by rw [← tails_app, List.take_append_drop]
      rw [← htl, e, List.length_append]
      omega
    refine ⟨by show 0 ≤ sizeLine; decide, fun L hL => ?_⟩
    refine ⟨_, rfl, r, rfl, ⟨xs, SqT.of (sm0 hL _ _ hx)⟩, for_tup (K := K) (a := r) (xs := xs) (fun i σ H' => ∃ (L : Addr) (v3 : Option V), σ = [some (.ref r), some (.int ((n : Int) + 1)), some (.ref L), v3] ∧ Same H H' ∧ H' L = some (.lst ((tails (ls.take i)).map iV)))
      ⟨L, none, rfl, sm0 hL, upd_same⟩ (fun i σ H' _ h => by obtain ⟨_, _, _, sh, _⟩ := h; exact SqT.of (sh _ _ hx)) (fun i x σ H' hxi h => ?_) fun σ H' h => ?_⟩
    · obtain ⟨L, v3, rfl, sh, hL2⟩ := h
      obtain ⟨l, hli⟩ : ∃ l, ls[i]? = some l := ⟨_, List.getElem?_eq_getElem (by rw [← hT.1]; exact (List.getElem?_eq_some_iff.mp hxi).1)⟩
      obtain ⟨t, rfl, ht⟩ := hT.2 i x l hxi hli
      have hll := hne l (List.mem_of_getElem? hli)
      refine ⟨_, rfl, _, rfl, _, rfl, t, _, rfl, SqT.of (sh _ _ ht), (fun z => absurd z.1 ?_), fun _ p hp1 => ?_⟩
      · rw [show HT.sIx (l.map fun i => V.int (i : Nat)).length 0 (some 1) = 1 from (HT.sIx_nat _ 0 1).trans (by rw [List.length_map]; omega)]
        decide
      rw [cut_tail hll.1]
      refine ⟨p, _, rfl, .inr (SqT.of upd_same), fun l2 hl2 => ?_⟩
      refine ⟨L, l2, _, _, rfl, rfl, atN (atN hL2 hp1) hl2, upd_same, sz_small (by have := hpl i; simp; omega), fun q hq => ?_⟩
      refine ⟨q, _, rfl, smN (smN (smN sh hp1) hl2) hq, ?_⟩
      rw [upd_same, List.take_succ, hli, tails_app, List.map_append]
      congr 3
      show l.tail.map _ = (([l].map List.tail).flatten).map iV
      simp
      rfl
    · obtain ⟨L, v3, rfl, sh, hL2⟩ := h
      rw [hT.1, List.take_length] at hL2
      have hL3 : H' L = some (.lst (((tails ls).map fun i : Nat => (i : Int)).map V.int)) := by rw [hL2, List.map_map]; rfl
      refine ⟨_, rfl, L, _, rfl, SqL.of hL3, fun ns' p hpm hs hp1 => ?_⟩
      refine ⟨_, rfl, 1, (n : Int) + 1, rfl, rfl, RgOk.of_le (by omega) (by omega) (by omega) (by omega), fun q hq => ?_⟩
      have er : rgV 1 ((n : Int) + 1) = ((List.range n).map fun i : Nat => (1 : Int) + (i : Nat)).map V.int := by
        unfold rgV
        rw [show ((n : Int) + 1 - 1).toNat = n by omega, List.map_map]
        rfl
      rw [er]
      refine ⟨_, _, dpL (SqL.of (atN upd_same hq)), dpL (SqL.of upd_same), shL _, shL _, ?_⟩
      rw [eqvL, decide_eq_true (sorted_one hp hpm hs)]
      exact k _ (smN (smN sh hp1) hq)
end
end K11
set_option maxRecDepth 100000
set_option maxHeartbeats 4000000
namespace K11
open PySem PySem.Spec PyProof.Rows L2 SI
local macro_rules | `(tactic| walk_at "lk") => `(tactic| first | exact lk_hit | exact lk_nil | (refine lk_next (by decide +kernel) ?_; walk_at "lk"))
/-! equal data -/
section
variable {H : Hp} {a b : Addr} {d : Nat}
theorem da_map {α : Type} {F : α → V} {xs : List α} (ha : H a = some (.tup (xs.map F))) (hb : H b = some (.tup (xs.map F))) (hz : xs.length ≤ 100000) (h : ∀ x ∈ xs, Da H d (F x) (F x)) : Da H (d + 1) (.ref a) (.ref b) :=
  .tup d a b _ _ ha hb rfl (by rw [List.length_map]; exact hz) fun i x y h1 h2 => by
    rw [h1] at h2
    cases h2
    rw [List.getElem?_map] at h1
    cases e : xs[i]? with
    | none => rw [e] at h1; cases h1
    | some z => rw [e] at h1; cases h1; exact h z (List.mem_of_getElem? e)
theorem da_ints {ns : List Int} (ha : H a = some (.tup (ns.map V.int))) (hb : H b = some (.tup (ns.map V.int))) (hz : ns.length ≤ 100000) : Da H (d + 1) (.ref a) (.ref b) := da_map ha hb hz fun x _ => .int d x
theorem da_one {x y : V} (ha : H a = some (.tup [x])) (hb : H b = some (.tup [y])) (h : Da H d x y) : Da H (d + 1) (.ref a) (.ref b) := .tup d a b _ _ ha hb rfl (by show 1 ≤ 100000; decide) fun i u v h1 h2 => by
  cases i with
  | zero => cases h1; cases h2; exact h
  | succ i => simp at h1
theorem da_two {x y x' y' : V} (ha : H a = some (.tup [x, x'])) (hb : H b = some (.tup [y, y'])) (h : Da H d x y) (h' : Da H d x' y') : Da H (d + 1) (.ref a) (.ref b) := .tup d a b _ _ ha hb rfl (by show 2 ≤ 100000; decide) fun i u v h1 h2 => by
  cases i with
  | zero => cases h1; cases h2; exact h
  | succ i => cases i with
    | zero => cases h1; cases h2; exact h'
    | succ i => simp at h1
theorem da_tups {xs ys : List V} {ls : List (List Nat)} (ha : H a = some (.tup xs)) (hb : H b = some (.tup ys)) (h1 : TupsV H xs ls) (h2 : TupsV H ys ls) (hz : ls.length ≤ 100000) (hl : ∀ l ∈ ls, l.length ≤ 100000) : Da H (d + 2) (.ref a) (.ref b) :=
  .tup (d + 1) a b _ _ ha hb (by rw [h1.1, h2.1]) (by rw [h2.1]; exact hz) fun i x y e1 e2 => by
    obtain ⟨l, hli⟩ : ∃ l, ls[i]? = some l := ⟨_, List.getElem?_eq_getElem (by rw [← h1.1]; exact (List.getElem?_eq_some_iff.mp e1).1)⟩
    obtain ⟨r, rfl, hr⟩ := h1.2 i x l e1 hli
    obtain ⟨t, rfl, ht⟩ := h2.2 i y l e2 hli
    exact da_map hr ht (hl l (List.mem_of_getElem? hli)) fun x _ => .int d _
theorem da_str {s t : Str} {n m : V} (hs : s = t) (hsh : SeqAt.shaped (.str t) = true) (h : Da H d n m) (ha : H a = some (.tup [.str s, n])) (hb : H b = some (.tup [.str t, m])) : Da H (d + 1) (.ref a) (.ref b) := by
  subst hs
  exact da_two ha hb (.str d _ hsh) h
end
def spIsTree (C : Addr) : Sp := fun vs H Q _ => ∃ (t a b : Addr) (ps qs : List Int), vs = [.ref t, .ref a, .ref b] ∧ TreeAt C H t ps qs ∧ H a = some (.lst (ps.map V.int)) ∧ H b = some (.lst (qs.map V.int)) ∧ okT ps qs ∧ ∀ H', Same H H' → Q (.bl true) H'
section
variable {P : Program} {w : World} {K : PySem.W.Frag} {mg : Str → Option Value} {base : Heap} {Ad1 Ad2 Ad3 Ad4 Ad5 Ad6 Ad7 Ad8 Ad9 Ad10 Ad11 : Addr}
theorem scLIsTree : FnScope ["tree", "parents", "prices"] ["tree", "parents", "prices"] (defScope sLIsTree) := ⟨rfl, rfl, rfl, by decide +kernel, rfl, by decide +kernel, by decide +kernel⟩
theorem ok_LIsTree (T : Txt P w K mg base Ad1 Ad2 Ad3 Ad4 Ad5 Ad6 Ad7 Ad8 Ad9 Ad10 Ad11) : Cl P w K mg base 4 "_law_is_tree" (spIsTree Ad11) [] := by
  have c_LSame := ok_LSame T 2
  refine cl_of T.d__law_is_tree scLIsTree (fun vs H Q E h => ?_) fun f cdv A outer s H vs Q E hr h => ?_
  · obtain ⟨t, a, b, ps, qs, rfl, _⟩ := h
    rfl
  · obtain ⟨t, a, b, ps, qs, rfl, ⟨dx, t1, t2, ht, h1, h2⟩, ha, hb, ok, k⟩ := h
    have hl := ok.1
    have hl2 := ok.2.1
    refine ⟨_, (pss_cons (ps_if (PW.pt (pw_or (pt_not (pt_val (pe_callB call_isi (by rfl) T.b_isinstance (by decide +kernel) (pa_cons (pv 0) (pa_cons (pe_glob (v := .ref Ad11) rfl T.gTree rfl) pa_nil))))) (pw_or1 (pt_not (pt_val (pe_c c_LSame hr (by decide) rfl (pa_cons (pe_fld (pv 0) rfl) (pa_cons (pe_op op_add (pe_callB call_len_seq (by rfl) T.b_len (by decide +kernel) (pa_cons (pv 1) pa_nil)) pe_int) pa_nil))))))))
    (pss_one (ps_ret pe_bl))
    pss_nil)
  (pss_one (ps_ret (pe_c c_LSame hr (by decide) rfl (pa_cons (pe_tup (pa_cons (pe_fld (pv 0) rfl) (pa_cons (pe_fld (pv 0) rfl) pa_nil))) (pa_cons (pe_tup (pa_cons (pe_callTy call_tuple_of (by rfl) T.b_tuple (by decide +kernel) (pa_cons (pv 1) pa_nil)) (pa_cons (pe_callTy call_tuple_of (by rfl) T.b_tuple (by decide +kernel) (pa_cons (pv 2) pa_nil)) pa_nil))) pa_nil)))))), ?_⟩
    have l1 : (treeF (ps.length + 1) t1 t2).lookup ("nodes" : Str) = some (V.int (ps.length + 1)) := by walk_at "lk"
    have l2 : (treeF (ps.length + 1) t1 t2).lookup ("parents" : Str) = some (V.ref t1) := by walk_at "lk"
    have l3 : (treeF (ps.length + 1) t1 t2).lookup ("prices" : Str) = some (V.ref t2) := by walk_at "lk"
    refine ⟨_, rfl, _, _, _, _, _, rfl, .own Ad11, .base (.ins ht T.lTree T.iTree.ca T.iTree.cn T.iTree.ct T.iTree.cm), kit_self, _, rfl, iteF ?_⟩
    refine ⟨_, rfl, t, Ad11, dx, _, _, rfl, ht, T.lTree, T.nTree_nodes, l1, _, rfl, a, _, rfl, .inl (SqL.of ha), _, _, rfl, rfl, same_of (by rw [List.length_map]; exact .int _ _) ⟨_, rfl, ifF rfl ?_⟩⟩
    refine ⟨_, rfl, t, Ad11, dx, _, _, rfl, ht, T.lTree, T.nTree_parents, l2, _, rfl, t, Ad11, dx, _, _, rfl, ht, T.lTree, T.nTree_prices, l3, by show 2 ≤ sizeLine; decide, fun p1 hp1 => ?_⟩
    have s1 := sm0 (o := .tup [.ref t1, .ref t2]) hp1
    have e1 : upd H p1 (.tup [.ref t1, .ref t2]) p1 = some (.tup [.ref t1, .ref t2]) := upd_same
    generalize upd H p1 (.tup [.ref t1, .ref t2]) = H1 at s1 e1 ⊢
    refine ⟨_, rfl, a, _, rfl, .inl ⟨SqL.of (s1 _ _ ha), fun q1 hq1 => ?_⟩⟩
    have s2 := smN s1 (o := .tup (ps.map V.int)) hq1
    have e2 := atN (o := .tup (ps.map V.int)) e1 hq1
    have g2 : upd H1 q1 (.tup (ps.map V.int)) q1 = some (.tup (ps.map V.int)) := upd_same
    generalize upd H1 q1 (.tup (ps.map V.int)) = H2 at s2 e2 g2 ⊢
    refine ⟨_, rfl, b, _, rfl, .inl ⟨SqL.of (s2 _ _ hb), fun q2 hq2 => ?_⟩⟩
    have s3 := smN s2 (o := .tup (qs.map V.int)) hq2
    have e3 := atN (o := .tup (qs.map V.int)) e2 hq2
    have g3 := atN (o := .tup (qs.map V.int)) g2 hq2
    have g4 : upd H2 q2 (.tup (qs.map V.int)) q2 = some (.tup (qs.map V.int)) := upd_same
    generalize upd H2 q2 (.tup (qs.map V.int)) = H3 at s3 e3 g3 g4 ⊢
    refine ⟨by show 2 ≤ sizeLine; decide, fun p2 hp2 => ?_⟩
    have s4 := smN s3 (o := .tup [.ref q1, .ref q2]) hp2
    exact same_of (da_two (atN e3 hp2) upd_same (da_ints (s4 _ _ h1) (atN g3 hp2) (by omega)) (da_ints (s4 _ _ h2) (atN g4 hp2) (by omega))) (k _ s4)
theorem scLRight : FnScope ["tree", "parents", "prices", "nodes", "node", "due", "rows"] ["tree", "parents", "prices"] (defScope sLRight) := ⟨rfl, rfl, rfl, by decide +kernel, rfl, by decide +kernel, by decide +kernel⟩
theorem ok_LRight (T : Txt P w K mg base Ad1 Ad2 Ad3 Ad4 Ad5 Ad6 Ad7 Ad8 Ad9 Ad10 Ad11) : Cl P w K mg base 7 "_law_right" (spIsTree Ad11) [] := by
  have c_LSame := ok_LSame T 2
  have c_LIsTree := ok_LIsTree T
  have c_LChildren := ok_LChildren T
  have d_TreeChildren := ok_Children T
  have m_TreeChildren := d_TreeChildren.mt
  have c_LRaised := ok_LRaised T
  have c_LHeights := ok_LHeights T
  have d_Heights := ok_Heights T
  have c_Heights := d_Heights.cl
  have c_LPaths := ok_LPaths T
  have d_Paths := ok_Paths T
  have c_Paths := d_Paths.cl
  have c_LEachOnce := ok_LEachOnce T
  refine cl_of T.d__law_right scLRight (fun vs H Q E h => ?_) fun f cdv A outer s H vs Q E hr h => ?_
  · obtain ⟨t, a, b, ps, qs, rfl, _⟩ := h
    rfl
  · obtain ⟨t, a, b, ps, qs, rfl, hT, ha, hb, ok, k⟩ := h
    have hl := ok.1
    have hl2 := ok.2.1
    have lp : (((ps.map V.int).length : Nat) : Int) = (ps.length : Int) := by rw [List.length_map]
    have kb : ∀ v, (kids ps v ps.length).length ≤ 100000 := fun v => by have := kids_len ps v ps.length; omega
    refine ⟨_, (pss_cons (ps_set (i := 3) scLRight.nd rfl (by first | exact Or.inl rfl | exact Or.inr rfl) (pe_op op_add (pe_callB call_len_seq (by rfl) T.b_len (by decide +kernel) (pa_cons (pv 1) pa_nil)) pe_int))
  (pss_cons (ps_if (pt_not (pt_val (pe_c c_LIsTree hr (by decide) rfl (pa_cons (pv 0) (pa_cons (pv 1) (pa_cons (pv 2) pa_nil))))))
    (pss_one (ps_ret pe_bl))
    pss_nil)
  (pss_cons (ps_for (passes_of rfl) rfl (pi_range1 (by rfl) T.b_range (pa_cons (pv 3) pa_nil)) (pg_name (i := 4) scLRight.nd rfl (by first | exact Or.inl rfl | exact Or.inr rfl))
    (pss_cons (ps_set (i := 5) scLRight.nd rfl (by first | exact Or.inl rfl | exact Or.inr rfl) (pe_callTy call_tuple_of (by rfl) T.b_tuple (by decide +kernel) (pa_cons (pe_c c_LChildren hr (by decide) rfl (pa_cons (pv 1) (pa_cons (pv 4) pa_nil))) pa_nil)))
    (pss_one (ps_if (pt_not (pt_val (pe_c c_LSame hr (by decide) rfl (pa_cons (pe_mt m_TreeChildren hr (by decide) (pv 0) (pa_cons (pv 4) pa_nil)) (pa_cons (pv 5) pa_nil)))))
      (pss_one (ps_ret pe_bl))
      pss_nil))))
  (pss_cons (ps_for (passes_of rfl) rfl (pi_list (pe_lst (pa_cons (pe_un un_neg pe_int) (pa_cons (pv 3) (pa_cons (pe_op op_add (pv 3) pe_int) (pa_cons (pe_op op_pow pe_int pe_int) (pa_cons (pe_op op_sub pe_int (pe_op op_pow pe_int pe_int)) pa_nil))))))) (pg_name (i := 4) scLRight.nd rfl (by first | exact Or.inl rfl | exact Or.inr rfl))
    (pss_one (ps_if (pt_not (pt_val (pe_c c_LSame hr (by decide) rfl (pa_cons (pe_c c_LRaised hr (by decide) rfl (pa_cons pe_str (pa_cons (pv 0) (pa_cons (pv 4) pa_nil)))) (pa_cons (pe_tup (pa_cons (pe_tup (pa_cons pe_str (pa_cons (pv 4) pa_nil))) pa_nil)) pa_nil)))))
      (pss_one (ps_ret pe_bl))
      pss_nil)))
  (pss_cons (ps_set (i := 5) scLRight.nd rfl (by first | exact Or.inl rfl | exact Or.inr rfl) (pe_callTy call_tuple_of (by rfl) T.b_tuple (by decide +kernel) (pa_cons (pe_c c_LHeights hr (by decide) rfl (pa_cons (pv 1) (pa_cons (pv 2) pa_nil))) pa_nil)))
  (pss_cons (ps_if (pt_not (pt_val (pe_c c_LSame hr (by decide) rfl (pa_cons (pe_c c_Heights hr (by decide) rfl (pa_cons (pv 0) pa_nil)) (pa_cons (pv 5) pa_nil)))))
    (pss_one (ps_ret pe_bl))
    pss_nil)
  (pss_cons (ps_set (i := 6) scLRight.nd rfl (by first | exact Or.inl rfl | exact Or.inr rfl) (pe_c c_LPaths hr (by decide) rfl (pa_cons (pv 1) (pa_cons (pv 2) pa_nil))))
  (pss_cons (ps_if (PW.pt (pw_or (pt_not (pt_val (pe_c c_LSame hr (by decide) rfl (pa_cons (pe_c c_Paths hr (by decide) rfl (pa_cons (pv 0) pa_nil)) (pa_cons (pv 6) pa_nil))))) (pw_or1 (pt_not (pt_val (pe_c c_LEachOnce hr (by decide) rfl (pa_cons (pv 6) (pa_cons (pv 3) pa_nil))))))))
    (pss_one (ps_ret pe_bl))
    pss_nil)
  (pss_cons (ps_if (pt_not (pt_val (pe_c c_LSame hr (by decide) rfl (pa_cons (pe_mtK0 (ks := ["node"]) (g := fun l => l) d_TreeChildren hr (by decide) (pv 0) (pk_cons pe_int pk_nil) (fun _ _ _ _ _ _ _ ws hl => match ws, hl with | [_], _ => rfl) (fun r => r)) (pa_cons (pe_callTy call_tuple_of (by rfl) T.b_tuple (by decide +kernel) (pa_cons (pe_c c_LChildren hr (by decide) rfl (pa_cons (pv 1) (pa_cons pe_int pa_nil))) pa_nil)) pa_nil)))))
    (pss_one (ps_ret pe_bl))
    pss_nil)
  (pss_one (ps_ret (pe_and (pe_c c_LSame hr (by decide) rfl (pa_cons (pe_cK0 (ks := ["tree"]) (g := fun l => l) d_Heights hr (by decide) rfl (pk_cons (pv 0) pk_nil) (fun _ _ _ _ _ _ ws hl => match ws, hl with | [_], _ => rfl) (fun r => r)) (pa_cons (pv 5) pa_nil))) (pe_one (pe_c c_LSame hr (by decide) rfl (pa_cons (pe_cK0 (ks := ["tree"]) (g := fun l => l) d_Paths hr (by decide) rfl (pk_cons (pv 0) pk_nil) (fun _ _ _ _ _ _ ws hl => match ws, hl with | [_], _ => rfl) (fun r => r)) (pa_cons (pv 6) pa_nil)))))))))))))))), ?_⟩
    refine ⟨_, rfl, a, _, rfl, .inl (SqL.of ha), _, _, rfl, rfl, ?_⟩
    rw [lp]
    refine ⟨_, rfl, _, rfl, _, rfl, t, a, b, ps, qs, rfl, hT, ha, hb, ok, fun H1 s1 => ⟨_, rfl, ifF rfl ?_⟩⟩
    refine ⟨_, rfl, _, rfl, by omega, by omega, ?_⟩
    rw [show ((ps.length : Int) + 1).toNat = ps.length + 1 by omega]
    refine for_range (lo := 0) (n := ps.length + 1) (fun i σ H' => ∃ v4 v5 : Option V, σ = [some (.ref t), some (.ref a), some (.ref b), some (.int ((ps.length : Int) + 1)), v4, v5, none] ∧ Same H H')
      ⟨_, _, rfl, s1⟩ (fun i σ H' hi h => ?_) fun σ H' h => ?_
    · obtain ⟨v4, v5, rfl, sh⟩ := h
      rw [Int.zero_add]
      refine ⟨_, rfl, _, rfl, a, ps, _, rfl, sh _ _ ha, by omega, fun q H2 s2 hq => ?_⟩
      refine ⟨q, _, rfl, .inl ⟨SqL.of hq, fun d hd => ?_⟩⟩
      have s3 := smN (sh.trans s2) (o := .tup ((kids ps (i : Nat) ps.length).map V.int)) hd
      have e3 : upd H2 d (.tup ((kids ps (i : Nat) ps.length).map V.int)) d = some (.tup ((kids ps (i : Nat) ps.length).map V.int)) := upd_same
      generalize upd H2 d (.tup ((kids ps (i : Nat) ps.length).map V.int)) = H3 at s3 e3 ⊢
      have hT3 := hT.same s3
      obtain ⟨dx, t1, t2, ht, _, _⟩ := id hT3
      refine ⟨_, rfl, t, dx, _, rfl, ht, (by walk_at "lk"), _, rfl, t, ps, qs, _, rfl, hT3, hl, fun _ _ q2 H4 s4 hq2 => ?_, fun z => by omega⟩
      exact ⟨_, rfl, same_of (da_ints hq2 (s4 _ _ e3) (kb _)) ⟨_, rfl, ifF rfl ⟨_, _, rfl, s3.trans s4⟩⟩⟩
    · obtain ⟨v4, v5, rfl, sh⟩ := h
      refine ⟨_, rfl, _, rfl, _, rfl, _, _, rfl, rfl, _, _, rfl, rfl, pow10 (by decide) (by decide), _, _, rfl, rfl, pow10 (by decide) (by decide), _, _, rfl, rfl, by show 5 ≤ sizeLine; decide, fun L hL => ?_⟩
      have eL : upd H' L (.lst (([-1, (ps.length : Int) + 1, (ps.length : Int) + 1 + 7, 10 ^ Int.toNat 60, 0 - 10 ^ Int.toNat 60] : List Int).map V.int)) L = some (.lst (([-1, (ps.length : Int) + 1, (ps.length : Int) + 1 + 7, 10 ^ Int.toNat 60, 0 - 10 ^ Int.toNat 60] : List Int).map V.int)) := upd_same
      have sL := smN sh (o := .lst (([-1, (ps.length : Int) + 1, (ps.length : Int) + 1 + 7, 10 ^ Int.toNat 60, 0 - 10 ^ Int.toNat 60] : List Int).map V.int)) hL
      have big : (1000 : Int) ≤ 10 ^ Int.toNat 60 := by decide +kernel
      have out : ∀ z ∈ ([-1, (ps.length : Int) + 1, (ps.length : Int) + 1 + 7, 10 ^ Int.toNat 60, 0 - 10 ^ Int.toNat 60] : List Int), z < 0 ∨ (ps.length : Int) + 1 ≤ z := by
        intro z hz
        simp only [List.mem_cons, List.not_mem_nil, or_false] at hz
        omega
      refine ⟨L, rfl, ⟨_, SqL.of eL⟩, for_list (K := K) (a := L) (xs := ([-1, (ps.length : Int) + 1, (ps.length : Int) + 1 + 7, 10 ^ Int.toNat 60, 0 - 10 ^ Int.toNat 60] : List Int).map V.int)
        (fun i σ H2 => ∃ v4 : Option V, σ = [some (.ref t), some (.ref a), some (.ref b), some (.int ((ps.length : Int) + 1)), v4, v5, none] ∧ Same H H2 ∧ H2 L = some (.lst (([-1, (ps.length : Int) + 1, (ps.length : Int) + 1 + 7, 10 ^ Int.toNat 60, 0 - 10 ^ Int.toNat 60] : List Int).map V.int)))
        ⟨v4, rfl, sL, eL⟩ (fun i σ H2 _ h => by obtain ⟨_, _, _, e⟩ := h; exact SqL.of e) (fun i x σ H2 hx h => ?_) fun σ H2 h => ?_⟩
      · obtain ⟨v4, rfl, sh, eL⟩ := h
        obtain ⟨z, hz, rfl⟩ := ints_at hx
        have hz2 := out z (List.mem_of_getElem? hz)
        refine ⟨_, rfl, _, rfl, .inr ⟨t, ps, qs, z, rfl, hT.same sh, hl, hz2, fun q r H3 s3 hr hq => ?_⟩⟩
        refine ⟨_, rfl, by show 2 ≤ sizeLine; decide, fun p1 hp1 => ⟨by show 1 ≤ sizeLine; decide, fun p2 hp2 => ?_⟩⟩
        exact same_of (da_one (atN (atN hq hp1) hp2) upd_same (da_str rfl (by decide +kernel) (.int _ _) (atN (atN hr hp1) hp2) (atN upd_same hp2))) ⟨_, rfl, ifF rfl ⟨_, rfl, smN (smN (sh.trans s3) hp1) hp2, atN (atN (s3 _ _ eL) hp1) hp2⟩⟩
      · obtain ⟨v4, rfl, sh, _⟩ := h
        refine ⟨_, rfl, _, rfl, a, b, ps, qs, rfl, sh _ _ ha, sh _ _ hb, ok, fun q H3 f s3 hI hq => ⟨q, _, rfl, .inl ⟨SqL.of hq, fun d hd => ?_⟩⟩⟩
        have s4 := smN (sh.trans s3) (o := .tup (f.map V.int)) hd
        have e4 : upd H3 d (.tup (f.map V.int)) d = some (.tup (f.map V.int)) := upd_same
        generalize upd H3 d (.tup (f.map V.int)) = H4 at s4 e4 ⊢
        have lf : f.length ≤ 100000 := by rw [hI.len]; omega
        refine ⟨_, rfl, t, ps, qs, rfl, hT.same s4, ok, fun q2 H5 f2 s5 hI2 hq2 => ?_⟩
        obtain rfl := isH_uniq hl2 ok.2.2 hI hI2
        refine ⟨_, rfl, same_of (da_ints hq2 (s5 _ _ e4) lf) ⟨_, rfl, ifF rfl ?_⟩⟩
        have s45 := s4.trans s5
        refine ⟨_, rfl, _, rfl, a, b, ps, qs, rfl, s45 _ _ ha, s45 _ _ hb, ok, fun rq H6 f3 xs s6 hI3 hrq hTu => ?_⟩
        obtain rfl := isH_uniq hl2 ok.2.2 hI hI3
        have s46 := s45.trans s6
        have hne := paths_ne (ps := ps) (row := mainL ps qs f) ps.length
        have hrl := mainL_len ps qs f
        have hpl := paths_len ps (mainL ps qs f) ps.length
        have hll : ∀ l ∈ pathsTo ps (mainL ps qs f) ps.length, l.length ≤ 100000 := fun l h => by have := (hne l h).2; omega
        refine ⟨_, rfl, t, ps, qs, rfl, hT.same s46, ok, fun q7 H7 f4 xs4 s7 hI4 hq7 hTu4 => ?_⟩
        obtain rfl := isH_uniq hl2 ok.2.2 hI hI4
        refine ⟨_, rfl, same_of (da_tups hq7 (s7 _ _ hrq) hTu4 (hTu.same s7) (by omega) hll) ⟨_, rfl, ifF rfl ?_⟩⟩
        have s47 := s46.trans s7
        refine ⟨_, rfl, _, rfl, rq, xs, _, ps.length, rfl, s7 _ _ hrq, hTu.same s7, paths_perm ok, (fun l h => ⟨(hne l h).1, by have := (hne l h).2; omega⟩), by omega, fun H8 s8 => ⟨_, rfl, ifF rfl ?_⟩⟩
        have s48 := s47.trans s8
        have hT8 := hT.same s48
        obtain ⟨dx, t1, t2, ht, _, _⟩ := id hT8
        refine ⟨_, rfl, t, dx, _, rfl, ht, (by walk_at "lk"), rfl, t, ps, qs, 0, rfl, hT8, hl, (fun _ _ q9 H9 s9 hq9 => ?_), fun z => by omega⟩
        refine ⟨_, rfl, a, ps, 0, rfl, (s48.trans s9) _ _ ha, by omega, fun q H10 s10 hq => ⟨q, _, rfl, .inl ⟨SqL.of hq, fun d2 hd2 => ?_⟩⟩⟩
        have s4b := smN (((s5.trans s6).trans s7).trans (s8.trans (s9.trans s10))) (o := .tup ((kids ps 0 ps.length).map V.int)) hd2
        have srb := smN (s7.trans (s8.trans (s9.trans s10))) (o := .tup ((kids ps 0 ps.length).map V.int)) hd2
        refine same_of (da_ints (atN (s10 _ _ hq9) hd2) upd_same (kb _)) ⟨_, rfl, ifF rfl ?_⟩
        have ed := s4b _ _ e4
        have er := srb _ _ hrq
        have sAll := s4.trans s4b
        have hTu2 := hTu.same srb
        generalize upd H10 d2 (.tup ((kids ps 0 ps.length).map V.int)) = H11 at ed er sAll hTu2 ⊢
        refine ⟨_, rfl, rfl, t, ps, qs, rfl, hT.same sAll, ok, fun q12 H12 f12 s12 hI12 hq12 => ?_⟩
        obtain rfl := isH_uniq hl2 ok.2.2 hI hI12
        refine ⟨_, rfl, same_of (da_ints hq12 (s12 _ _ ed) lf) ⟨_, rfl, iteT ?_⟩⟩
        refine ⟨_, rfl, rfl, t, ps, qs, rfl, hT.same (sAll.trans s12), ok, fun q13 H13 f13 xs13 s13 hI13 hq13 hTu13 => ?_⟩
        obtain rfl := isH_uniq hl2 ok.2.2 hI hI13
        exact ⟨_, rfl, same_of (da_tups hq13 ((s12.trans s13) _ _ er) hTu13 (hTu2.same (s12.trans s13)) (by omega) hll) (k _ ((sAll.trans s12).trans s13))⟩
end
end K11
set_option maxRecDepth 100000
set_option maxHeartbeats 4000000
namespace K11
open PySem PySem.Spec PyProof.Rows L2 SI
theorem okT.setq {ps qs : List Int} (ok : okT ps qs) {j : Nat} {q : Int} (h1 : 2 ≤ q) (h2 : q ≤ 31) : okT ps (qs.set j q) := by
  refine ⟨ok.1, by rw [List.length_set]; exact ok.2.1, fun i p r hi hp hr => ?_⟩
  obtain ⟨r0, hr0⟩ : ∃ r0, qs[i]? = some r0 := ⟨_, List.getElem?_eq_getElem (by have := ok.2.1; omega)⟩
  have o := ok.2.2 i p r0 hi hp hr0
  rw [List.getElem?_set] at hr
  split at hr
  · split at hr
    · cases hr; exact ⟨o.1, o.2.1, h1, h2⟩
    · cases hr
  · rw [hr0] at hr; cases hr; exact o
theorem okT.setp {ps qs : List Int} (ok : okT ps qs) {j : Nat} {q : Int} (h1 : 0 ≤ q) (h2 : q ≤ j) : okT (ps.set j q) qs := by
  refine ⟨by rw [List.length_set]; exact ok.1, by rw [List.length_set]; exact ok.2.1, fun i p r hi hp hr => ?_⟩
  rw [List.length_set] at hi
  obtain ⟨p0, hp0⟩ : ∃ p0, ps[i]? = some p0 := ⟨_, List.getElem?_eq_getElem hi⟩
  have o := ok.2.2 i p0 r hi hp0 hr
  rw [List.getElem?_set] at hp
  split at hp
  · rename_i e
    subst e
    first
      | (rw [if_pos hi] at hp; cases hp; exact ⟨h1, h2, o.2.2⟩)
      | (cases hp; exact ⟨h1, h2, o.2.2⟩)
  · rw [hp0] at hp; cases hp; exact o
theorem okT.snoc {ps qs : List Int} (ok : okT ps qs) (h : ps.length < 59) : okT (ps ++ [0]) (qs ++ [2]) := by
  refine ⟨by simp; omega, by simp [ok.2.1], ?_⟩
  rw [List.length_append]
  exact okTo_snoc rfl ok.2.1 ok.2.2 ⟨by decide, by omega, by decide, by decide⟩
theorem set_ne {l : List Int} {j : Nat} {x y : Int} (h : l[j]? = some x) (n : y ≠ x) : l ≠ l.set j y := fun e => by
  have hj := (List.getElem?_eq_some_iff.mp h).1
  have h2 : (l.set j y)[j]? = some y := by rw [List.getElem?_set_self hj]
  rw [← e, h] at h2
  exact n (Option.some.inj h2).symm
theorem TreeAt.but {C p t : Addr} {H H' : Hp} {ps qs : List Int} {b : Nat} (h : TreeAt C H t ps qs) (hp : PoolB H p b) (s : But p H H') : TreeAt C H' t ps qs := by
  obtain ⟨z, ns, hp, _⟩ := hp
  obtain ⟨dx, a, b, h1, h2, h3⟩ := h
  exact ⟨dx, a, b, s _ _ (ne_of h1 hp (by intro z; cases z)) h1, s _ _ (ne_of h2 hp (by intro z; cases z)) h2, s _ _ (ne_of h3 hp (by intro z; cases z)) h3⟩
theorem no_bad {ps qs : List Int} (ok : okT ps qs) {Ad2 Ad6 Ad9 Ad10 x : Addr} {fs : List (Str × V)} (h : BadT Ad2 Ad6 Ad9 Ad10 ps qs x fs) : False := by
  cases h with
  | many h => have := ok.1; omega
  | width h h2 => exact h2 ok.2.1
  | par h h2 i h3 =>
    obtain ⟨_, p, hp, c⟩ := h3
    have hi := (List.getElem?_eq_some_iff.mp hp).1
    obtain ⟨q, hq⟩ : ∃ q, qs[i]? = some q := ⟨_, List.getElem?_eq_getElem (by omega)⟩
    have := ok.2.2 i p q hi hp hq
    have := this.1
    have := (ok.2.2 i p q hi hp hq).2.1
    omega
  | pri h h2 i h3 =>
    obtain ⟨_, ⟨p, hp, _⟩, q, hq, c⟩ := h3
    have hi := (List.getElem?_eq_some_iff.mp hp).1
    have := (ok.2.2 i p q hi hp hq).2.2
    have h1 := this.1
    have h2 := this.2
    omega
/-- Tree(a, b) of good rows -/
theorem mk_ok {K : PySem.W.Frag} {Ad2 Ad6 Ad9 Ad10 C : Addr} {H1 : Hp} {a b x dx : Addr} {ps qs : List Int} {Q : VK} {E : XK} (hx : H1 x = none) (hdx : H1 dx = none) (ok : okT ps qs) (ha : RowR K H1 a ps) (hb : RowR K H1 b qs)
    (k : ∀ H', Same H1 H' → TreeAt C H' x ps qs → Q .non H') : spTree K Ad2 Ad6 Ad9 Ad10 C (.ref x :: ([.ref a, .ref b] ++ [])) (upd (upd H1 dx (.own x)) x (.ins C dx [])) Q E := by
  have s0 : Same H1 (upd (upd H1 dx (.own x)) x (.ins C dx [])) := smM (sm0 hdx) hx
  exact ⟨x, dx, a, b, ps, qs, rfl, upd_same, ha.same s0, hb.same s0, fun _ H' hb' ht => k H' (fun c o e => hb' c o (ne_of_none e hx) (s0 _ _ e)) ht, fun y fs hbad => (no_bad ok hbad).elim⟩
/-- t == x -/
theorem own_eq {K : PySem.W.Frag} {C t x : Addr} {H : Hp} {Q : VK} {ps qs ps' qs' : List Int} {b : Bool} (h : TreeAt C H t ps qs) (h' : TreeAt C H x ps' qs') (e : (decide (ps = ps') && decide (qs = qs')) = b) (k : Q (.bl b) H) : rOwnI K C (spTreeEq K C) (.ref t) (.ref x) H Q := by
  obtain ⟨dx, a1, a2, ht, _, _⟩ := id h
  obtain ⟨dy, b1, b2, hx, _, _⟩ := id h'
  exact ⟨t, dx, _, .ref C, rfl, ht, .ins hx, nf_self, t, .ref x, ps, qs, rfl, h, .inl ⟨x, ps', qs', rfl, h', by rw [e]; exact k⟩⟩
/-- t == y, y no tree -/
theorem own_ne {K : PySem.W.Frag} {C t : Addr} {y : V} {ty : Value} {H : Hp} {Q : VK} {ps qs : List Int} (h : TreeAt C H t ps qs) (hv : TyV K H y ty) (hx : TyX K H y ty) (hn : PySem.W.notFirst K C ty = true) (hk : PySem.W.kitOne K ty (.ref C) = some false) (k : Q (.bl false) H) : rOwnI K C (spTreeEq K C) (.ref t) y H Q := by
  obtain ⟨dx, a1, a2, ht, _, _⟩ := id h
  exact ⟨t, dx, _, ty, rfl, ht, hv, hn, t, y, ps, qs, rfl, h, .inr ⟨ty, hx, hk, k⟩⟩
def spEquals (C : Addr) : Sp := fun vs H Q _ => ∃ (p t a b : Addr) (ps qs : List Int) (c : Nat), vs = [.ref p, .ref t, .ref a, .ref b] ∧ PoolB H p c ∧ c ≤ 10 ^ 6 ∧ TreeAt C H t ps qs ∧ H a = some (.lst (ps.map V.int)) ∧ H b = some (.lst (qs.map V.int)) ∧ a ≠ p ∧ b ≠ p ∧ okT ps qs ∧ ∀ H', But p H H' → Q (.bl true) H'
section
variable {P : Program} {w : World} {K : PySem.W.Frag} {mg : Str → Option Value} {base : Heap} {Ad1 Ad2 Ad3 Ad4 Ad5 Ad6 Ad7 Ad8 Ad9 Ad10 Ad11 : Addr}
theorem scLEquals : FnScope ["pool", "tree", "parents", "prices", "other", "at", "row"] ["pool", "tree", "parents", "prices"] (defScope sLEquals) := ⟨rfl, rfl, rfl, by decide +kernel, rfl, by decide +kernel, by decide +kernel⟩
theorem ok_LEquals (T : Txt P w K mg base Ad1 Ad2 Ad3 Ad4 Ad5 Ad6 Ad7 Ad8 Ad9 Ad10 Ad11) : Cl P w K mg base 6 "_law_equals" (spEquals Ad11) [] := by
  have c_LTruth := ok_LTruth T
  have c_LDraw := ok_LDraw T
  have m_TreeEq := ok_TreeEq T
  have k_Tree := (ok_Tree T).mkr
  refine cl_of T.d__law_equals scLEquals (fun vs H Q E h => ?_) fun f cdv A outer s H vs Q E hr h => ?_
  · obtain ⟨p, t, a, b, ps, qs, c, rfl, _⟩ := h
    rfl
  · obtain ⟨p, t, a, b, ps, qs, c, rfl, hp, hc, hT, ha, hb, nap, nbp, ok, k⟩ := h
    have hl := ok.1
    have hl2 := ok.2.1
    have lp : (((ps.map V.int).length : Nat) : Int) = (ps.length : Int) := by rw [List.length_map]
    have kt : ∀ {n : String}, PySem.W.subIn K (.type n) (.ref Ad11) = some false → PySem.W.kitOne K (.type n) (.ref Ad11) = some false := fun h => kit_tyR T.lTree.hd T.yTree h
    refine ⟨_, (pss_cons (ps_if (pt_not (pt_val (pe_c c_LTruth hr (by decide) rfl (pa_cons (pe_cmpR (op_ownI (fun _ _ => rfl) m_TreeEq hr (by decide)) (pv 1) (pe_mk k_Tree hr (by decide) rfl (pa_cons (pe_callTy call_tuple_of (by rfl) T.b_tuple (by decide +kernel) (pa_cons (pv 2) pa_nil)) (pa_cons (pe_callTy call_tuple_of (by rfl) T.b_tuple (by decide +kernel) (pa_cons (pv 3) pa_nil)) pa_nil))) (nomark _)) (pa_cons pe_bl pa_nil)))))
    (pss_one (ps_ret pe_bl))
    pss_nil)
  (pss_cons (ps_for (passes_of rfl) rfl (pi_list (pe_lst (pa_cons pe_non (pa_cons (pe_op op_add (pe_callB call_len_seq (by rfl) T.b_len (by decide +kernel) (pa_cons (pv 2) pa_nil)) pe_int) (pa_cons (pe_callTy call_tuple_of (by rfl) T.b_tuple (by decide +kernel) (pa_cons (pv 2) pa_nil)) (pa_cons (pe_lst (pa_cons (pv 2) (pa_cons (pv 3) pa_nil))) (pa_cons pe_str pa_nil))))))) (pg_name (i := 4) scLEquals.nd rfl (by first | exact Or.inl rfl | exact Or.inr rfl))
    (pss_one (ps_if (pt_not (pt_val (pe_c c_LTruth hr (by decide) rfl (pa_cons (pe_cmpR (op_ownI (fun _ _ => rfl) m_TreeEq hr (by decide)) (pv 1) (pv 4) (nomark _)) (pa_cons pe_bl pa_nil)))))
      (pss_one (ps_ret pe_bl))
      pss_nil)))
  (C8.pss_cut (ps_if (pt_cmpR op_lt (pe_callB call_len_seq (by rfl) T.b_len (by decide +kernel) (pa_cons (pv 2) pa_nil)) pe_int (nomark _))
    (pss_cons (ps_set (i := 4) scLEquals.nd rfl (by first | exact Or.inl rfl | exact Or.inr rfl) (pe_mk k_Tree hr (by decide) rfl (pa_cons (pe_op op_cat (pv 2) (pe_lst (pa_cons pe_int pa_nil))) (pa_cons (pe_op op_cat (pv 3) (pe_lst (pa_cons pe_int pa_nil))) pa_nil))))
    (pss_one (ps_if (PW.pt (pw_or (pt_not (pt_val (pe_c c_LTruth hr (by decide) rfl (pa_cons (pe_cmpR (op_ownI (fun _ _ => rfl) m_TreeEq hr (by decide)) (pv 1) (pv 4) (nomark _)) (pa_cons pe_bl pa_nil))))) (pw_or1 (pt_not (pt_val (pe_c c_LTruth hr (by decide) rfl (pa_cons (pe_cmpR (op_ownI (fun _ _ => rfl) m_TreeEq hr (by decide)) (pv 4) (pv 1) (nomark _)) (pa_cons pe_bl pa_nil))))))))
      (pss_one (ps_ret pe_bl))
      pss_nil)))
    pss_nil)
  (pss_cons (ps_if (pt_cmpR (op_eqD hr.units) (pv 2) (pe_lst pa_nil) (nomark _))
    (pss_one (ps_ret pe_bl))
    pss_nil)
  (pss_cons (ps_set (i := 5) scLEquals.nd rfl (by first | exact Or.inl rfl | exact Or.inr rfl) (pe_c c_LDraw hr (by decide) rfl (pa_cons (pv 0) (pa_cons (pe_callB call_len_seq (by rfl) T.b_len (by decide +kernel) (pa_cons (pv 2) pa_nil)) pa_nil))))
  (pss_cons (ps_set (i := 6) scLEquals.nd rfl (by first | exact Or.inl rfl | exact Or.inr rfl) (pe_callTy call_list_of (by rfl) T.b_list (by decide +kernel) (pa_cons (pv 3) pa_nil)))
  (pss_cons (ps_asg (pe_op op_add pe_int (pe_op op_mod (pe_callTy call_intI (by rfl) T.b_int (by decide +kernel) (pa_cons (pe_op op_sub (pe_ix ix_list (pv 6) (pv 5) (fun _ _ => rfl)) pe_int) pa_nil)) pe_int)) (pg_sub (pv 6) (pv 5) set_list))
  (pss_cons (ps_if (pt_not (pt_val (pe_c c_LTruth hr (by decide) rfl (pa_cons (pe_cmpR (op_ownI (fun _ _ => rfl) m_TreeEq hr (by decide)) (pv 1) (pe_mk k_Tree hr (by decide) rfl (pa_cons (pe_callTy call_list_of (by rfl) T.b_list (by decide +kernel) (pa_cons (pv 2) pa_nil)) (pa_cons (pv 6) pa_nil))) (nomark _)) (pa_cons pe_bl pa_nil)))))
    (pss_one (ps_ret pe_bl))
    pss_nil)
  (pss_cons (ps_if (pt_cmpR op_eq (pv 5) pe_int (nomark _))
    (pss_one (ps_ret pe_bl))
    pss_nil)
  (pss_cons (ps_set (i := 6) scLEquals.nd rfl (by first | exact Or.inl rfl | exact Or.inr rfl) (pe_callTy call_list_of (by rfl) T.b_list (by decide +kernel) (pa_cons (pv 2) pa_nil)))
  (pss_cons (ps_asg (pe_op op_mod (pe_callTy call_intI (by rfl) T.b_int (by decide +kernel) (pa_cons (pe_op op_add (pe_ix ix_list (pv 6) (pv 5) (fun _ _ => rfl)) pe_int) pa_nil)) (pe_op op_add (pv 5) pe_int)) (pg_sub (pv 6) (pv 5) set_list))
  (pss_one (ps_ret (pe_c c_LTruth hr (by decide) rfl (pa_cons (pe_cmpR (op_ownI (fun _ _ => rfl) m_TreeEq hr (by decide)) (pv 1) (pe_mk k_Tree hr (by decide) rfl (pa_cons (pv 6) (pa_cons (pe_callTy call_list_of (by rfl) T.b_list (by decide +kernel) (pa_cons (pv 3) pa_nil)) pa_nil))) (nomark _)) (pa_cons pe_bl pa_nil)))))))))))))))), ?_⟩
    refine ⟨_, rfl, _, rfl, a, _, rfl, .inl ⟨SqL.of ha, fun q1 hq1 => ?_⟩⟩
    have s1 := sm0 (o := .tup (ps.map V.int)) hq1
    have e1 : upd H q1 (.tup (ps.map V.int)) q1 = some (.tup (ps.map V.int)) := upd_same
    generalize upd H q1 (.tup (ps.map V.int)) = H1 at s1 e1 ⊢
    refine ⟨_, rfl, b, _, rfl, .inl ⟨SqL.of (s1 _ _ hb), fun q2 hq2 => ?_⟩⟩
    have s2 := smN s1 (o := .tup (qs.map V.int)) hq2
    refine fun x dx hx hdx ne => mk_ok hx hdx ok (.inr (atN e1 hq2)) (.inr upd_same) fun H3 s3 hX => ⟨rfl, ?_⟩
    have sH3 := s2.trans s3
    refine own_eq (hT.same sH3) hX (b := true) (by simp) ⟨true, rfl, _, rfl, ifF rfl ?_⟩
    -- other things
    refine ⟨_, rfl, a, _, rfl, .inl (SqL.of (sH3 _ _ ha)), _, _, rfl, rfl, ?_⟩
    refine ⟨_, rfl, a, _, rfl, .inl ⟨SqL.of (sH3 _ _ ha), fun q4 hq4 => ?_⟩⟩
    have s4 := smN sH3 (o := .tup (ps.map V.int)) hq4
    have e4 : upd H3 q4 (.tup (ps.map V.int)) q4 = some (.tup (ps.map V.int)) := upd_same
    generalize upd H3 q4 (.tup (ps.map V.int)) = H4 at s4 e4 ⊢
    refine ⟨_, rfl, _, rfl, by show 2 ≤ sizeLine; decide, fun q5 hq5 => ?_⟩
    have s5 := smN s4 (o := .lst [.ref a, .ref b]) hq5
    have e5 := atN (o := .lst [.ref a, .ref b]) e4 hq5
    have g5 : upd H4 q5 (.lst [.ref a, .ref b]) q5 = some (.lst [.ref a, .ref b]) := upd_same
    generalize upd H4 q5 (.lst [.ref a, .ref b]) = H5 at s5 e5 g5 ⊢
    refine ⟨by show 5 ≤ sizeLine; decide, fun L hL => ?_⟩
    rw [lp]
    have s6 := smN s5 (o := .lst [.non, .int ((ps.length : Int) + 1), .ref q4, .ref q5, .str "tree"]) hL
    have e6 := atN (o := .lst [.non, .int ((ps.length : Int) + 1), .ref q4, .ref q5, .str "tree"]) e5 hL
    have g6 := atN (o := .lst [.non, .int ((ps.length : Int) + 1), .ref q4, .ref q5, .str "tree"]) g5 hL
    have eL : upd H5 L (.lst [.non, .int ((ps.length : Int) + 1), .ref q4, .ref q5, .str "tree"]) L = some (.lst [.non, .int ((ps.length : Int) + 1), .ref q4, .ref q5, .str "tree"]) := upd_same
    generalize upd H5 L (.lst [.non, .int ((ps.length : Int) + 1), .ref q4, .ref q5, .str "tree"]) = H6 at s6 e6 g6 eL ⊢
    refine ⟨L, rfl, ⟨_, SqL.of eL⟩, for_list (K := K) (a := L) (xs := [.non, .int ((ps.length : Int) + 1), .ref q4, .ref q5, .str "tree"])
      (fun i σ H' => ∃ v4 : Option V, σ = [some (.ref p), some (.ref t), some (.ref a), some (.ref b), v4, none, none] ∧ H' = H6) ⟨none, rfl, rfl⟩ (fun i σ H' _ h => by obtain ⟨_, _, rfl⟩ := h; exact SqL.of eL) (fun i x σ H' hx h => ?_) fun σ H' h => ?_⟩
    · obtain ⟨v4, rfl, rfl⟩ := h
      have key : ∃ ty, TyV K H' x ty ∧ TyX K H' x ty ∧ PySem.W.subIn K ty (.ref Ad11) = some false ∧ PySem.W.kitOne K ty (.ref Ad11) = some false := by
        match i, hx with
        | 0, hx => cases hx; exact ⟨_, .non, .base .non, T.sTree_NoneType, kt T.sTree_NoneType⟩
        | 1, hx => cases hx; exact ⟨_, .int _, .base (.int _), T.sTree_int, kt T.sTree_int⟩
        | 2, hx => cases hx; exact ⟨_, .tup (SqT.of e6), .base (.tup e6), T.sTree_tuple, kt T.sTree_tuple⟩
        | 3, hx => cases hx; exact ⟨_, .lst (SqL.of g6), .base (.lst g6), T.sTree_list, kt T.sTree_list⟩
        | 4, hx => cases hx; exact ⟨_, .str _, .base (.str _), T.sTree_str, kt T.sTree_str⟩
        | i + 5, hx => simp at hx
      obtain ⟨ty, h1, h2, h3, h4⟩ := key
      exact ⟨_, rfl, _, rfl, own_ne (hT.same s6) h1 h2 (nf_sub h3) h4 ⟨false, rfl, _, rfl, ifF rfl ⟨_, rfl, rfl⟩⟩⟩
    obtain ⟨v4, rfl, rfl⟩ := h
    -- one more node
    refine ⟨fun σ' H2 => ∃ v4 : Option V, σ' = [some (.ref p), some (.ref t), some (.ref a), some (.ref b), v4, none, none] ∧ Same H H2, ?_, ?_⟩
    · refine ⟨_, rfl, a, _, rfl, .inl (SqL.of (s6 _ _ ha)), _, _, rfl, rfl, _, rfl, ifD (fun c59 => ?_) fun _ => ⟨_, rfl, s6⟩⟩
      have c59' : ((ps.map V.int).length : Int) < 59 := c59
      rw [lp] at c59'
      refine ⟨_, rfl, by show 1 ≤ sizeLine; decide, fun l1 hl1 => ?_⟩
      have s7 := smN s6 (o := .lst [.int 0]) hl1
      refine ⟨a, l1, _, _, rfl, rfl, s7 _ _ ha, upd_same, sz_small (by simp; omega), fun q7 hq7 => ?_⟩
      have s8 := smN s7 (o := .lst (ps.map V.int ++ [.int 0])) hq7
      have e8 : upd (upd H' l1 (.lst [.int 0])) q7 (.lst (ps.map V.int ++ [.int 0])) q7 = some (.lst ((ps ++ [0]).map V.int)) := by rw [upd_same, List.map_append]; rfl
      generalize upd (upd H' l1 (.lst [.int 0])) q7 (.lst (ps.map V.int ++ [.int 0])) = H8 at s8 e8 ⊢
      refine ⟨_, rfl, by show 1 ≤ sizeLine; decide, fun l2 hl2 => ?_⟩
      have s9 := smN s8 (o := .lst [.int 2]) hl2
      refine ⟨b, l2, _, _, rfl, rfl, s9 _ _ hb, upd_same, sz_small (by simp; omega), fun q9 hq9 => ?_⟩
      have s10 := smN s9 (o := .lst (qs.map V.int ++ [.int 2])) hq9
      have e10 := atN (o := .lst (qs.map V.int ++ [.int 2])) (atN (o := .lst [.int 2]) e8 hl2) hq9
      have g10 : upd (upd H8 l2 (.lst [.int 2])) q9 (.lst (qs.map V.int ++ [.int 2])) q9 = some (.lst ((qs ++ [2]).map V.int)) := by rw [upd_same, List.map_append]; rfl
      generalize upd (upd H8 l2 (.lst [.int 2])) q9 (.lst (qs.map V.int ++ [.int 2])) = H10 at s10 e10 g10 ⊢
      refine fun x dx hx hdx ne => mk_ok hx hdx (ok.snoc (by omega)) (.inl (SqL.of e10)) (.inl (SqL.of g10)) fun H11 s11 hX => ⟨rfl, ?_⟩
      have n1 : ps ≠ ps ++ [0] := fun e => by have := congrArg List.length e; simp at this
      have sA := s10.trans s11
      refine ⟨_, rfl, _, rfl, own_eq (hT.same sA) hX (b := false) (by rw [decide_eq_false n1]; rfl) ⟨false, rfl, _, rfl, ifF rfl ?_⟩⟩
      exact ⟨_, rfl, _, rfl, own_eq hX (hT.same sA) (b := false) (by rw [decide_eq_false n1.symm]; rfl) ⟨false, rfl, _, rfl, ifF rfl ⟨_, rfl, sA⟩⟩⟩
    rintro _ H2 ⟨v4, rfl, sH2⟩
    refine ⟨_, rfl, by show 0 ≤ sizeLine; decide, fun l0 hl0 => ?_⟩
    have s3' := smN sH2 (o := .lst []) hl0
    refine ⟨_, _, dpL (ns := ps) (SqL.of (s3' _ _ ha)), dpL (ns := []) (SqL.of upd_same), shL _, shL _, ?_⟩
    rw [eqvL]
    generalize upd H2 l0 (.lst []) = H3' at s3' ⊢
    refine ⟨_, rfl, ifD (fun _ => k _ (But.of s3')) fun c0 => ?_⟩
    have hpos : 0 < ps.length := List.length_pos_iff.mpr c0
    -- another price
    refine ⟨_, rfl, _, rfl, a, _, rfl, .inl (SqL.of (s3' _ _ ha)), draw_of (hp.same s3') (big6 (by omega)) (by rw [lp]; omega) (Int.le_trans (show ((ps.map V.int).length : Int) ≤ 1000 by rw [lp]; omega) (by decide +kernel)) fun d H4' b4 p4 d0 d1 => ?_⟩
    rw [lp] at d1
    obtain ⟨j, rfl⟩ : ∃ j : Nat, d = (j : Int) := ⟨d.toNat, by omega⟩
    have hj : j < ps.length := by omega
    have bH4 : But p H H4' := (But.of s3').trans b4
    have ha4 := bH4 a _ nap ha
    have hb4 := bH4 b _ nbp hb
    have hT4 := hT.but hp bH4
    obtain ⟨q, hq⟩ : ∃ q, qs[j]? = some q := ⟨_, List.getElem?_eq_getElem (by omega)⟩
    obtain ⟨pp, hpp⟩ : ∃ pp, ps[j]? = some pp := ⟨_, List.getElem?_eq_getElem hj⟩
    have okj := ok.2.2 j pp q hj hpp hq
    refine ⟨_, rfl, b, _, rfl, .inl (SqL.of hb4), fun W hW => ?_⟩
    have s5' := sm0 (o := .lst (qs.map V.int)) hW
    have e5' : upd H4' W (.lst (qs.map V.int)) W = some (.lst (qs.map V.int)) := upd_same
    generalize upd H4' W (.lst (qs.map V.int)) = H5' at s5' e5' ⊢
    refine ⟨_, rfl, _, rfl, W, _, _, _, rfl, rfl, SqL.of e5', atI_nat (at_ints hq), _, _, rfl, rfl, _, rfl, _, _, rfl, rfl, (by show (0 : Int) < 30; decide), _, _, rfl, rfl, ?_⟩
    refine ⟨_, rfl, _, rfl, W, _, _, j, rfl, rfl, e5', ixN_of rfl (by rw [List.length_map]; omega), ?_⟩
    have hq' : 2 ≤ 2 + (q - 1) % 30 ∧ 2 + (q - 1) % 30 ≤ 31 ∧ 2 + (q - 1) % 30 ≠ q := by
      have := okj.2.2.1
      have := okj.2.2.2
      omega
    have s6' : Same H4' (upd H5' W (.lst ((qs.map V.int).set j (.int (2 + (q - 1) % 30))))) := smM s5' hW
    have e6' : upd H5' W (.lst ((qs.map V.int).set j (.int (2 + (q - 1) % 30)))) W = some (.lst ((qs.set j (2 + (q - 1) % 30)).map V.int)) := by rw [upd_same, List.map_set]
    generalize upd H5' W (.lst ((qs.map V.int).set j (.int (2 + (q - 1) % 30)))) = H6' at s6' e6' ⊢
    refine ⟨_, rfl, _, rfl, a, _, rfl, .inl (SqL.of (s6' _ _ ha4)), fun l7 hl7 => ?_⟩
    refine ⟨_, rfl, fun x dx hx hdx ne => mk_ok hx hdx (ok.setq (j := j) hq'.1 hq'.2.1) (.inl (SqL.of upd_same)) (.inl (SqL.of (atN e6' hl7))) fun H8' s8' hX => ⟨rfl, ?_⟩⟩
    have s9' : Same H4' H8' := (smN s6' hl7).trans s8'
    refine own_eq (hT4.same s9') hX (b := false) (by rw [decide_eq_false (set_ne hq hq'.2.2), Bool.and_false]) ⟨false, rfl, _, rfl, ifF rfl ?_⟩
    refine ⟨_, rfl, rfl, _, rfl, ifI (fun _ => k _ (bH4.trans (But.of s9'))) fun cj => ?_⟩
    -- another parent
    have ha9 := s9' _ _ ha4
    have hb9 := s9' _ _ hb4
    refine ⟨_, rfl, a, _, rfl, .inl (SqL.of ha9), fun W2 hW2 => ?_⟩
    have t1 := sm0 (o := .lst (ps.map V.int)) hW2
    have u1 : upd H8' W2 (.lst (ps.map V.int)) W2 = some (.lst (ps.map V.int)) := upd_same
    generalize upd H8' W2 (.lst (ps.map V.int)) = G1 at t1 u1 ⊢
    refine ⟨_, rfl, _, rfl, W2, _, _, _, rfl, rfl, SqL.of u1, atI_nat (at_ints hpp), _, _, rfl, rfl, _, rfl, _, rfl, _, _, rfl, rfl, _, _, rfl, rfl, (by show (0 : Int) < (j : Int) + 1; omega), ?_⟩
    refine ⟨_, rfl, _, rfl, W2, _, _, j, rfl, rfl, u1, ixN_of rfl (by rw [List.length_map]; omega), ?_⟩
    have hp' : 0 ≤ (pp + 1) % ((j : Int) + 1) ∧ (pp + 1) % ((j : Int) + 1) ≤ j ∧ (pp + 1) % ((j : Int) + 1) ≠ pp := by
      have h1 := okj.1
      have h2 := okj.2.1
      have h3 := Int.emod_nonneg (pp + 1) (show ((j : Int) + 1) ≠ 0 by omega)
      have h4 := Int.emod_lt_of_pos (pp + 1) (show (0 : Int) < (j : Int) + 1 by omega)
      refine ⟨h3, by omega, fun e => ?_⟩
      by_cases c : pp = j
      · rw [c, Int.emod_self] at e
        omega
      · rw [Int.emod_eq_of_lt (by omega) (by omega)] at e
        omega
    have t2 : Same H8' (upd G1 W2 (.lst ((ps.map V.int).set j (.int ((pp + 1) % ((j : Int) + 1)))))) := smM t1 hW2
    have u2 : upd G1 W2 (.lst ((ps.map V.int).set j (.int ((pp + 1) % ((j : Int) + 1))))) W2 = some (.lst ((ps.set j ((pp + 1) % ((j : Int) + 1))).map V.int)) := by rw [upd_same, List.map_set]
    generalize upd G1 W2 (.lst ((ps.map V.int).set j (.int ((pp + 1) % ((j : Int) + 1))))) = G2 at t2 u2 ⊢
    refine ⟨_, rfl, _, rfl, _, rfl, b, _, rfl, .inl (SqL.of (t2 _ _ hb9)), fun l8 hl8 => ?_⟩
    refine fun x2 dx hx hdx ne => mk_ok hx hdx (ok.setp (j := j) hp'.1 hp'.2.1) (.inl (SqL.of (atN u2 hl8))) (.inl (SqL.of upd_same)) fun G3 t3 hX2 => ⟨rfl, ?_⟩
    have t4 : Same H8' G3 := (smN t2 hl8).trans t3
    exact own_eq (hT4.same (s9'.trans t4)) hX2 (b := false) (by rw [decide_eq_false (set_ne hpp hp'.2.2), Bool.false_and]) ⟨false, rfl, k _ (bH4.trans (But.of (s9'.trans t4)))⟩
end
end K11
set_option maxRecDepth 100000
set_option maxHeartbeats 4000000
set_option exponentiation.threshold 20000
namespace K11
open PySem PySem.Spec PyProof.Rows L2 SI
section
variable {ps qs : List Int}
theorem par_not {i : Nat} (h : badPar ps qs i) (hl : qs.length = ps.length) {n : Nat} (ok : okTo ps qs n) : n ≤ i := by
  rcases Nat.lt_or_ge i n with c | c
  · obtain ⟨_, p, hp, hb⟩ := h
    have hi := (List.getElem?_eq_some_iff.mp hp).1
    obtain ⟨q, hq⟩ : ∃ q, qs[i]? = some q := ⟨_, List.getElem?_eq_getElem (by omega)⟩
    have := ok i p q c hp hq
    have h1 := this.1
    have h2 := this.2.1
    omega
  · exact c
theorem pri_not {i : Nat} (h : badPri ps qs i) {n : Nat} (ok : okTo ps qs n) : n ≤ i := by
  rcases Nat.lt_or_ge i n with c | c
  · obtain ⟨_, ⟨p, hp, _⟩, q, hq, hb⟩ := h
    have := (ok i p q c hp hq).2.2
    have h1 := this.1
    have h2 := this.2
    omega
  · exact c
theorem due_uniq {o o' : Option (List V)} (h : DueIs ps qs o) (h' : DueIs ps qs o') : o = o' := by
  cases h with
  | good ok => cases h' with
    | good => rfl
    | many h => have := ok.1; omega
    | width h h2 => exact absurd ok.2.1 h2
    | par h h2 i h3 => exact (no_bad ok (BadT.par (Ad2 := 0) (Ad6 := 0) (Ad9 := 0) (Ad10 := 0) h h2 i h3)).elim
    | pri h h2 i h3 => exact (no_bad ok (BadT.pri (Ad2 := 0) (Ad6 := 0) (Ad9 := 0) (Ad10 := 0) h h2 i h3)).elim
  | many g => cases h' with
    | good ok => have := ok.1; omega
    | many h => rfl
    | width h h2 => omega
    | par h h2 i h3 => omega
    | pri h h2 i h3 => omega
  | width g g2 => cases h' with
    | good ok => exact absurd ok.2.1 g2
    | many h => omega
    | width h h2 => rfl
    | par h h2 i h3 => exact absurd h2 g2
    | pri h h2 i h3 => exact absurd h2 g2
  | par g g2 j g3 => cases h' with
    | good ok => exact (no_bad ok (BadT.par (Ad2 := 0) (Ad6 := 0) (Ad9 := 0) (Ad10 := 0) g g2 j g3)).elim
    | many h => omega
    | width h h2 => exact absurd g2 h2
    | par h h2 i h3 =>
      have a1 := par_not g3 g2 h3.1
      have a2 := par_not h3 g2 g3.1
      obtain rfl : i = j := by omega
      rfl
    | pri h h2 i h3 =>
      have a1 := par_not g3 g2 h3.1
      have a2 := pri_not h3 g3.1
      obtain rfl : i = j := by omega
      obtain ⟨_, p, hp, hb⟩ := g3
      obtain ⟨_, ⟨p', hp', c1, c2⟩, _⟩ := h3
      rw [hp] at hp'
      cases hp'
      omega
  | pri g g2 j g3 => cases h' with
    | good ok => exact (no_bad ok (BadT.pri (Ad2 := 0) (Ad6 := 0) (Ad9 := 0) (Ad10 := 0) g g2 j g3)).elim
    | many h => omega
    | width h h2 => exact absurd g2 h2
    | par h h2 i h3 =>
      have a1 := par_not h3 g2 g3.1
      have a2 := pri_not g3 h3.1
      obtain rfl : i = j := by omega
      obtain ⟨_, p, hp, hb⟩ := h3
      obtain ⟨_, ⟨p', hp', c1, c2⟩, _⟩ := g3
      rw [hp] at hp'
      cases hp'
      omega
    | pri h h2 i h3 =>
      have a1 := pri_not g3 h3.1
      have a2 := pri_not h3 g3.1
      obtain rfl : i = j := by omega
      rfl
theorem due_row {H : Hp} {xs : List V} (h : DueIs ps qs (some xs)) : xs.length ≤ 3 ∧ ∀ x ∈ xs, Da H 0 x x := by
  have st : ∀ {s : Str}, SeqAt.shaped (.str s) = true → Da H 0 (.str s) (.str s) := fun h => .str 0 _ h
  cases h with
  | many => exact ⟨by simp, fun x hx => by
      rcases List.mem_cons.mp hx with rfl | hx
      · exact st (by decide +kernel)
      rcases List.mem_cons.mp hx with rfl | hx
      · exact st (by decide +kernel)
      rcases List.mem_cons.mp hx with rfl | hx
      · exact .int 0 _
      cases hx⟩
  | width => exact ⟨by simp, fun x hx => by
      rcases List.mem_cons.mp hx with rfl | hx
      · exact st (by decide +kernel)
      rcases List.mem_cons.mp hx with rfl | hx
      · exact .int 0 _
      rcases List.mem_cons.mp hx with rfl | hx
      · exact .int 0 _
      cases hx⟩
  | par => exact ⟨by simp, fun x hx => by
      rcases List.mem_cons.mp hx with rfl | hx
      · exact st (by decide +kernel)
      rcases List.mem_cons.mp hx with rfl | hx
      · exact .int 0 _
      cases hx⟩
  | pri => exact ⟨by simp, fun x hx => by
      rcases List.mem_cons.mp hx with rfl | hx
      · exact st (by decide +kernel)
      rcases List.mem_cons.mp hx with rfl | hx
      · exact .int 0 _
      cases hx⟩
theorem dueV.same {H H' : Hp} {q : Addr} (s : Same H H') : ∀ {o : Option (List V)}, dueV H q o → dueV H' q o
  | none, h => s _ _ h
  | some xs, ⟨r, h1, h2⟩ => ⟨r, s _ _ h1, s _ _ h2⟩
theorem due_da {H : Hp} {q q' : Addr} : ∀ {o : Option (List V)}, DueIs ps qs o → dueV H q o → dueV H q' o → Da H 2 (.ref q) (.ref q')
  | none, _, h1, h2 => da_map (F := fun x : V => x) (xs := []) h1 h2 (by decide) fun x hx => by cases hx
  | some xs, h, ⟨r, h1, h2⟩, ⟨r', h3, h4⟩ => da_one h1 h3 (da_map (F := fun x : V => x) (xs := xs) (by rw [List.map_id']; exact h2) (by rw [List.map_id']; exact h4) (by have := (due_row (H := H) h).1; omega) (due_row h).2)
end
def spRefused : Sp := fun vs H Q _ => ∃ (p a b : Addr) (ps qs : List Int) (c : Nat), vs = [.ref p, .ref a, .ref b] ∧ PoolB H p c ∧ c ≤ 10 ^ 6 ∧ H a = some (.lst (ps.map V.int)) ∧ H b = some (.lst (qs.map V.int)) ∧ okT ps qs ∧ ∀ H', But p H H' → PoolB H' p (c + 60) → Q (.bl true) H'
section
variable {P : Program} {w : World} {K : PySem.W.Frag} {mg : Str → Option Value} {base : Heap} {Ad1 Ad2 Ad3 Ad4 Ad5 Ad6 Ad7 Ad8 Ad9 Ad10 Ad11 : Addr}
theorem scLRefused : FnScope ["pool", "parents", "prices", "most", "turn", "at", "odd", "pick", "more", "due"] ["pool", "parents", "prices"] (defScope sLRefused) := ⟨rfl, rfl, rfl, by decide +kernel, rfl, by decide +kernel, by decide +kernel⟩
theorem ok_LRefused (T : Txt P w K mg base Ad1 Ad2 Ad3 Ad4 Ad5 Ad6 Ad7 Ad8 Ad9 Ad10 Ad11) : Cl P w K mg base 7 "_law_refused" spRefused [] := by
  have c_LDraw := ok_LDraw T
  have c_LDue := ok_LDue T
  have c_LSame := ok_LSame T 2
  have c_LRaised := ok_LRaised T
  refine cl_of T.d__law_refused scLRefused (fun vs H Q E h => ?_) fun f cdv A outer s H vs Q E hr h => ?_
  · obtain ⟨p, a, b, ps, qs, c, rfl, _⟩ := h
    rfl
  · obtain ⟨p, a, b, ps, qs, c, rfl, hp, hc, ha, hb, ok, k⟩ := h
    have hl := ok.1
    have hl2 := ok.2.1
    have hc6 : c ≤ 1000000 := hc
    have G : ∀ {d : Nat}, d ≤ c + 1000 → d ≤ 10 ^ 100 := fun h => big6 (by show _ ≤ 10000000; omega)
    have N : ∀ {n : Int}, n ≤ 1000 → n ≤ 10 ^ 130 := fun h => Int.le_trans h (by decide +kernel)
    refine ⟨_, (pss_cons (ps_set (i := 1) scLRefused.nd rfl (by first | exact Or.inl rfl | exact Or.inr rfl) (pe_callTy call_list_of (by rfl) T.b_list (by decide +kernel) (pa_cons (pv 1) pa_nil)))
  (pss_cons (ps_set (i := 2) scLRefused.nd rfl (by first | exact Or.inl rfl | exact Or.inr rfl) (pe_callTy call_list_of (by rfl) T.b_list (by decide +kernel) (pa_cons (pv 2) pa_nil)))
  (pss_cons (ps_set (i := 3) scLRefused.nd rfl (by first | exact Or.inl rfl | exact Or.inr rfl) (pe_op op_mulW (pe_op op_pow pe_int pe_int) (pe_op op_pow pe_int pe_int)))
  (pss_cons (ps_for (passes_of rfl) rfl (pi_range1 (by rfl) T.b_range (pa_cons (pe_c c_LDraw hr (by decide) rfl (pa_cons (pv 0) (pa_cons pe_int pa_nil))) pa_nil)) (pg_name (i := 4) scLRefused.nd rfl (by first | exact Or.inl rfl | exact Or.inr rfl))
    (pss_one (ps_if (pt_cmpR (op_neD hr.units) (pv 1) (pe_lst pa_nil) (nomark _))
      (pss_cons (ps_set (i := 5) scLRefused.nd rfl (by first | exact Or.inl rfl | exact Or.inr rfl) (pe_c c_LDraw hr (by decide) rfl (pa_cons (pv 0) (pa_cons (pe_callB call_len_seq (by rfl) T.b_len (by decide +kernel) (pa_cons (pv 1) pa_nil)) pa_nil))))
      (pss_one (ps_if (pt_cmpR op_eq (pe_c c_LDraw hr (by decide) rfl (pa_cons (pv 0) (pa_cons pe_int pa_nil))) pe_int (nomark _))
        (pss_cons (ps_set (i := 6) scLRefused.nd rfl (by first | exact Or.inl rfl | exact Or.inr rfl) (pe_lst (pa_cons (pe_un un_neg pe_int) (pa_cons (pe_op op_add (pv 5) pe_int) (pa_cons (pv 5) (pa_cons pe_int (pa_cons (pv 3) (pa_cons (pe_op op_sub pe_int (pv 3)) pa_nil))))))))
        (pss_one (ps_asg (pe_ix ix_list (pv 6) (pe_c c_LDraw hr (by decide) rfl (pa_cons (pv 0) (pa_cons pe_int pa_nil))) (fun _ _ => rfl)) (pg_sub (pv 1) (pv 5) set_list))))
        (pss_one (ps_asg (pe_ix ix_list (pe_lst (pa_cons pe_int (pa_cons pe_int (pa_cons pe_int (pa_cons (pe_un un_neg pe_int) (pa_cons pe_int (pa_cons (pv 3) pa_nil))))))) (pe_c c_LDraw hr (by decide) rfl (pa_cons (pv 0) (pa_cons pe_int pa_nil))) (fun _ _ => rfl)) (pg_sub (pv 2) (pv 5) set_list))))))
      pss_nil)))
  (pss_cons (ps_set (i := 7) scLRefused.nd rfl (by first | exact Or.inl rfl | exact Or.inr rfl) (pe_c c_LDraw hr (by decide) rfl (pa_cons (pv 0) (pa_cons pe_int pa_nil))))
  (C8.pss_cut (ps_if (pt_cmpR op_eq (pv 7) pe_int (nomark _))
    (pss_one (ps_set (i := 2) scLRefused.nd rfl (by first | exact Or.inl rfl | exact Or.inr rfl) (pe_op op_cat (pv 2) (pe_lst (pa_cons pe_int pa_nil)))))
    pss_nil)
  (C8.pss_cut (ps_if (pt_cmpR op_eq (pv 7) pe_int (nomark _))
    (pss_one (ps_set (i := 2) scLRefused.nd rfl (by first | exact Or.inl rfl | exact Or.inr rfl) (pe_slice sl_list (pv 2) (po_some pe_int) po_none)))
    pss_nil)
  (C8.pss_cut (ps_if (pt_cmpR op_eq (pv 7) pe_int (nomark _))
    (pss_cons (ps_set (i := 8) scLRefused.nd rfl (by first | exact Or.inl rfl | exact Or.inr rfl) (pe_op op_add (pe_op op_sub pe_int (pe_callB call_len_seq (by rfl) T.b_len (by decide +kernel) (pa_cons (pv 1) pa_nil))) (pe_c c_LDraw hr (by decide) rfl (pa_cons (pv 0) (pa_cons pe_int pa_nil)))))
    (pss_cons (ps_set (i := 1) scLRefused.nd rfl (by first | exact Or.inl rfl | exact Or.inr rfl) (pe_op op_cat (pv 1) (pe_op op_rep (pe_lst (pa_cons pe_int pa_nil)) (pv 8))))
    (pss_one (ps_set (i := 2) scLRefused.nd rfl (by first | exact Or.inl rfl | exact Or.inr rfl) (pe_op op_cat (pv 2) (pe_op op_rep (pe_lst (pa_cons pe_int pa_nil)) (pe_op op_sub (pv 8) (pe_c c_LDraw hr (by decide) rfl (pa_cons (pv 0) (pa_cons pe_int pa_nil))))))))))
    pss_nil)
  (pss_cons (ps_set (i := 9) scLRefused.nd rfl (by first | exact Or.inl rfl | exact Or.inr rfl) (pe_c c_LDue hr (by decide) rfl (pa_cons (pv 1) (pa_cons (pv 2) pa_nil))))
  (pss_one (ps_ret (pe_c c_LSame hr (by decide) rfl (pa_cons (pe_c c_LRaised hr (by decide) rfl (pa_cons pe_str (pa_cons (pe_callTy call_list_of (by rfl) T.b_list (by decide +kernel) (pa_cons (pv 1) pa_nil)) (pa_cons (pe_callTy call_list_of (by rfl) T.b_list (by decide +kernel) (pa_cons (pv 2) pa_nil)) pa_nil)))) (pa_cons (pv 9) pa_nil)))))))))))))), ?_⟩
    refine ⟨_, rfl, a, _, rfl, .inl (SqL.of ha), fun A hA => ?_⟩
    have s1 := sm0 (o := .lst (ps.map V.int)) hA
    have nA := hp.ne hA
    have p1 := hp.new (o := .lst (ps.map V.int)) hA
    have e1 : upd H A (.lst (ps.map V.int)) A = some (.lst (ps.map V.int)) := upd_same
    generalize upd H A (.lst (ps.map V.int)) = H1 at s1 p1 e1 ⊢
    refine ⟨_, rfl, b, _, rfl, .inl (SqL.of (s1 _ _ hb)), fun B hB => ?_⟩
    have s2 := smN s1 (o := .lst (qs.map V.int)) hB
    have nB := p1.ne hB
    have p2 := p1.new (o := .lst (qs.map V.int)) hB
    have fB := s1.free hB
    have e2 := atN (o := .lst (qs.map V.int)) e1 hB
    have g2 : upd H1 B (.lst (qs.map V.int)) B = some (.lst (qs.map V.int)) := upd_same
    have nAB : A ≠ B := ne_of_none e1 hB
    generalize upd H1 B (.lst (qs.map V.int)) = H2 at s2 p2 e2 g2 ⊢
    refine ⟨_, _, rfl, rfl, pow10 (by decide) (by decide), _, _, rfl, rfl, pow10 (by decide) (by decide), _, _, rfl, rfl, cmul_small (abs_small (by decide +kernel) (by decide +kernel)) (abs_small (by decide +kernel) (by decide +kernel)), ?_⟩
    refine ⟨_, rfl, draw_of p2 (G (by omega)) (by decide) (N (by decide)) fun d H3 b3 p3 d0 d1 => ?_⟩
    refine ⟨_, rfl, by omega, by omega, ?_⟩
    refine for_range (lo := 0) (n := d.toNat) (fun i σ' H' => ∃ (v4 v5 v6 : Option V) (A B : Addr) (ps' qs' : List Int), σ' = [some (.ref p), some (.ref A), some (.ref B), some (.int (10 ^ Int.toNat 60 * 10 ^ Int.toNat 60)), v4, v5, v6, none, none, none] ∧ But p H H' ∧ PoolB H' p (c + 1 + 3 * i) ∧ H' A = some (.lst (ps'.map V.int)) ∧ H' B = some (.lst (qs'.map V.int)) ∧ A ≠ p ∧ B ≠ p ∧ H A = none ∧ H B = none ∧ A ≠ B ∧ ps'.length = ps.length ∧ qs'.length = ps.length)
      ⟨none, none, none, A, B, ps, qs, rfl, (But.of s2).trans b3, p3, b3 _ _ nA e2, b3 _ _ nB g2, nA, nB, hA, fB, nAB, rfl, hl2⟩ (fun i σ H' hi h => ?_) fun σ H' h => ?_
    · obtain ⟨v4, v5, v6, A, B, ps', qs', rfl, bH, pH, hA, hB, nA, nB, fA, fB, nAB, lA, lB⟩ := h
      have hi3 : i < 4 := by omega
      refine ⟨_, rfl, by show 0 ≤ sizeLine; decide, fun l0 hl0 => ?_⟩
      have st := sm0 (o := .lst []) hl0
      have pt := pH.new (o := .lst []) hl0
      refine ⟨_, _, dpL (ns := ps') (SqL.of (st _ _ hA)), dpL (ns := []) (SqL.of upd_same), shL _, shL _, ?_⟩
      rw [eqvL]
      have bH1 := bH.trans (But.of st)
      have hA1 := st _ _ hA
      have hB1 := st _ _ hB
      generalize upd H' l0 (.lst []) = H4 at pt bH1 hA1 hB1 ⊢
      refine ⟨_, rfl, ifN (fun cn => ?_) fun _ => ⟨_, _, _, A, B, ps', qs', rfl, bH1, pt.up (by omega), hA1, hB1, nA, nB, fA, fB, nAB, lA, lB⟩⟩
      have hpos : 0 < ps'.length := List.length_pos_iff.mpr cn
      have lp : (((ps'.map V.int).length : Nat) : Int) = (ps'.length : Int) := by rw [List.length_map]
      refine ⟨_, rfl, _, rfl, A, _, rfl, .inl (SqL.of hA1), draw_of pt (G (by omega)) (by rw [lp]; omega) (N (by rw [lp]; omega)) fun d2 H5 b5 p5 d20 d21 => ?_⟩
      rw [lp] at d21
      obtain ⟨j, rfl⟩ : ∃ j : Nat, d2 = (j : Int) := ⟨d2.toNat, by omega⟩
      have hj : j < ps'.length := by omega
      refine ⟨_, rfl, draw_of p5 (G (by omega)) (by decide) (N (by decide)) fun d3 H6 b6 p6 d30 d31 => ?_⟩
      have hA6 := b6 _ _ nA (b5 _ _ nA hA1)
      have hB6 := b6 _ _ nB (b5 _ _ nB hB1)
      have bH6 := (bH1.trans b5).trans b6
      refine ⟨rfl, _, rfl, ifI (fun _ => ?_) fun _ => ?_⟩
      · refine ⟨_, rfl, _, rfl, _, _, rfl, rfl, _, rfl, _, rfl, _, rfl, _, _, rfl, rfl, by show 6 ≤ sizeLine; decide, fun l7 hl7 => ?_⟩
        have nl := p6.ne hl7
        refine ⟨_, rfl, _, rfl, draw_of (p6.new hl7) (G (by omega)) (by decide) (N (by decide)) fun d4 H8 b8 p8 d40 d41 => ?_⟩
        have e8 := b8 _ _ nl upd_same
        obtain ⟨z, hz, hat⟩ := pick (L := [-1, (j : Int) + 1, (j : Int), 60, (10 ^ Int.toNat 60 * 10 ^ Int.toNat 60), 0 - (10 ^ Int.toNat 60 * 10 ^ Int.toNat 60)]) d40 d41
        have hA8 := b8 _ _ nA (atN hA6 hl7)
        have hB8 := b8 _ _ nB (atN hB6 hl7)
        refine ⟨l7, _, _, _, rfl, rfl, SqL.of e8, hat, ?_⟩
        refine ⟨_, rfl, _, rfl, A, _, _, j, rfl, rfl, hA8, ixN_of rfl (by rw [List.length_map]; exact hj), ?_⟩
        have bH8 : But p H H8 := (bH6.trans (But.of (sm0 hl7))).trans b8
        refine ⟨_, _, _, A, B, ps'.set j z, qs', rfl, fun x o nx e => by rw [upd_ne (ne_of_none e fA)]; exact bH8 x o nx e, (p8.put nA).up (by omega), by rw [upd_same, List.map_set], by rw [upd_ne nAB.symm]; exact hB8, nA, nB, fA, fB, nAB, by rw [List.length_set]; exact lA, lB⟩
      · refine ⟨_, rfl, _, rfl, by show 6 ≤ sizeLine; decide, fun l7 hl7 => ?_⟩
        have nl := p6.ne hl7
        refine ⟨_, rfl, draw_of (p6.new hl7) (G (by omega)) (by decide) (N (by decide)) fun d4 H8 b8 p8 d40 d41 => ?_⟩
        have e8 := b8 _ _ nl upd_same
        obtain ⟨z, hz, hat⟩ := pick (L := [1, 32, 0, -2, 31, (10 ^ Int.toNat 60 * 10 ^ Int.toNat 60)]) d40 d41
        have hA8 := b8 _ _ nA (atN hA6 hl7)
        have hB8 := b8 _ _ nB (atN hB6 hl7)
        have bH8 : But p H H8 := (bH6.trans (But.of (sm0 hl7))).trans b8
        refine ⟨l7, _, _, _, rfl, rfl, SqL.of e8, hat, ?_⟩
        refine ⟨_, rfl, _, rfl, B, _, _, j, rfl, rfl, hB8, ixN_of rfl (by rw [List.length_map]; omega), ?_⟩
        refine ⟨_, _, _, A, B, ps', qs'.set j z, rfl, fun x o nx e => by rw [upd_ne (ne_of_none e fB)]; exact bH8 x o nx e, (p8.put nB).up (by omega), by rw [upd_ne nAB]; exact hA8, by rw [upd_same, List.map_set], nA, nB, fA, fB, nAB, lA, by rw [List.length_set]; exact lB⟩
    · obtain ⟨v4, v5, v6, A, B, ps', qs', rfl, bH, pH, hA, hB, nA, nB, fA, fB, nAB, lA, lB⟩ := h
      refine ⟨_, rfl, draw_of pH (G (by omega)) (by decide) (N (by decide)) fun pk H7 b7 p7 k0 k1 => ?_⟩
      refine ⟨fun σ' H' => ∃ (v8 : Option V) (A B : Addr) (ps' qs' : List Int), σ' = [some (.ref p), some (.ref A), some (.ref B), some (.int (10 ^ Int.toNat 60 * 10 ^ Int.toNat 60)), v4, v5, v6, some (.int pk), v8, none] ∧ But p H H' ∧ PoolB H' p (c + 15) ∧ H' A = some (.lst (ps'.map V.int)) ∧ H' B = some (.lst (qs'.map V.int)) ∧ A ≠ p ∧ B ≠ p ∧ H A = none ∧ H B = none ∧ A ≠ B ∧ ps'.length ≤ 100 ∧ qs'.length ≤ 100, ?_, ?_⟩
      · have bH7 := bH.trans b7
        have hA7 := b7 _ _ nA hA
        have hB7 := b7 _ _ nB hB
        refine ⟨_, rfl, rfl, _, rfl, ifI (fun _ => ?_) fun _ => ⟨none, A, B, ps', qs', rfl, bH7, p7.up (by omega), hA7, hB7, nA, nB, fA, fB, nAB, by omega, by omega⟩⟩
        refine ⟨_, rfl, by show 1 ≤ sizeLine; decide, fun l hl => ?_⟩
        refine ⟨B, l, _, _, rfl, rfl, atN hB7 hl, upd_same, sz_small (by simp; omega), fun q hq => ?_⟩
        have sx := smN (sm0 (o := .lst [.int 2]) hl) (o := .lst (qs'.map V.int ++ [.int 2])) hq
        have nq := (p7.new (o := .lst [.int 2]) hl).ne hq
        exact ⟨none, A, q, ps', qs' ++ [2], rfl, bH7.trans (But.of sx), (p7.same sx).up (by omega), sx _ _ hA7, by rw [upd_same, List.map_append]; rfl, nA, nq, fA, (bH7.trans (But.of (sm0 hl))).free nq hq, ne_of_none (atN hA7 hl) hq, by omega, by simp; omega⟩
      rintro _ H8 ⟨v8, A, B, ps', qs', rfl, bH8, p8, hA8, hB8, nA, nB, fA, fB, nAB, lA, lB⟩
      refine ⟨fun σ' H' => ∃ (v8 : Option V) (A B : Addr) (ps' qs' : List Int), σ' = [some (.ref p), some (.ref A), some (.ref B), some (.int (10 ^ Int.toNat 60 * 10 ^ Int.toNat 60)), v4, v5, v6, some (.int pk), v8, none] ∧ But p H H' ∧ PoolB H' p (c + 15) ∧ H' A = some (.lst (ps'.map V.int)) ∧ H' B = some (.lst (qs'.map V.int)) ∧ A ≠ p ∧ B ≠ p ∧ H A = none ∧ H B = none ∧ A ≠ B ∧ ps'.length ≤ 100 ∧ qs'.length ≤ 100, ?_, ?_⟩
      · refine ⟨_, rfl, rfl, _, rfl, ifI (fun _ => ?_) fun _ => ⟨v8, A, B, ps', qs', rfl, bH8, p8, hA8, hB8, nA, nB, fA, fB, nAB, lA, lB⟩⟩
        obtain ⟨ms, ecut, hms, _⟩ := cut_map V.int qs' (some 1) none
        refine ⟨_, rfl, _, rfl, B, _, rfl, SqL.of hB8, ?_⟩
        rw [ecut]
        intro q hq
        have sx := sm0 (o := .lst (ms.map V.int)) hq
        have nq := p8.ne hq
        exact ⟨v8, A, q, ps', ms, rfl, bH8.trans (But.of sx), p8.same sx, sx _ _ hA8, upd_same, nA, nq, fA, bH8.free nq hq, ne_of_none hA8 hq, lA, by omega⟩
      rintro _ H9 ⟨v8, A, B, ps', qs', rfl, bH9, p9, hA9, hB9, nA, nB, fA, fB, nAB, lA, lB⟩
      refine ⟨fun σ' H' => ∃ (v8 : Option V) (A B : Addr) (ps' qs' : List Int), σ' = [some (.ref p), some (.ref A), some (.ref B), some (.int (10 ^ Int.toNat 60 * 10 ^ Int.toNat 60)), v4, v5, v6, some (.int pk), v8, none] ∧ But p H H' ∧ PoolB H' p (c + 20) ∧ H' A = some (.lst (ps'.map V.int)) ∧ H' B = some (.lst (qs'.map V.int)) ∧ ps'.length ≤ 1000 ∧ qs'.length ≤ 1000, ?_, ?_⟩
      · refine ⟨_, rfl, rfl, _, rfl, ifI (fun _ => ?_) fun _ => ⟨v8, A, B, ps', qs', rfl, bH9, p9.up (by omega), hA9, hB9, by omega, by omega⟩⟩
        have lp : (((ps'.map V.int).length : Nat) : Int) = (ps'.length : Int) := by rw [List.length_map]
        refine ⟨_, rfl, A, _, rfl, .inl (SqL.of hA9), _, _, rfl, rfl, ?_⟩
        rw [lp]
        refine ⟨_, rfl, draw_of p9 (G (by omega)) (by decide) (N (by decide)) fun e H10 b10 p10 e0 e1 => ?_⟩
        refine ⟨_, _, rfl, rfl, ?_⟩
        have hA10 := b10 _ _ nA hA9
        have hB10 := b10 _ _ nB hB9
        have bH10 := bH9.trans b10
        refine ⟨_, rfl, by show 1 ≤ sizeLine; decide, fun l hl => ?_⟩
        have s11 := sm0 (o := .lst [.int 0]) hl
        refine ⟨_, rfl, l, _, _, rfl, rfl, upd_same, by omega, by omega, sz_small (by simp; omega), fun q hq => ?_⟩
        rw [rep_one, show List.replicate ((60 : Int) - (ps'.length : Int) + e).toNat (V.int 0) = (List.replicate ((60 : Int) - (ps'.length : Int) + e).toNat (0 : Int)).map V.int by rw [List.map_replicate]]
        have s12 := smN s11 (o := .lst ((List.replicate ((60 : Int) - (ps'.length : Int) + e).toNat (0 : Int)).map V.int)) hq
        refine ⟨A, q, _, _, rfl, rfl, s12 _ _ hA10, upd_same, sz_small (by simp; omega), fun r hr => ?_⟩
        rw [← List.map_append]
        have s13 := smN s12 (o := .lst ((ps' ++ List.replicate ((60 : Int) - (ps'.length : Int) + e).toNat (0 : Int)).map V.int)) hr
        have e13 : upd (upd (upd H10 l (.lst [.int 0])) q (.lst ((List.replicate ((60 : Int) - (ps'.length : Int) + e).toNat (0 : Int)).map V.int))) r (.lst ((ps' ++ List.replicate ((60 : Int) - (ps'.length : Int) + e).toNat (0 : Int)).map V.int)) r = some (.lst ((ps' ++ List.replicate ((60 : Int) - (ps'.length : Int) + e).toNat (0 : Int)).map V.int)) := upd_same
        have nr : r ≠ p := (p10.same s12).ne hr
        generalize upd (upd (upd H10 l (.lst [.int 0])) q (.lst ((List.replicate ((60 : Int) - (ps'.length : Int) + e).toNat (0 : Int)).map V.int))) r (.lst ((ps' ++ List.replicate ((60 : Int) - (ps'.length : Int) + e).toNat (0 : Int)).map V.int)) = H13 at s13 e13 ⊢
        refine ⟨_, rfl, by show 1 ≤ sizeLine; decide, fun l2 hl2 => ?_⟩
        have s14 := smN s13 (o := .lst [.int 3]) hl2
        have nl2 : l2 ≠ p := (p10.same s13).ne hl2
        refine ⟨_, rfl, _, rfl, draw_of (p10.same s14) (G (by omega)) (by decide) (N (by decide)) fun g H15 b15 p15 g0 g1 => ?_⟩
        have el2 := b15 _ _ nl2 upd_same
        refine ⟨_, _, rfl, rfl, l2, _, _, rfl, rfl, el2, by omega, by omega, sz_small (by simp; omega), fun q2 hq2 => ?_⟩
        rw [rep_one, show List.replicate ((60 : Int) - (ps'.length : Int) + e - g).toNat (V.int 3) = (List.replicate ((60 : Int) - (ps'.length : Int) + e - g).toNat (3 : Int)).map V.int by rw [List.map_replicate]]
        refine ⟨B, q2, _, _, rfl, rfl, atN (b15 _ _ nB (s14 _ _ hB10)) hq2, upd_same, sz_small (by simp; omega), fun r2 hr2 => ?_⟩
        rw [← List.map_append]
        have s16 := smN (sm0 (o := .lst ((List.replicate ((60 : Int) - (ps'.length : Int) + e - g).toNat (3 : Int)).map V.int)) hq2) (o := .lst ((qs' ++ List.replicate ((60 : Int) - (ps'.length : Int) + e - g).toNat (3 : Int)).map V.int)) hr2
        exact ⟨_, r, r2, _, _, rfl, ((bH10.trans (But.of s14)).trans b15).trans (But.of s16), (p15.same s16).up (by omega), s16 _ _ (b15 _ _ nr (atN e13 hl2)), upd_same, by simp; omega, by simp; omega⟩
      rintro _ H11 ⟨v8, A, B, ps', qs', rfl, bH11, p11, hA11, hB11, lA, lB⟩
      refine ⟨_, rfl, _, rfl, A, B, ps', qs', rfl, hA11, hB11, lA, fun o q H12 hdue s12 hv => ?_⟩
      have hA12 := s12 _ _ hA11
      have hB12 := s12 _ _ hB11
      refine ⟨_, rfl, A, _, rfl, .inl (SqL.of hA12), fun l1 hl1 => ?_⟩
      have s13 := sm0 (o := .lst (ps'.map V.int)) hl1
      refine ⟨_, rfl, B, _, rfl, .inl (SqL.of (s13 _ _ hB12)), fun l2 hl2 => ?_⟩
      have s14 := smN s13 (o := .lst (qs'.map V.int)) hl2
      refine .inl ⟨l1, l2, ps', qs', rfl, .inl (SqL.of (atN upd_same hl2)), .inl (SqL.of upd_same), fun o2 q2 H15 hdue2 s15 hv2 => ?_⟩
      obtain rfl := due_uniq hdue hdue2
      have sAll := s14.trans s15
      exact ⟨_, rfl, same_of (due_da hdue2 hv2 (dueV.same sAll hv)) (k _ (bH11.trans (But.of (s12.trans sAll))) ((p11.same (s12.trans sAll)).up (by omega)))⟩
end
end K11
set_option maxRecDepth 100000
set_option maxHeartbeats 4000000
namespace K11
open PySem PySem.Spec PyProof.Rows L2 SI
def spLaw (K : PySem.W.Frag) : Sp := fun vs H Q _ => ∃ (a : Addr) (ns : List Int), vs = [.ref a] ∧ SqL K H a (ns.map V.int) ∧ ns.length ≤ 63 ∧ ∀ H', Q (.bl true) H'
theorem TreeAt.put {C l t : Addr} {H : Hp} {xs : List V} {o : HO} {ps qs : List Int} (h : TreeAt C H t ps qs) (hl : H l = some (.lst xs)) : TreeAt C (upd H l o) t ps qs := by
  obtain ⟨dx, a, b, h1, h2, h3⟩ := h
  exact ⟨dx, a, b, by rw [upd_ne (ne_of h1 hl (by intro z; cases z))]; exact h1, by rw [upd_ne (ne_of h2 hl (by intro z; cases z))]; exact h2, by rw [upd_ne (ne_of h3 hl (by intro z; cases z))]; exact h3⟩
/-- the rows, the tree, and the two lists that were handed over -/
structure Fx (C p a b h l1 l2 t : Addr) (ps qs : List Int) (c : Nat) (H : Hp) : Prop where
  tr : TreeAt C H t ps qs
  ra : H a = some (.lst (ps.map V.int))
  rb : H b = some (.lst (qs.map V.int))
  po : PoolB H p c
  ha : H h = some (.lst [.ref l1, .ref l2])
  e1 : ∃ xs : List Int, H l1 = some (.lst (xs.map V.int)) ∧ xs.length ≤ 100 ∧ 0 < xs.length
  e2 : ∃ xs : List Int, H l2 = some (.lst (xs.map V.int)) ∧ xs.length ≤ 100 ∧ 0 < xs.length
theorem sh_LL (xs ys : List Int) : SeqAt.shaped (.list [.list (xs.map PyData.int), .list (ys.map PyData.int)]) = true := by
  obtain ⟨h1, h2⟩ := lay_ints xs
  obtain ⟨h3, h4⟩ := lay_ints ys
  show ((PyData.canLayAll0 (xs.map PyData.int) && (PyData.canLayAll0 (ys.map PyData.int) && true)) && decide (max (PyData.depthAll (xs.map PyData.int) + 1) (max (PyData.depthAll (ys.map PyData.int) + 1) 0) + 1 ≤ 64)) = true
  rw [h1, h2, h3, h4]
  rfl
theorem eqv_LL (xs ys : List Int) : PyData.eqv (.list [.list (xs.map PyData.int), .list (ys.map PyData.int)]) (.list [.list (xs.map PyData.int), .list (ys.map PyData.int)]) = true := by
  have h1 : PyData.eqvAll (xs.map PyData.int) (xs.map PyData.int) = true := (eqv_all xs xs).trans (decide_eq_true rfl)
  have h2 : PyData.eqvAll (ys.map PyData.int) (ys.map PyData.int) = true := (eqv_all ys ys).trans (decide_eq_true rfl)
  show (PyData.eqvAll (xs.map PyData.int) (xs.map PyData.int) && (PyData.eqvAll (ys.map PyData.int) (ys.map PyData.int) && true)) = true
  rw [h1, h2]
  rfl
section
variable {P : Program} {w : World} {K : PySem.W.Frag} {mg : Str → Option Value} {base : Heap} {Ad1 Ad2 Ad3 Ad4 Ad5 Ad6 Ad7 Ad8 Ad9 Ad10 Ad11 : Addr}
theorem scLaw : FnScope ["script", "pool", "parents", "prices", "handed", "tree", "other_parents", "other_prices", "other", "turn", "alike"] ["script"] (defScope sLaw) := ⟨rfl, rfl, rfl, by decide +kernel, rfl, by decide +kernel, by decide +kernel⟩
theorem ok_Law (T : Txt P w K mg base Ad1 Ad2 Ad3 Ad4 Ad5 Ad6 Ad7 Ad8 Ad9 Ad10 Ad11) : Cd P w K mg base 12 "law" sLaw ["script"] (spLaw K) := by
  have c_LPool := ok_LPool T
  have c_LRows := ok_LRows T
  have d_Tree := ok_Tree T
  have k_Tree := d_Tree.mkr
  have c_LRefused := ok_LRefused T
  have c_LRight := ok_LRight T
  have c_LTruth := ok_LTruth T
  have m_TreeEq := ok_TreeEq T
  have c_LEquals := ok_LEquals T
  refine cd_of T.d_law scLaw (fun vs H Q E h => ?_) fun f cdv A outer s H vs Q E hr h => ?_
  · obtain ⟨a, ns, rfl, _⟩ := h
    rfl
  · obtain ⟨sc, ns, rfl, hsc, hn, k⟩ := h
    refine ⟨_, (pss_cons (ps_set (i := 1) scLaw.nd rfl (by first | exact Or.inl rfl | exact Or.inr rfl) (pe_c c_LPool hr (by decide) rfl (pa_cons (pv 0) pa_nil)))
  (pss_cons (ps_asg (pe_c c_LRows hr (by decide) rfl (pa_cons (pv 1) pa_nil)) (pg_tup rfl (pgs_cons (pg_name (i := 2) scLaw.nd rfl (by first | exact Or.inl rfl | exact Or.inr rfl)) (pgs_cons (pg_name (i := 3) scLaw.nd rfl (by first | exact Or.inl rfl | exact Or.inr rfl)) pgs_nil))))
  (pss_cons (ps_set (i := 4) scLaw.nd rfl (by first | exact Or.inl rfl | exact Or.inr rfl) (pe_lst (pa_cons (pe_callTy call_list_of (by rfl) T.b_list (by decide +kernel) (pa_cons (pv 2) pa_nil)) (pa_cons (pe_callTy call_list_of (by rfl) T.b_list (by decide +kernel) (pa_cons (pv 3) pa_nil)) pa_nil))))
  (pss_cons (ps_set (i := 5) scLaw.nd rfl (by first | exact Or.inl rfl | exact Or.inr rfl) (pe_mk k_Tree hr (by decide) rfl (pa_cons (pe_ix ix_list (pv 4) pe_int (fun _ _ => rfl)) (pa_cons (pe_ix ix_list (pv 4) pe_int (fun _ _ => rfl)) pa_nil))))
  (pss_cons (ps_if (pt_cmpR (op_neD hr.units) (pv 4) (pe_lst (pa_cons (pv 2) (pa_cons (pv 3) pa_nil))) (nomark _))
    (pss_one (ps_ret pe_bl))
    pss_nil)
  (pss_cons (ps_expr (pe_bm PySem.F.plainAttrs_list PySem.F.slot_list_append PySem.F.type_list_append mt_append (pe_ix ix_list (pv 4) pe_int (fun _ _ => rfl)) (pa_cons pe_int pa_nil)))
  (pss_cons (ps_expr (pe_bm PySem.F.plainAttrs_list PySem.F.slot_list_append PySem.F.type_list_append mt_append (pe_ix ix_list (pv 4) pe_int (fun _ _ => rfl)) (pa_cons pe_int pa_nil)))
  (C8.pss_cut (ps_if (pt_cmpR (op_neD hr.units) (pv 2) (pe_lst pa_nil) (nomark _))
    (pss_cons (ps_asg pe_int (pg_sub (pe_ix ix_list (pv 4) pe_int (fun _ _ => rfl)) pe_int set_list))
    (pss_one (ps_asg (pe_op op_add (pe_ix ix_list (pe_ix ix_list (pv 4) pe_int (fun _ _ => rfl)) pe_int (fun _ _ => rfl)) pe_int) (pg_sub (pe_ix ix_list (pv 4) pe_int (fun _ _ => rfl)) pe_int set_list))))
    pss_nil)
  (pss_cons (ps_asg (pe_c c_LRows hr (by decide) rfl (pa_cons (pv 1) pa_nil)) (pg_tup rfl (pgs_cons (pg_name (i := 6) scLaw.nd rfl (by first | exact Or.inl rfl | exact Or.inr rfl)) (pgs_cons (pg_name (i := 7) scLaw.nd rfl (by first | exact Or.inl rfl | exact Or.inr rfl)) pgs_nil))))
  (pss_cons (ps_set (i := 8) scLaw.nd rfl (by first | exact Or.inl rfl | exact Or.inr rfl) (pe_mkK0 (ks := ["prices", "parents"]) (g := swp) d_Tree hr (by decide) rfl (pk_cons (pe_callTy call_tuple_of (by rfl) T.b_tuple (by decide +kernel) (pa_cons (pv 7) pa_nil)) (pk_cons (pe_callTy call_tuple_of (by rfl) T.b_tuple (by decide +kernel) (pa_cons (pv 6) pa_nil)) pk_nil)) (fun _ _ _ _ _ _ _ ws hl => match ws, hl with | [_, _], _ => rfl) swp_rel))
  (pss_cons (ps_for (passes_of rfl) rfl (pi_range1 (by rfl) T.b_range (pa_cons pe_int pa_nil)) (pg_name (i := 9) scLaw.nd rfl (by first | exact Or.inl rfl | exact Or.inr rfl))
    (pss_one (ps_if (pt_not (pt_val (pe_c c_LRefused hr (by decide) rfl (pa_cons (pv 1) (pa_cons (pv 2) (pa_cons (pv 3) pa_nil))))))
      (pss_one (ps_ret pe_bl))
      pss_nil)))
  (pss_cons (ps_if (pt_not (pt_val (pe_c c_LRight hr (by decide) rfl (pa_cons (pv 5) (pa_cons (pv 2) (pa_cons (pv 3) pa_nil))))))
    (pss_one (ps_ret pe_bl))
    pss_nil)
  (pss_cons (ps_if (pt_not (pt_val (pe_c c_LRight hr (by decide) rfl (pa_cons (pv 8) (pa_cons (pv 6) (pa_cons (pv 7) pa_nil))))))
    (pss_one (ps_ret pe_bl))
    pss_nil)
  (pss_cons (ps_set (i := 10) scLaw.nd rfl (by first | exact Or.inl rfl | exact Or.inr rfl) (pe_and (pe_cmpR (op_eqD hr.units) (pv 2) (pv 6) (nomark _)) (pe_one (pe_cmpR (op_eqD hr.units) (pv 3) (pv 7) (nomark _)))))
  (pss_cons (ps_if (pt_not (pt_val (pe_c c_LTruth hr (by decide) rfl (pa_cons (pe_cmpR (op_ownI (fun _ _ => rfl) m_TreeEq hr (by decide)) (pv 5) (pv 8) (nomark _)) (pa_cons (pv 10) pa_nil)))))
    (pss_one (ps_ret pe_bl))
    pss_nil)
  (pss_cons (ps_if (pt_not (pt_val (pe_c c_LEquals hr (by decide) rfl (pa_cons (pv 1) (pa_cons (pv 5) (pa_cons (pv 2) (pa_cons (pv 3) pa_nil)))))))
    (pss_one (ps_ret pe_bl))
    pss_nil)
  (pss_one (ps_ret (pe_c c_LRight hr (by decide) rfl (pa_cons (pv 5) (pa_cons (pv 2) (pa_cons (pv 3) pa_nil)))))))))))))))))))))), ?_⟩
    refine ⟨_, rfl, sc, ns, rfl, hsc, hn, fun p H1 s1 _ p1 => ?_⟩
    refine ⟨_, rfl, p, 0, rfl, p1, by decide, fun q a b ps qs H2 b2 p2 hq ha hb ok fa fb nab => ?_⟩
    refine ⟨q, _, rfl, SqT.of hq, rfl, _, _, rfl, _, _, rfl, rfl, ?_⟩
    have hl := ok.1
    have hl2 := ok.2.1
    have nap : a ≠ p := p1.ne fa
    have nbp : b ≠ p := p1.ne fb
    refine ⟨_, rfl, a, _, rfl, .inl (SqL.of ha), fun l1 hl1 => ?_⟩
    have t1 := sm0 (o := .lst (ps.map V.int)) hl1
    have e1 : upd H2 l1 (.lst (ps.map V.int)) l1 = some (.lst (ps.map V.int)) := upd_same
    have n1a : l1 ≠ a := (ne_of_none ha hl1).symm
    have n1b : l1 ≠ b := (ne_of_none hb hl1).symm
    have n1p : l1 ≠ p := p2.ne hl1
    generalize upd H2 l1 (.lst (ps.map V.int)) = H3 at t1 e1 ⊢
    refine ⟨_, rfl, b, _, rfl, .inl (SqL.of (t1 _ _ hb)), fun l2 hl2' => ?_⟩
    have t2 := smN t1 (o := .lst (qs.map V.int)) hl2'
    have n2a : l2 ≠ a := (ne_of_none (t1 _ _ ha) hl2').symm
    have n2b : l2 ≠ b := (ne_of_none (t1 _ _ hb) hl2').symm
    have n2p : l2 ≠ p := (p2.same t1).ne hl2'
    have n12 : l1 ≠ l2 := ne_of_none e1 hl2'
    have e12 := atN (o := .lst (qs.map V.int)) e1 hl2'
    have e2 : upd H3 l2 (.lst (qs.map V.int)) l2 = some (.lst (qs.map V.int)) := upd_same
    generalize upd H3 l2 (.lst (qs.map V.int)) = H4 at t2 e12 e2 ⊢
    refine ⟨by show 2 ≤ sizeLine; decide, fun h hh => ?_⟩
    have t3 := smN t2 (o := .lst [.ref l1, .ref l2]) hh
    have n1h : l1 ≠ h := ne_of_none e12 hh
    have n2h : l2 ≠ h := ne_of_none e2 hh
    have g1 := atN (o := .lst [.ref l1, .ref l2]) e12 hh
    have g2 := atN (o := .lst [.ref l1, .ref l2]) e2 hh
    have eh : upd H4 h (.lst [.ref l1, .ref l2]) h = some (.lst [.ref l1, .ref l2]) := upd_same
    have p5 := p2.same t3
    generalize upd H4 h (.lst [.ref l1, .ref l2]) = H5 at t3 g1 g2 eh p5 ⊢
    refine ⟨_, rfl, h, _, _, _, rfl, rfl, SqL.of eh, atI0, _, rfl, h, _, _, _, rfl, rfl, SqL.of eh, atI1, fun t dx hx hdx ne => mk_ok hx hdx ok (.inl (SqL.of g1)) (.inl (SqL.of g2)) fun H6 s6 hT => ⟨rfl, ?_⟩⟩
    have ha6 := s6 _ _ (t3 _ _ ha)
    have hb6 := s6 _ _ (t3 _ _ hb)
    have g16 := s6 _ _ g1
    have g26 := s6 _ _ g2
    have eh6 := s6 _ _ eh
    have p6 := p5.same s6
    refine ⟨_, rfl, _, rfl, _, rfl, by show 2 ≤ sizeLine; decide, fun l3 hl3 => ?_⟩
    refine ⟨_, _, .lst (SqL.of (atN eh6 hl3)) (.cons (dpL (SqL.of (atN g16 hl3))) (.cons (dpL (SqL.of (atN g26 hl3))) .nil)), .lst (SqL.of upd_same) (.cons (dpL (SqL.of (atN ha6 hl3))) (.cons (dpL (SqL.of (atN hb6 hl3))) .nil)), sh_LL _ _, sh_LL _ _, ?_⟩
    rw [eqv_LL]
    refine ⟨_, rfl, ifF rfl ?_⟩
    have u := sm0 (o := .lst [.ref a, .ref b]) hl3
    have hT7 := hT.same u
    have ha7 := u _ _ ha6
    have hb7 := u _ _ hb6
    have g17 := u _ _ g16
    have g27 := u _ _ g26
    have eh7 := u _ _ eh6
    have p7 := p6.same u
    generalize upd H6 l3 (.lst [.ref a, .ref b]) = H7 at hT7 ha7 hb7 g17 g27 eh7 p7 ⊢
    refine ⟨_, rfl, h, _, _, _, rfl, rfl, SqL.of eh7, atI0, .inl ⟨rfl, _, SqL.of g17⟩, l1, _, _, rfl, rfl, g17, by rw [List.length_map]; exact sz_lt (by omega), ?_⟩
    have F8 : upd H7 l1 (.lst (ps.map V.int ++ [.int 0])) l1 = some (.lst ((ps ++ [0]).map V.int)) := by rw [upd_same, List.map_append]; rfl
    have T8 := hT7.put (o := .lst (ps.map V.int ++ [.int 0])) g17
    have A8 : upd H7 l1 (.lst (ps.map V.int ++ [.int 0])) a = some (.lst (ps.map V.int)) := by rw [upd_ne n1a.symm]; exact ha7
    have B8 : upd H7 l1 (.lst (ps.map V.int ++ [.int 0])) b = some (.lst (qs.map V.int)) := by rw [upd_ne n1b.symm]; exact hb7
    have L8 : upd H7 l1 (.lst (ps.map V.int ++ [.int 0])) l2 = some (.lst (qs.map V.int)) := by rw [upd_ne n12.symm]; exact g27
    have E8 : upd H7 l1 (.lst (ps.map V.int ++ [.int 0])) h = some (.lst [.ref l1, .ref l2]) := by rw [upd_ne n1h.symm]; exact eh7
    have P8 := p7.put (o := .lst (ps.map V.int ++ [.int 0])) n1p
    generalize upd H7 l1 (.lst (ps.map V.int ++ [.int 0])) = H8 at F8 T8 A8 B8 L8 E8 P8 ⊢
    refine ⟨_, rfl, h, _, _, _, rfl, rfl, SqL.of E8, atI1, .inl ⟨rfl, _, SqL.of L8⟩, l2, _, _, rfl, rfl, L8, by rw [List.length_map]; exact sz_lt (by omega), ?_⟩
    have F9 : Fx Ad11 p a b h l1 l2 t ps qs 400 (upd H8 l2 (.lst (qs.map V.int ++ [.int 2]))) := ⟨T8.put L8, by rw [upd_ne n2a.symm]; exact A8, by rw [upd_ne n2b.symm]; exact B8, (P8.put n2p).up (by decide), by rw [upd_ne n2h.symm]; exact E8,
      ⟨ps ++ [0], by rw [upd_ne n12]; exact F8, by simp; omega, by simp⟩, ⟨qs ++ [2], by rw [upd_same, List.map_append]; rfl, by simp; omega, by simp⟩⟩
    generalize upd H8 l2 (.lst (qs.map V.int ++ [.int 2])) = H9 at F9 ⊢
    refine ⟨fun σ' H' => σ' = [some (.ref sc), some (.ref p), some (.ref a), some (.ref b), some (.ref h), some (.ref t), none, none, none, none, none] ∧ Fx Ad11 p a b h l1 l2 t ps qs 400 H', ?_, ?_⟩
    · refine ⟨_, rfl, by show 0 ≤ sizeLine; decide, fun l0 hl0 => ?_⟩
      have v := sm0 (o := .lst []) hl0
      refine ⟨_, _, dpL (ns := ps) (SqL.of (v _ _ F9.ra)), dpL (ns := []) (SqL.of upd_same), shL _, shL _, ?_⟩
      rw [eqvL]
      have F10 : Fx Ad11 p a b h l1 l2 t ps qs 400 (upd H9 l0 (.lst [])) := ⟨F9.tr.same v, v _ _ F9.ra, v _ _ F9.rb, F9.po.same v, v _ _ F9.ha, by obtain ⟨xs, x1, x2⟩ := F9.e1; exact ⟨xs, v _ _ x1, x2⟩, by obtain ⟨xs, x1, x2⟩ := F9.e2; exact ⟨xs, v _ _ x1, x2⟩⟩
      generalize upd H9 l0 (.lst []) = H10 at F10 ⊢
      refine ⟨_, rfl, ifN (fun _ => ?_) fun _ => ⟨rfl, F10⟩⟩
      obtain ⟨xs, x1, x2, x3⟩ := F10.e1
      refine ⟨_, rfl, h, _, _, _, rfl, rfl, SqL.of F10.ha, atI0, l1, _, _, 0, rfl, rfl, x1, ixN_of rfl (by rw [List.length_map]; exact x3), ?_⟩
      have F11 : Fx Ad11 p a b h l1 l2 t ps qs 400 (upd H10 l1 (.lst ((xs.map V.int).set 0 (.int 1)))) := ⟨F10.tr.put x1, by rw [upd_ne n1a.symm]; exact F10.ra, by rw [upd_ne n1b.symm]; exact F10.rb, F10.po.put n1p, by rw [upd_ne n1h.symm]; exact F10.ha, ⟨xs.set 0 1, by rw [upd_same, List.map_set], by rw [List.length_set]; exact x2, by rw [List.length_set]; exact x3⟩,
        by obtain ⟨ys, y1, y2⟩ := F10.e2; exact ⟨ys, by rw [upd_ne n12.symm]; exact y1, y2⟩⟩
      generalize upd H10 l1 (.lst ((xs.map V.int).set 0 (.int 1))) = H11 at F11 ⊢
      obtain ⟨ys, y1, y2, y3⟩ := F11.e2
      obtain ⟨y, hy⟩ : ∃ y, ys[0]? = some y := ⟨_, List.getElem?_eq_getElem y3⟩
      refine ⟨_, rfl, h, _, _, _, rfl, rfl, SqL.of F11.ha, atI1, l2, _, _, _, rfl, rfl, SqL.of y1, at_of (j := 0) rfl (at_ints hy), _, _, rfl, rfl, ?_⟩
      refine ⟨_, rfl, h, _, _, _, rfl, rfl, SqL.of F11.ha, atI1, l2, _, _, 0, rfl, rfl, y1, ixN_of rfl (by rw [List.length_map]; exact y3), ?_⟩
      refine ⟨rfl, F11.tr.put y1, by rw [upd_ne n2a.symm]; exact F11.ra, by rw [upd_ne n2b.symm]; exact F11.rb, F11.po.put n2p, by rw [upd_ne n2h.symm]; exact F11.ha, ?_, ⟨ys.set 0 (y + 1), by rw [upd_same, List.map_set], by rw [List.length_set]; exact y2, by rw [List.length_set]; exact y3⟩⟩
      obtain ⟨xs, x1, x2⟩ := F11.e1
      exact ⟨xs, by rw [upd_ne n12]; exact x1, x2⟩
    rintro _ G1 ⟨rfl, F⟩
    have hp0 := F.po
    refine ⟨_, rfl, p, 400, rfl, hp0, by decide, fun q2 a2 b2 ps2 qs2 G2 c2 r2 hq2 ha2 hb2 ok2 fa2 fb2 nab2 => ?_⟩
    refine ⟨q2, _, rfl, SqT.of hq2, rfl, _, _, rfl, _, _, rfl, rfl, ?_⟩
    have nap2 : a2 ≠ p := hp0.ne fa2
    have nbp2 : b2 ≠ p := hp0.ne fb2
    have T2 := F.tr.but hp0 c2
    have A2 := c2 _ _ nap F.ra
    have B2 := c2 _ _ nbp F.rb
    refine ⟨_, rfl, b2, _, rfl, .inl ⟨SqL.of hb2, fun q3 hq3 => ?_⟩⟩
    have w1 := sm0 (o := .tup (qs2.map V.int)) hq3
    have w2 : upd G2 q3 (.tup (qs2.map V.int)) q3 = some (.tup (qs2.map V.int)) := upd_same
    generalize upd G2 q3 (.tup (qs2.map V.int)) = G3 at w1 w2 ⊢
    refine ⟨_, rfl, a2, _, rfl, .inl ⟨SqL.of (w1 _ _ ha2), fun q4 hq4 => ?_⟩⟩
    have w3 := smN w1 (o := .tup (ps2.map V.int)) hq4
    refine ⟨rfl, rfl, fun t2 dx2 hx2 hdx2 ne2 => mk_ok hx2 hdx2 ok2 (.inr upd_same) (.inr (atN w2 hq4)) fun G4 w4 hTo => ⟨rfl, ?_⟩⟩
    have w5 := w3.trans w4
    have T4 := T2.same w5
    have A4 := w5 _ _ A2
    have B4 := w5 _ _ B2
    have a4 := w5 _ _ ha2
    have b4 := w5 _ _ hb2
    have r4 := r2.same w5
    refine ⟨_, rfl, by decide, by decide, ?_⟩
    refine for_range (lo := 0) (n := 3) (fun i σ H' => ∃ v9 : Option V, σ = [some (.ref sc), some (.ref p), some (.ref a), some (.ref b), some (.ref h), some (.ref t), some (.ref a2), some (.ref b2), some (.ref t2), v9, none] ∧ But p G4 H' ∧ PoolB H' p (800 + 60 * i))
      ⟨none, rfl, fun _ _ _ e => e, r4⟩ (fun i σ H' hi h => ?_) fun σ H' h => ?_
    · obtain ⟨v9, rfl, bH, pH⟩ := h
      refine ⟨_, rfl, _, rfl, _, rfl, p, a, b, ps, qs, _, rfl, pH, Nat.le_trans (show 800 + 60 * i ≤ 1000 by omega) (by decide), bH _ _ nap A4, bH _ _ nbp B4, ok, fun H2 b2 p2 => ⟨_, rfl, ifF rfl ⟨_, rfl, bH.trans b2, p2.up (by omega)⟩⟩⟩
    · obtain ⟨v9, rfl, bH, pH⟩ := h
      have T5 := T4.but r4 bH
      have O5 := hTo.but r4 bH
      have A5 := bH _ _ nap A4
      have B5 := bH _ _ nbp B4
      have a5 := bH _ _ nap2 a4
      have b5 := bH _ _ nbp2 b4
      refine ⟨_, rfl, _, rfl, _, rfl, t, a, b, ps, qs, rfl, T5, A5, B5, ok, fun H6 s6 => ⟨_, rfl, ifF rfl ?_⟩⟩
      refine ⟨_, rfl, _, rfl, _, rfl, t2, a2, b2, ps2, qs2, rfl, O5.same s6, s6 _ _ a5, s6 _ _ b5, ok2, fun H7 s7 => ⟨_, rfl, ifF rfl ?_⟩⟩
      have s8 := s6.trans s7
      have A8 := s8 _ _ A5
      have B8 := s8 _ _ B5
      have a8 := s8 _ _ a5
      have b8 := s8 _ _ b5
      have T8 := T5.same s8
      have O8 := O5.same s8
      have P8 := pH.same s8
      refine ⟨_, rfl, _, rfl, _, _, dpL (SqL.of A8), dpL (SqL.of a8), shL _, shL _, ?_⟩
      rw [eqvL]
      refine ⟨_, rfl, ?_⟩
      by_cases c : ps = ps2
      · rw [decide_eq_true c]
        refine iteT ⟨_, rfl, _, rfl, _, _, dpL (SqL.of B8), dpL (SqL.of b8), shL _, shL _, ?_⟩
        rw [eqvL]
        refine ⟨_, rfl, _, rfl, own_eq T8 O8 (b := decide (qs = qs2)) (by rw [decide_eq_true c, Bool.true_and]) ⟨_, rfl, decide (qs = qs2), rfl, ⟨_, rfl, ifF rfl ?_⟩⟩⟩
        refine ⟨_, rfl, _, rfl, _, rfl, _, rfl, p, t, a, b, ps, qs, _, rfl, P8, by decide, T8, A8, B8, nap, nbp, ok, fun H9 b9 => ⟨_, rfl, ifF rfl ?_⟩⟩
        exact ⟨_, rfl, _, rfl, _, rfl, t, a, b, ps, qs, rfl, T8.but P8 b9, b9 _ _ nap A8, b9 _ _ nbp B8, ok, fun H10 s10 => k H10⟩
      · rw [decide_eq_false c]
        refine iteF ?_
        refine ⟨_, rfl, _, rfl, own_eq T8 O8 (b := false) (by rw [decide_eq_false c, Bool.false_and]) ⟨_, rfl, false, rfl, ⟨_, rfl, ifF rfl ?_⟩⟩⟩
        refine ⟨_, rfl, _, rfl, _, rfl, _, rfl, p, t, a, b, ps, qs, _, rfl, P8, by decide, T8, A8, B8, nap, nbp, ok, fun H9 b9 => ⟨_, rfl, ifF rfl ?_⟩⟩
        exact ⟨_, rfl, _, rfl, _, rfl, t, a, b, ps, qs, rfl, T8.but P8 b9, b9 _ _ nap A8, b9 _ _ nbp B8, ok, fun H10 s10 => k H10⟩
end
end K11
set_option maxRecDepth 100000
set_option maxHeartbeats 4000000
open PySem PySem.W PyProof.Rows L2 SI K11
set_option maxRecDepth 100000 in
set_option maxHeartbeats 0 in
theorem PySem.Challenge.cw_pebblesreach_k11_tree_parts_holds : PySem.Challenge.rw_pebblesreach_k11_tree_parts.Holds := by
  w_on; o_law; k_head; (case hw => w_witness2)
  k_fill
  refine walkK (l := PySem.Challenge.rw_pebblesreach_k11_tree_parts) (n := 63) (k := 12) (x := "script") (sp := spLaw) rfl (by decide) rfl ⟨rfl, by decide, by decide⟩ (fun K H a ns hl hS => ⟨a, ns, rfl, hS, hl, fun _ => rfl⟩) (fun w h Y => PySem.W.kIn_of Y) ?F
  case F =>
    intro w mg fa h KX G hmg
    refine' exc_at (x := "PebbleError") KX G ?h1a ?h1l ?h1rf ?h1sa ?h1exC ?h1tyC ?h1kC ?h1ga ?h1gg ?h1hd ?h1ac ?h1mo fun g_PebbleError o_PebbleError e_PebbleError => ?_
    (case h1a => k_is)
    (case h1l => k_is)
    (case h1rf => decide +kernel)
    (case h1sa => k_is)
    (case h1exC => k_is)
    (case h1tyC => k_is)
    (case h1kC => k_is)
    (case h1ga => k_is)
    (case h1gg => k_is)
    (case h1hd => k_is)
    (case h1ac => k_is)
    (case h1mo => k_is)
    refine' exc_at (x := "BadCount") KX G ?h2a ?h2l ?h2rf ?h2sa ?h2exC ?h2tyC ?h2kC ?h2ga ?h2gg ?h2hd ?h2ac ?h2mo fun g_BadCount o_BadCount e_BadCount => ?_
    (case h2a => k_is)
    (case h2l => k_is)
    (case h2rf => decide +kernel)
    (case h2sa => k_is)
    (case h2exC => k_is)
    (case h2tyC => k_is)
    (case h2kC => k_is)
    (case h2ga => k_is)
    (case h2gg => k_is)
    (case h2hd => k_is)
    (case h2ac => k_is)
    (case h2mo => k_is)
    refine' exc_at (x := "NotPebbles") KX G ?h3a ?h3l ?h3rf ?h3sa ?h3exC ?h3tyC ?h3kC ?h3ga ?h3gg ?h3hd ?h3ac ?h3mo fun g_NotPebbles o_NotPebbles e_NotPebbles => ?_
    (case h3a => k_is)
    (case h3l => k_is)
    (case h3rf => decide +kernel)
    (case h3sa => k_is)
    (case h3exC => k_is)
    (case h3tyC => k_is)
    (case h3kC => k_is)
    (case h3ga => k_is)
    (case h3gg => k_is)
    (case h3hd => k_is)
    (case h3ac => k_is)
    (case h3mo => k_is)
    refine' exc_at (x := "NoNode") KX G ?h4a ?h4l ?h4rf ?h4sa ?h4exC ?h4tyC ?h4kC ?h4ga ?h4gg ?h4hd ?h4ac ?h4mo fun g_NoNode o_NoNode e_NoNode => ?_
    (case h4a => k_is)
    (case h4l => k_is)
    (case h4rf => decide +kernel)
    (case h4sa => k_is)
    (case h4exC => k_is)
    (case h4tyC => k_is)
    (case h4kC => k_is)
    (case h4ga => k_is)
    (case h4gg => k_is)
    (case h4hd => k_is)
    (case h4ac => k_is)
    (case h4mo => k_is)
    refine' exc_at (x := "UnlikeWidths") KX G ?h5a ?h5l ?h5rf ?h5sa ?h5exC ?h5tyC ?h5kC ?h5ga ?h5gg ?h5hd ?h5ac ?h5mo fun g_UnlikeWidths o_UnlikeWidths e_UnlikeWidths => ?_
    (case h5a => k_is)
    (case h5l => k_is)
    (case h5rf => decide +kernel)
    (case h5sa => k_is)
    (case h5exC => k_is)
    (case h5tyC => k_is)
    (case h5kC => k_is)
    (case h5ga => k_is)
    (case h5gg => k_is)
    (case h5hd => k_is)
    (case h5ac => k_is)
    (case h5mo => k_is)
    refine' exc_at (x := "WrongWidth") KX G ?h6a ?h6l ?h6rf ?h6sa ?h6exC ?h6tyC ?h6kC ?h6ga ?h6gg ?h6hd ?h6ac ?h6mo fun g_WrongWidth o_WrongWidth e_WrongWidth => ?_
    (case h6a => k_is)
    (case h6l => k_is)
    (case h6rf => decide +kernel)
    (case h6sa => k_is)
    (case h6exC => k_is)
    (case h6tyC => k_is)
    (case h6kC => k_is)
    (case h6ga => k_is)
    (case h6gg => k_is)
    (case h6hd => k_is)
    (case h6ac => k_is)
    (case h6mo => k_is)
    refine' exc_at (x := "BadNext") KX G ?h7a ?h7l ?h7rf ?h7sa ?h7exC ?h7tyC ?h7kC ?h7ga ?h7gg ?h7hd ?h7ac ?h7mo fun g_BadNext o_BadNext e_BadNext => ?_
    (case h7a => k_is)
    (case h7l => k_is)
    (case h7rf => decide +kernel)
    (case h7sa => k_is)
    (case h7exC => k_is)
    (case h7tyC => k_is)
    (case h7kC => k_is)
    (case h7ga => k_is)
    (case h7gg => k_is)
    (case h7hd => k_is)
    (case h7ac => k_is)
    (case h7mo => k_is)
    refine' exc_at (x := "BadWeight") KX G ?h8a ?h8l ?h8rf ?h8sa ?h8exC ?h8tyC ?h8kC ?h8ga ?h8gg ?h8hd ?h8ac ?h8mo fun g_BadWeight o_BadWeight e_BadWeight => ?_
    (case h8a => k_is)
    (case h8l => k_is)
    (case h8rf => decide +kernel)
    (case h8sa => k_is)
    (case h8exC => k_is)
    (case h8tyC => k_is)
    (case h8kC => k_is)
    (case h8ga => k_is)
    (case h8gg => k_is)
    (case h8hd => k_is)
    (case h8ac => k_is)
    (case h8mo => k_is)
    refine' exc_at (x := "BadParent") KX G ?h9a ?h9l ?h9rf ?h9sa ?h9exC ?h9tyC ?h9kC ?h9ga ?h9gg ?h9hd ?h9ac ?h9mo fun g_BadParent o_BadParent e_BadParent => ?_
    (case h9a => k_is)
    (case h9l => k_is)
    (case h9rf => decide +kernel)
    (case h9sa => k_is)
    (case h9exC => k_is)
    (case h9tyC => k_is)
    (case h9kC => k_is)
    (case h9ga => k_is)
    (case h9gg => k_is)
    (case h9hd => k_is)
    (case h9ac => k_is)
    (case h9mo => k_is)
    refine' exc_at (x := "BadPrice") KX G ?h10a ?h10l ?h10rf ?h10sa ?h10exC ?h10tyC ?h10kC ?h10ga ?h10gg ?h10hd ?h10ac ?h10mo fun g_BadPrice o_BadPrice e_BadPrice => ?_
    (case h10a => k_is)
    (case h10l => k_is)
    (case h10rf => decide +kernel)
    (case h10sa => k_is)
    (case h10exC => k_is)
    (case h10tyC => k_is)
    (case h10kC => k_is)
    (case h10ga => k_is)
    (case h10gg => k_is)
    (case h10hd => k_is)
    (case h10ac => k_is)
    (case h10mo => k_is)
    refine' sup_at (P := PySem.Challenge.rw_pebblesreach_k11_tree_parts.prog) (qual := "BadCount.__init__") (st := sBadCountInit) KX G o_BadCount rfl ?h11i ?h11t ?h11l ?h11c ?h11lc ?h11hf ?h11hm ?h11lcc ?h11self ?h11sup ?h11sub ?h11z ?h11any ?h11top fun fd_BadCount s_BadCount i_BadCount t_BadCount x_BadCount => ?_
    (case h11i => k_is)
    (case h11t => k_is)
    (case h11l => k_is)
    (case h11c => k_is)
    (case h11lc => k_is)
    (case h11hf => rfl)
    (case h11hm => first | rfl | decide +kernel)
    (case h11lcc => k_is)
    (case h11self => k_is)
    (case h11sup => ks_is)
    (case h11sub => k_is)
    (case h11z => k_is)
    (case h11any => k_is)
    (case h11top => decide +kernel)
    refine' sup_at (P := PySem.Challenge.rw_pebblesreach_k11_tree_parts.prog) (qual := "NoNode.__init__") (st := sNoNodeInit) KX G o_NoNode rfl ?h12i ?h12t ?h12l ?h12c ?h12lc ?h12hf ?h12hm ?h12lcc ?h12self ?h12sup ?h12sub ?h12z ?h12any ?h12top fun fd_NoNode s_NoNode i_NoNode t_NoNode x_NoNode => ?_
    (case h12i => k_is)
    (case h12t => k_is)
    (case h12l => k_is)
    (case h12c => k_is)
    (case h12lc => k_is)
    (case h12hf => rfl)
    (case h12hm => first | rfl | decide +kernel)
    (case h12lcc => k_is)
    (case h12self => k_is)
    (case h12sup => ks_is)
    (case h12sub => k_is)
    (case h12z => k_is)
    (case h12any => k_is)
    (case h12top => decide +kernel)
    refine' sup_at (P := PySem.Challenge.rw_pebblesreach_k11_tree_parts.prog) (qual := "WrongWidth.__init__") (st := sWrongWidthInit) KX G o_WrongWidth rfl ?h13i ?h13t ?h13l ?h13c ?h13lc ?h13hf ?h13hm ?h13lcc ?h13self ?h13sup ?h13sub ?h13z ?h13any ?h13top fun fd_WrongWidth s_WrongWidth i_WrongWidth t_WrongWidth x_WrongWidth => ?_
    (case h13i => k_is)
    (case h13t => k_is)
    (case h13l => k_is)
    (case h13c => k_is)
    (case h13lc => k_is)
    (case h13hf => rfl)
    (case h13hm => first | rfl | decide +kernel)
    (case h13lcc => k_is)
    (case h13self => k_is)
    (case h13sup => ks_is)
    (case h13sub => k_is)
    (case h13z => k_is)
    (case h13any => k_is)
    (case h13top => decide +kernel)
    refine' sup_at (P := PySem.Challenge.rw_pebblesreach_k11_tree_parts.prog) (qual := "BadParent.__init__") (st := sBadParentInit) KX G o_BadParent rfl ?h14i ?h14t ?h14l ?h14c ?h14lc ?h14hf ?h14hm ?h14lcc ?h14self ?h14sup ?h14sub ?h14z ?h14any ?h14top fun fd_BadParent s_BadParent i_BadParent t_BadParent x_BadParent => ?_
    (case h14i => k_is)
    (case h14t => k_is)
    (case h14l => k_is)
    (case h14c => k_is)
    (case h14lc => k_is)
    (case h14hf => rfl)
    (case h14hm => first | rfl | decide +kernel)
    (case h14lcc => k_is)
    (case h14self => k_is)
    (case h14sup => ks_is)
    (case h14sub => k_is)
    (case h14z => k_is)
    (case h14any => k_is)
    (case h14top => decide +kernel)
    refine' sup_at (P := PySem.Challenge.rw_pebblesreach_k11_tree_parts.prog) (qual := "BadPrice.__init__") (st := sBadPriceInit) KX G o_BadPrice rfl ?h15i ?h15t ?h15l ?h15c ?h15lc ?h15hf ?h15hm ?h15lcc ?h15self ?h15sup ?h15sub ?h15z ?h15any ?h15top fun fd_BadPrice s_BadPrice i_BadPrice t_BadPrice x_BadPrice => ?_
    (case h15i => k_is)
    (case h15t => k_is)
    (case h15l => k_is)
    (case h15c => k_is)
    (case h15lc => k_is)
    (case h15hf => rfl)
    (case h15hm => first | rfl | decide +kernel)
    (case h15lcc => k_is)
    (case h15self => k_is)
    (case h15sup => ks_is)
    (case h15sub => k_is)
    (case h15z => k_is)
    (case h15any => k_is)
    (case h15top => decide +kernel)
    refine' mak_at (x := "Tree") (qual := "Tree.__init__") (st := sTreeInit) (ps := ["self", "parents", "prices"]) KX G (fun _ _ _ _ _ _ us hl => match us, hl with | [_, _, _], _ => rfl) ?h16a ?h16mk ?h16i ?h16n ?h16kc ?h16l ?h16c ?h16k fun m_Tree => ?_
    (case h16a => k_is)
    (case h16mk => k_is)
    (case h16i => k_is)
    (case h16n => k_is)
    (case h16kc => k_is)
    (case h16l => k_is)
    (case h16c => k_is)
    (case h16k => k_is)
    refine' def_at (x := "heights") (st := sHeights) (ps := ["tree"]) KX G (fun _ _ _ _ _ _ us hl => match us, hl with | [_], _ => rfl) ?h17a ?h17l ?h17c ?h17k fun d_heights => ?_
    (case h17a => k_is)
    (case h17l => k_is)
    (case h17c => k_is)
    (case h17k => k_is)
    refine' def_at (x := "main_children") (st := sMainChildren) (ps := ["tree"]) KX G (fun _ _ _ _ _ _ us hl => match us, hl with | [_], _ => rfl) ?h18a ?h18l ?h18c ?h18k fun d_main_children => ?_
    (case h18a => k_is)
    (case h18l => k_is)
    (case h18c => k_is)
    (case h18k => k_is)
    refine' def_at (x := "path_down") (st := sPathDown) (ps := ["main", "top", "second"]) KX G (fun _ _ _ _ _ _ us hl => match us, hl with | [_, _, _], _ => rfl) ?h19a ?h19l ?h19c ?h19k fun d_path_down => ?_
    (case h19a => k_is)
    (case h19l => k_is)
    (case h19c => k_is)
    (case h19k => k_is)
    refine' def_at (x := "paths") (st := sPaths) (ps := ["tree"]) KX G (fun _ _ _ _ _ _ us hl => match us, hl with | [_], _ => rfl) ?h20a ?h20l ?h20c ?h20k fun d_paths => ?_
    (case h20a => k_is)
    (case h20l => k_is)
    (case h20c => k_is)
    (case h20k => k_is)
    refine' def_at (x := "check_edges") (st := sCheckEdges) (ps := ["parents", "prices"]) KX G (fun _ _ _ _ _ _ us hl => match us, hl with | [_, _], _ => rfl) ?h21a ?h21l ?h21c ?h21k fun d_check_edges => ?_
    (case h21a => k_is)
    (case h21l => k_is)
    (case h21c => k_is)
    (case h21k => k_is)
    refine' met_atX (x := "Tree") (m := "children") (qual := "Tree.children") (st := sTreeChildren) (ps := ["self", "node"]) KX (fun _ _ _ _ _ _ us hl => match us, hl with | [_, _], _ => rfl) ?h22a ?h22hC ?h22i ?h22n ?h22l ?h22c ?h22k fun d_Tree_children => ?_
    (case h22a => k_is)
    (case h22hC => exact ⟨by k_is, by k_is, by k_is, by k_is⟩)
    (case h22i => k_is)
    (case h22n => k_is)
    (case h22l => k_is)
    (case h22c => k_is)
    (case h22k => k_is)
    refine' met_atX (x := "Tree") (m := "__eq__") (qual := "Tree.__eq__") (st := sTreeEq) (ps := ["self", "other"]) KX (fun _ _ _ _ _ _ us hl => match us, hl with | [_, _], _ => rfl) ?h23a ?h23hC ?h23i ?h23n ?h23l ?h23c ?h23k fun d_Tree___eq__ => ?_
    (case h23a => k_is)
    (case h23hC => exact ⟨by k_is, by k_is, by k_is, by k_is⟩)
    (case h23i => k_is)
    (case h23n => k_is)
    (case h23l => k_is)
    (case h23c => k_is)
    (case h23k => k_is)
    refine' def_at (x := "_law_pool") (st := sLPool) (ps := ["script"]) KX G (fun _ _ _ _ _ _ us hl => match us, hl with | [_], _ => rfl) ?h24a ?h24l ?h24c ?h24k fun d__law_pool => ?_
    (case h24a => k_is)
    (case h24l => k_is)
    (case h24c => k_is)
    (case h24k => k_is)
    refine' def_at (x := "_law_draw") (st := sLDraw) (ps := ["pool", "size"]) KX G (fun _ _ _ _ _ _ us hl => match us, hl with | [_, _], _ => rfl) ?h25a ?h25l ?h25c ?h25k fun d__law_draw => ?_
    (case h25a => k_is)
    (case h25l => k_is)
    (case h25c => k_is)
    (case h25k => k_is)
    refine' def_at (x := "_law_same") (st := sLSame) (ps := ["told", "due"]) KX G (fun _ _ _ _ _ _ us hl => match us, hl with | [_, _], _ => rfl) ?h26a ?h26l ?h26c ?h26k fun d__law_same => ?_
    (case h26a => k_is)
    (case h26l => k_is)
    (case h26c => k_is)
    (case h26k => k_is)
    refine' def_at (x := "_law_truth") (st := sLTruth) (ps := ["told", "due"]) KX G (fun _ _ _ _ _ _ us hl => match us, hl with | [_, _], _ => rfl) ?h27a ?h27l ?h27c ?h27k fun d__law_truth => ?_
    (case h27a => k_is)
    (case h27l => k_is)
    (case h27c => k_is)
    (case h27k => k_is)
    refine' def_at (x := "_law_fault") (st := sLFault) (ps := ["e"]) KX G (fun _ _ _ _ _ _ us hl => match us, hl with | [_], _ => rfl) ?h28a ?h28l ?h28c ?h28k fun d__law_fault => ?_
    (case h28a => k_is)
    (case h28l => k_is)
    (case h28c => k_is)
    (case h28k => k_is)
    refine' def_at (x := "_law_raised") (st := sLRaised) (ps := ["deed", "one", "two"]) KX G (fun _ _ _ _ _ _ us hl => match us, hl with | [_, _, _], _ => rfl) ?h29a ?h29l ?h29c ?h29k fun d__law_raised => ?_
    (case h29a => k_is)
    (case h29l => k_is)
    (case h29c => k_is)
    (case h29k => k_is)
    refine' def_at (x := "_law_due") (st := sLDue) (ps := ["parents", "prices"]) KX G (fun _ _ _ _ _ _ us hl => match us, hl with | [_, _], _ => rfl) ?h30a ?h30l ?h30c ?h30k fun d__law_due => ?_
    (case h30a => k_is)
    (case h30l => k_is)
    (case h30c => k_is)
    (case h30k => k_is)
    refine' def_at (x := "_law_rows") (st := sLRows) (ps := ["pool"]) KX G (fun _ _ _ _ _ _ us hl => match us, hl with | [_], _ => rfl) ?h31a ?h31l ?h31c ?h31k fun d__law_rows => ?_
    (case h31a => k_is)
    (case h31l => k_is)
    (case h31c => k_is)
    (case h31k => k_is)
    refine' def_at (x := "_law_children") (st := sLChildren) (ps := ["parents", "node"]) KX G (fun _ _ _ _ _ _ us hl => match us, hl with | [_, _], _ => rfl) ?h32a ?h32l ?h32c ?h32k fun d__law_children => ?_
    (case h32a => k_is)
    (case h32l => k_is)
    (case h32c => k_is)
    (case h32k => k_is)
    refine' def_at (x := "_law_heights") (st := sLHeights) (ps := ["parents", "prices"]) KX G (fun _ _ _ _ _ _ us hl => match us, hl with | [_, _], _ => rfl) ?h33a ?h33l ?h33c ?h33k fun d__law_heights => ?_
    (case h33a => k_is)
    (case h33l => k_is)
    (case h33c => k_is)
    (case h33k => k_is)
    refine' def_at (x := "_law_paths") (st := sLPaths) (ps := ["parents", "prices"]) KX G (fun _ _ _ _ _ _ us hl => match us, hl with | [_, _], _ => rfl) ?h34a ?h34l ?h34c ?h34k fun d__law_paths => ?_
    (case h34a => k_is)
    (case h34l => k_is)
    (case h34c => k_is)
    (case h34k => k_is)
    refine' def_at (x := "_law_each_once") (st := sLEachOnce) (ps := ["rows", "nodes"]) KX G (fun _ _ _ _ _ _ us hl => match us, hl with | [_, _], _ => rfl) ?h35a ?h35l ?h35c ?h35k fun d__law_each_once => ?_
    (case h35a => k_is)
    (case h35l => k_is)
    (case h35c => k_is)
    (case h35k => k_is)
    refine' def_at (x := "_law_is_tree") (st := sLIsTree) (ps := ["tree", "parents", "prices"]) KX G (fun _ _ _ _ _ _ us hl => match us, hl with | [_, _, _], _ => rfl) ?h36a ?h36l ?h36c ?h36k fun d__law_is_tree => ?_
    (case h36a => k_is)
    (case h36l => k_is)
    (case h36c => k_is)
    (case h36k => k_is)
    refine' def_at (x := "_law_right") (st := sLRight) (ps := ["tree", "parents", "prices"]) KX G (fun _ _ _ _ _ _ us hl => match us, hl with | [_, _, _], _ => rfl) ?h37a ?h37l ?h37c ?h37k fun d__law_right => ?_
    (case h37a => k_is)
    (case h37l => k_is)
    (case h37c => k_is)
    (case h37k => k_is)
    refine' def_at (x := "_law_equals") (st := sLEquals) (ps := ["pool", "tree", "parents", "prices"]) KX G (fun _ _ _ _ _ _ us hl => match us, hl with | [_, _, _, _], _ => rfl) ?h38a ?h38l ?h38c ?h38k fun d__law_equals => ?_
    (case h38a => k_is)
    (case h38l => k_is)
    (case h38c => k_is)
    (case h38k => k_is)
    refine' def_at (x := "_law_refused") (st := sLRefused) (ps := ["pool", "parents", "prices"]) KX G (fun _ _ _ _ _ _ us hl => match us, hl with | [_, _, _], _ => rfl) ?h39a ?h39l ?h39c ?h39k fun d__law_refused => ?_
    (case h39a => k_is)
    (case h39l => k_is)
    (case h39c => k_is)
    (case h39k => k_is)
    refine' def_at (x := "law") (st := sLaw) (ps := ["script"]) KX G (fun _ _ _ _ _ _ us hl => match us, hl with | [_], _ => rfl) ?h40a ?h40l ?h40c ?h40k fun d_law => ?_
    (case h40a => k_is)
    (case h40l => k_is)
    (case h40c => k_is)
    (case h40k => k_is)
    refine' int_is (x := "MOST_PRICE") KX G ?cMOST_PRICE fun c_MOST_PRICE => ?_
    (case cMOST_PRICE => k_is)
    refine' int_is (x := "LEAST_PRICE") KX G ?cLEAST_PRICE fun c_LEAST_PRICE => ?_
    (case cLEAST_PRICE => k_is)
    refine' int_is (x := "MOST_TREE_NODES") KX G ?cMOST_TREE_NODES fun c_MOST_TREE_NODES => ?_
    (case cMOST_TREE_NODES => k_is)
    refine' law_at (x := "law") (y := "script") (st := sLaw) KX G hmg (fun _ _ _ _ _ _ us hl => match us, hl with | [_], _ => rfl) ?la ?lb (fun base => ok_Law (Ad1 := _) (Ad2 := _) (Ad3 := _) (Ad4 := _) (Ad5 := _) (Ad6 := _) (Ad7 := _) (Ad8 := _) (Ad9 := _) (Ad10 := _) (Ad11 := _) {
      b_len := PySem.W.mg_none_of KX G (by k_is)
      b_int := PySem.W.mg_none_of KX G (by k_is)
      b_tuple := PySem.W.mg_none_of KX G (by k_is)
      b_list := PySem.W.mg_none_of KX G (by k_is)
      b_range := PySem.W.mg_none_of KX G (by k_is)
      b_isinstance := PySem.W.mg_none_of KX G (by k_is)
      b_bool := PySem.W.mg_none_of KX G (by k_is)
      b_ValueError := PySem.W.mg_none_of KX G (by k_is)
      b_enumerate := PySem.W.mg_none_of KX G (by k_is)
      b_max := PySem.W.mg_none_of KX G (by k_is)
      b_sum := PySem.W.mg_none_of KX G (by k_is)
      b_sorted := PySem.W.mg_none_of KX G (by k_is)
      b_str := PySem.W.mg_none_of KX G (by k_is)
      c_MOST_PRICE := int_as (by decide +kernel) c_MOST_PRICE
      c_LEAST_PRICE := int_as (by decide +kernel) c_LEAST_PRICE
      c_MOST_TREE_NODES := int_as (by decide +kernel) c_MOST_TREE_NODES
      rBadCount := rs2 o_BadCount g_BadCount i_BadCount t_BadCount (errB_ok (k := 0) s_BadCount (NdefX.nscope_by (by decide +kernel)) (by decide) (by decide) rfl rfl (by decide +kernel) (by k_is) (by k_is) (fun _ => rfl) (by decide) (by decide) (by decide) (by decide)) (bindX (fun _ _ _ _ _ _ _ us hl => match us, hl with | [_, _, _], _ => rfl) x_BadCount) (by decide)
      rNoNode := rs1 o_NoNode g_NoNode i_NoNode t_NoNode (err1_ok (k := 0) s_NoNode (NdefX.nscope_by (by decide +kernel)) rfl rfl (by decide +kernel) (by k_is) (fun _ => rfl) (by decide) (by decide)) (bindX (fun _ _ _ _ _ _ _ us hl => match us, hl with | [_, _], _ => rfl) x_NoNode) (by decide)
      rWrongWidth := rs2 o_WrongWidth g_WrongWidth i_WrongWidth t_WrongWidth (err2_ok (k := 0) s_WrongWidth (NdefX.nscope_by (by decide +kernel)) rfl rfl (by decide +kernel) (by k_is) (by k_is) (fun _ => rfl) (by decide) (by decide) (by decide) (by decide)) (bindX (fun _ _ _ _ _ _ _ us hl => match us, hl with | [_, _, _], _ => rfl) x_WrongWidth) (by decide)
      rBadParent := rs1 o_BadParent g_BadParent i_BadParent t_BadParent (err1_ok (k := 0) s_BadParent (NdefX.nscope_by (by decide +kernel)) rfl rfl (by decide +kernel) (by k_is) (fun _ => rfl) (by decide) (by decide)) (bindX (fun _ _ _ _ _ _ _ us hl => match us, hl with | [_, _], _ => rfl) x_BadParent) (by decide)
      rBadPrice := rs1 o_BadPrice g_BadPrice i_BadPrice t_BadPrice (err1_ok (k := 0) s_BadPrice (NdefX.nscope_by (by decide +kernel)) rfl rfl (by decide +kernel) (by k_is) (fun _ => rfl) (by decide) (by decide)) (bindX (fun _ _ _ _ _ _ _ us hl => match us, hl with | [_, _], _ => rfl) x_BadPrice) (by decide)
      m_Tree := m_Tree
      lTree := ⟨by k_is, by k_is, by k_is, by k_is⟩
      nTree_nodes := by unfold L2.NoAttr; k_is
      nTree_parents := by unfold L2.NoAttr; k_is
      nTree_prices := by unfold L2.NoAttr; k_is
      d_heights := d_heights
      d_main_children := d_main_children
      d_path_down := d_path_down
      d_paths := d_paths
      d_check_edges := d_check_edges
      d_Tree_children := d_Tree_children
      d_Tree___eq__ := d_Tree___eq__
      d__law_pool := d__law_pool
      d__law_draw := d__law_draw
      d__law_same := d__law_same
      d__law_truth := d__law_truth
      d__law_fault := d__law_fault
      d__law_raised := d__law_raised
      d__law_due := d__law_due
      d__law_rows := d__law_rows
      d__law_children := d__law_children
      d__law_heights := d__law_heights
      d__law_paths := d__law_paths
      d__law_each_once := d__law_each_once
      d__law_is_tree := d__law_is_tree
      d__law_right := d__law_right
      d__law_equals := d__law_equals
      d__law_refused := d__law_refused
      d_law := d_law
      gPebbleError := g_PebbleError
      gBadCount := g_BadCount
      gNotPebbles := g_NotPebbles
      gNoNode := g_NoNode
      gUnlikeWidths := g_UnlikeWidths
      gWrongWidth := g_WrongWidth
      gBadNext := g_BadNext
      gBadWeight := g_BadWeight
      gBadParent := g_BadParent
      gBadPrice := g_BadPrice
      gTree := PySem.W.mg_of KX G (by k_is)
      ek := ⟨by k_is, by k_is⟩
      eBadCount := e_BadCount
      fBadCount_what := by k_is
      fBadCount_many := by k_is
      xBadCount_PebbleError := xm_at e_PebbleError o_PebbleError (by k_is)
      tBadCount_BadCount := kit_self
      tBadCount_BadParent := kit_ref e_BadParent o_BadParent (by decide) (by k_is)
      tBadCount_BadPrice := kit_ref e_BadPrice o_BadPrice (by decide) (by k_is)
      tBadCount_NoNode := kit_ref e_NoNode o_NoNode (by decide) (by k_is)
      tBadCount_WrongWidth := kit_ref e_WrongWidth o_WrongWidth (by decide) (by k_is)
      tBadCount_BadNext := kit_ref e_BadNext o_BadNext (by decide) (by k_is)
      tBadCount_BadWeight := kit_ref e_BadWeight o_BadWeight (by decide) (by k_is)
      tBadCount_NotPebbles := kit_ref e_NotPebbles o_NotPebbles (by decide) (by k_is)
      tBadCount_UnlikeWidths := kit_ref e_UnlikeWidths o_UnlikeWidths (by decide) (by k_is)
      tBadCount_ValueError := kit_VE (by k_is)
      eNoNode := e_NoNode
      fNoNode_node := by k_is
      xNoNode_PebbleError := xm_at e_PebbleError o_PebbleError (by k_is)
      tNoNode_BadCount := kit_ref e_BadCount o_BadCount (by decide) (by k_is)
      tNoNode_BadParent := kit_ref e_BadParent o_BadParent (by decide) (by k_is)
      tNoNode_BadPrice := kit_ref e_BadPrice o_BadPrice (by decide) (by k_is)
      tNoNode_NoNode := kit_self
      tNoNode_WrongWidth := kit_ref e_WrongWidth o_WrongWidth (by decide) (by k_is)
      tNoNode_BadNext := kit_ref e_BadNext o_BadNext (by decide) (by k_is)
      tNoNode_BadWeight := kit_ref e_BadWeight o_BadWeight (by decide) (by k_is)
      tNoNode_NotPebbles := kit_ref e_NotPebbles o_NotPebbles (by decide) (by k_is)
      tNoNode_UnlikeWidths := kit_ref e_UnlikeWidths o_UnlikeWidths (by decide) (by k_is)
      tNoNode_ValueError := kit_VE (by k_is)
      eWrongWidth := e_WrongWidth
      fWrongWidth_have := by k_is
      fWrongWidth_need := by k_is
      xWrongWidth_PebbleError := xm_at e_PebbleError o_PebbleError (by k_is)
      tWrongWidth_BadCount := kit_ref e_BadCount o_BadCount (by decide) (by k_is)
      tWrongWidth_BadParent := kit_ref e_BadParent o_BadParent (by decide) (by k_is)
      tWrongWidth_BadPrice := kit_ref e_BadPrice o_BadPrice (by decide) (by k_is)
      tWrongWidth_NoNode := kit_ref e_NoNode o_NoNode (by decide) (by k_is)
      tWrongWidth_WrongWidth := kit_self
      tWrongWidth_BadNext := kit_ref e_BadNext o_BadNext (by decide) (by k_is)
      tWrongWidth_BadWeight := kit_ref e_BadWeight o_BadWeight (by decide) (by k_is)
      tWrongWidth_NotPebbles := kit_ref e_NotPebbles o_NotPebbles (by decide) (by k_is)
      tWrongWidth_UnlikeWidths := kit_ref e_UnlikeWidths o_UnlikeWidths (by decide) (by k_is)
      tWrongWidth_ValueError := kit_VE (by k_is)
      eBadParent := e_BadParent
      fBadParent_at := by k_is
      xBadParent_PebbleError := xm_at e_PebbleError o_PebbleError (by k_is)
      tBadParent_BadCount := kit_ref e_BadCount o_BadCount (by decide) (by k_is)
      tBadParent_BadParent := kit_self
      tBadParent_BadPrice := kit_ref e_BadPrice o_BadPrice (by decide) (by k_is)
      tBadParent_NoNode := kit_ref e_NoNode o_NoNode (by decide) (by k_is)
      tBadParent_WrongWidth := kit_ref e_WrongWidth o_WrongWidth (by decide) (by k_is)
      tBadParent_BadNext := kit_ref e_BadNext o_BadNext (by decide) (by k_is)
      tBadParent_BadWeight := kit_ref e_BadWeight o_BadWeight (by decide) (by k_is)
      tBadParent_NotPebbles := kit_ref e_NotPebbles o_NotPebbles (by decide) (by k_is)
      tBadParent_UnlikeWidths := kit_ref e_UnlikeWidths o_UnlikeWidths (by decide) (by k_is)
      tBadParent_ValueError := kit_VE (by k_is)
      eBadPrice := e_BadPrice
      fBadPrice_at := by k_is
      xBadPrice_PebbleError := xm_at e_PebbleError o_PebbleError (by k_is)
      tBadPrice_BadCount := kit_ref e_BadCount o_BadCount (by decide) (by k_is)
      tBadPrice_BadParent := kit_ref e_BadParent o_BadParent (by decide) (by k_is)
      tBadPrice_BadPrice := kit_self
      tBadPrice_NoNode := kit_ref e_NoNode o_NoNode (by decide) (by k_is)
      tBadPrice_WrongWidth := kit_ref e_WrongWidth o_WrongWidth (by decide) (by k_is)
      tBadPrice_BadNext := kit_ref e_BadNext o_BadNext (by decide) (by k_is)
      tBadPrice_BadWeight := kit_ref e_BadWeight o_BadWeight (by decide) (by k_is)
      tBadPrice_NotPebbles := kit_ref e_NotPebbles o_NotPebbles (by decide) (by k_is)
      tBadPrice_UnlikeWidths := kit_ref e_UnlikeWidths o_UnlikeWidths (by decide) (by k_is)
      tBadPrice_ValueError := kit_VE (by k_is)
      yTree := by k_is
      iTree := ⟨by k_is, by k_is, by k_is, by k_is⟩
      sTree_NoneType := by k_is
      sTree_int := by k_is
      sTree_tuple := by k_is
      sTree_list := by k_is
      sTree_str := by k_is })
    (case lb => k_is); (case la => k_is)
#print axioms PySem.Challenge.cw_pebblesreach_k11_tree_parts_holds
