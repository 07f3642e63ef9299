import PyProof.Rows.All
import Wide.All
import OpenK.AllK
import Wide.FinOn
import KE.KExcSuper
import HandS.ForMost
import HandS.ForExc
import HandS.ExcInit
import HandS.ExcField
import HandS.ExcIs
import HandS.IsInst
import KE.KExcIs
import HandS.Nested
import HandS.HotCalls
import KE.GoesEnum
import KE.GoesMore
import HandS.Walk
import KE.KTupSum
import HandS.Comp
import HandS.Codes
import HandS.CallSlots
import HandS.Defaults
import HandS.MakeKw
import HandS.Wide
import HandS.Evl
import HandS.TupAny
import HandS.SlotsOwn
import HandS.OwnEq
import HandS.MakeKwOnly
import KE.SortData
import HandS.DictComp
import HandS.Strs
import PyProof.AutoSeq1
import HandS.Style
import PySem.Challenge.RW_pebblesreach_k12_tree_greedy
set_option Elab.async false
set_option linter.all false
set_option maxRecDepth 100000
set_option maxHeartbeats 4000000
/-! Errors of the package: __init__ begins with super().__init__(..); isinstance and fields of a caught error; calls within an except suite. -/
namespace SI
open PySem PySem.Spec PyProof.Rows L2 NdefX

/-! ### super().__init__(e0), then the rest -/
structure SupF (P : Program) (K : PySem.W.Frag) (mg : Str → Option Value) (C fI : Addr) (qual : Str) (params : Arguments) (e0 : Expr) (rest : List Stmt) (scope : Scope) (p0 p1 p2 p3 p4 : Pos) (fd : FuncData) : Prop where
  ex : ∃ (oc : Value) (od : Option Addr) (kV doc pm : Value) (an : Option Addr) (ct : Value) (osl : Array (Option Value)) (cc cda : Addr)
      (q1 : Value) (q2 : Option Addr) (q3 : Array (Option Value)) (r1 : Value) (r2 : Option Addr) (vs : Array Value) (r3 : Array (Option Value)) (file : Str) (tf : Tok),
    fd = PySem.W.fnX "__init__" qual params (.Expr (.Call (.Attribute (.Call (.Name "super" p0) [] [] p1) "__init__" p2) [e0] [] p3) p4 :: rest) scope [("__class__", cc)] .none kV doc pm an (.ref cda) ct ∧
    K.lookup fI = some ⟨oc, od, .func fd, osl⟩ ∧ PySem.W.codeIn K (.ref cda) qual = true ∧
    K.lookup cda = some ⟨r1, r2, .fields vs, r3⟩ ∧ vs[2]? = some (.str file tf) ∧ (P.main.file == file) = true ∧
    K.lookup cc = some ⟨q1, q2, .cell (some (.ref C)), q3⟩
  oex : OexC K C
  self : PySem.W.mroIn K C (.ref C) = some true
  sup : PySem.W.ks_superIn K C C "__init__" = some (some (.builtin "ValueError.__init__"))
  sub : PySem.W.subIn K (.ref C) (.type "ValueError") = some true
  mg0 : mg "super" = none
  any : PySem.W.nsIn K cStatics "thirdparty.any" = some none
  top : (P.main.scope.names.lookup ("super" : Str)).isSome = false

/-- ValueError.__init__ bound to the exception at x (the object at u), called -/
theorem call_mw {prog : Program} {w : World} {A : Around} {E : Value → Shared → Prop} {h : Heap} {g : Array GenState} {d : Drawn} {t : Nat} {os : OsState}
    {nm q : Str} {C N : Addr} {bs bm : List Value} {hdct : Bool} {sn : List Str} {sub : List Value} {ab : Bool} {col : Option Bool} {dd : Option Addr} {k0 k1 k2 k3 k5 : Option Value}
    {u x t0 : Addr} {rest : List Value} {Q : Value → Shared → Prop}
    (hC : h.get? C = some (excClassObj nm q C N bs bm hdct sn sub ab col dd k0 k1 k2 k3 k5 "ValueError.__new__")) (hx : h.get? x = some (PySem.HandSPX.excO C t0)) (hu : h.get? u = some (PySem.W.kxs_mw "ValueError.__init__" x)) (hz : rest.length ≤ sizeLine)
    (hq : ∀ h' t1, (∀ b o, b ≠ x → h.get? b = some o → h'.get? b = some o) → h'.get? x = some (PySem.HandSPX.excO C t1) → Q .none ⟨h', g, d, t, os⟩) :
    wpAny (model prog w) A (call (.ref u) rest) Q E ⟨h, g, d, t, os⟩ := by
  refine wpAny_call (codeAny_of_tree ?_)
  show wpAny _ A.in1 (callAny (.ref u) ⟨rest, []⟩) _ _ _
  simp only [callAny]
  refine wpAny_bind (wpAny_load hu ?_)
  simp only [PySem.W.kxs_mw, (by decide : (Value.type "method-wrapper" == Value.type "method" || Value.type "method-wrapper" == Value.type "builtin_function_or_method" || Value.type "method-wrapper" == Value.type "method-wrapper") = true), if_true]
  refine PySem.W.KFB.if_so (by decide) ?_
  refine wpAny_bind (PySem.W.check_bound_init F.excBase_ValueError.toExcCallFacts hC hx rfl ?_)
  refine wpAny_bind (wpAny_pure (wpAny_pure ?_))
  refine ⟨plainId_quiet F.excBase_ValueError.init.plain _, codeAny_builtin F.excBase_ValueError.initEntry ?_⟩
  rw [Around.under_plainId F.excBase_ValueError.init.plain _]
  wp_walk
  refine hq _ h.objs.size (fun b o hb ho => ?_) ?_
  · rw [Heap.get?_update_other _ _ (Ne.symm hb)]
    exact Heap.get?_push_of_some _ ho
  · rw [Heap.get?_update_self _ (Heap.get?_push_of_some _ hx) rfl]
    rfl

section
variable {CX : CXT} {P : Program} {w : World} {K : PySem.W.Frag} {mg : Str → Option Value} {base : Heap} {N ps : List Str} {k : Nat} {sp : Sp} {C fI : Addr} {qual : Str} {params : Arguments} {e0 : Expr} {rest : List Stmt} {scope : Scope} {p0 p1 p2 p3 p4 : Pos} {fd : FuncData}
def nf (qual : Str) (params : Arguments) (body : List Stmt) (scope : Scope) (cc cda : Addr) : NF := ⟨"__init__", qual, params, body, scope, [("__class__", cc)], cda⟩
theorem sup_ok (T : SupF P K mg C fI qual params e0 rest scope p0 p1 p2 p3 p4 fd) (S : NScope N ps ["__class__"] scope) {ar : Arg} (hp : (params.posonlyargs ++ params.args).head? = some ar) (hp0 : ps[0]? = some ar.arg) (hks : scope.names.lookup ("super" : Str) = some .globalImplicit)
    (hst : ∀ env : Env, starEach [e0] env = (false, eval e0 env) :: starEach [] env)
    (hcall : ∀ env : Env, eval (.Call (.Attribute (.Call (.Name "super" p0) [] [] p1) "__init__" p2) [e0] [] p3) env = (do
      let ov ← attributeBase (.Call (.Name "super" p0) [] [] p1) "__init__" env (eval (.Call (.Name "super" p0) [] [] p1) env)
      standAt p2.atName
      let (f, first) ← holding [ov] (getMethod ov "__init__" (do return (← importBound (.Call (.Name "super" p0) [] [] p1) env).getD true))
      callWith p3 f first (backTo p3 (starEach [e0] env)) [])) (len : ∀ vs H Q E, sp vs H Q E → vs.length = ps.length)
    (hbody : ∀ (X : Cx) (H : Hp) (vs : List V) (Q : VK) (E : XK), X.N = N → X.K = K → X.mg = mg → X.env.scope = scope → X.calm = true → sp vs H Q E →
      ∃ (a : Addr) (ta : TA) (t : TS), vs[0]? = some (.ref a) ∧ H a = some (exo a C none) ∧ PA X [e0] ta ∧ PSs X rest t ∧
        ta (startF N vs [some (.ref C)]) H (fun ws H1 => ws.length ≤ sizeLine ∧ H1 a = some (exo a C none) ∧ t { nx := fun _ H' => Q .non H', rt := Q } (startF N vs [some (.ref C)]) H1)) :
    FnOk P w K mg base CX (k + 1) fI fd ps sp := by
  obtain ⟨oc, od, kV, doc, pm, an, ct, osl, cc, cda, q1, q2, q3, r1, r2, vs2, r3, file, tf, rfl, lk, hcd, hcda, hfile, hmain, hcc⟩ := T.ex
  refine ⟨len, fun A outer s H args us vs Q E hr e0' hb r hsp => ?_⟩
  have hl := len _ _ _ _ hsp
  have KX : K.In s.heap := e0'.mod.kin.keeps fun b o e => (e0'.bs b o e).1
  have lim : s.heap.NoLimit := e0'.mod.nolimit.keeps fun b o e => (e0'.bs b o e).1
  have hcH : H cc = none := (e0'.bs cc _ (e0'.mod.kin _ _ hcc)).2
  have CA : CellsAt [(("__class__" : Str), cc)] ["__class__"] [some (V.ref C)] s.heap H := {
    len := rfl
    all := fun y c hy => by
      have e : (y, c) ∈ [(("__class__" : Str), cc)] := PySem.mem_of_lookup hy
      simp only [List.mem_singleton, Prod.mk.injEq] at e
      obtain ⟨_, rfl⟩ := e
      exact ⟨hcH, _, _, KX _ _ hcc, rfl⟩
    inj := fun x y c hx hy => by
      have ex : (x, c) ∈ [(("__class__" : Str), cc)] := PySem.mem_of_lookup hx
      have ey : (y, c) ∈ [(("__class__" : Str), cc)] := PySem.mem_of_lookup hy
      simp only [List.mem_singleton, Prod.mk.injEq] at ex ey
      rw [ex.1, ey.1]
    has := fun i y hy => by
      cases i with
      | succ j => simp at hy
      | zero =>
        have e : y = "__class__" := by simpa using hy.symm
        subst e
        refine ⟨cc, by rfl, fun v hv => ?_⟩
        have e : v = V.ref C := by simpa using hv.symm
        subst e
        exact ⟨.ref C, rfl, _, KX _ _ hcc, rfl⟩ }
  refine ks_codeAny_call_defAt (binds := ps.zip us) hr.depth (KX _ _ lk) rfl lim (PySem.W.codeRec_of KX hcd) rfl hb S.nocell (fun y hy => ?_) (fun h₁ hns kp => ?_) S.co S.gen S.kind
  · obtain ⟨n, v⟩ := y
    exact S.par n (List.of_mem_zip hy).1
  let body0 : List Stmt := .Expr (.Call (.Attribute (.Call (.Name "super" p0) [] [] p1) "__init__" p2) [e0] [] p3) p4 :: rest
  let X : Cx := ncx CX P w K mg base N (nf qual params body0 scope cc cda) fI A outer s H E
  have I : Inv X [] (startF N vs [some (.ref C)]) H { s with heap := h₁, toks := s.toks + (ps.zip us).length } := inv_startN (F := nf qual params body0 scope cc cda) S hr.hd e0' hl r CA hns kp
  obtain ⟨a, ta, t, hv0, hHa, hpa, hps, hq⟩ := hbody X H vs Q E rfl rfl rfl rfl rfl hsp
  obtain ⟨ua, hua, rua⟩ := r.get hv0
  obtain rfl : ua = Value.ref a := rua
  obtain ⟨nm, q, N', bs, bm, sn, sub, ab, col, dd, k0, k1, k2, k3, k5, hC, hbm⟩ := T.oex.cls
  have hcl : PySem.W.clsIn K C = some { name := nm, bases := bs, mro := .ref C :: bm, ns := N', qualname := q, hasDict := true, slotNames := sn, subclasses := sub, abstract := ab, collection := col, hasDel := false } := by unfold PySem.W.clsIn; rw [hC] <;> rfl
  have X1 : K.In h₁ := KX.keeps kp
  have hkfree : scope.names.lookup ("__class__" : Str) = some .free := S.frk _ (by simp)
  have ndP : ps.Nodup := by
    have q := S.nd.sublist (List.take_sublist (ps.length + 1) N)
    have e := S.pre
    simp only [List.length_singleton] at e
    rw [e] at q
    exact (List.nodup_append.mp q).1
  refine ks_wpAt_execs_cons (ks_wpAt_Expr_any (ks_wpAt_MethodCall (ks_wpAt_super_base hks hkfree (by decide) rfl (X1 _ _ lk) rfl hp rfl (X1 _ _ hcda) rfl hfile hmain T.top ?_) (hcall _)) I.quiet rfl)
  obtain ⟨mb, hb1, hb2⟩ := I.mod.blt
  refine PySem.W.ks_loadName_global S.kind hks (Calls.loadGlobal_builtin (I.mod.glob.keeps I.bk) T.mg0 (hb1.keeps I.bk) ((hb2 "super" (by decide)).trans (by decide +kernel)) ⟨rfl, ?_⟩)
  refine wpAny_loadName_free S.kind hkfree (by rfl) ⟨_, X1 _ _ hcc, rfl⟩ ?_
  have hka : scope.names.lookup ar.arg = some .local := S.par _ (List.mem_of_getElem? hp0)
  refine wpAny_loadName_local S.kind hka hns (zip_look ndP hp0 hua) ?_
  have hD := X1 _ _ hC
  refine ks_wpAny_isType_cls hD rfl ⟨rfl, ?_⟩
  obtain ⟨t1, hx⟩ := exo_at I.hok hHa
  refine ks_wpAny_call_super hD rfl hx rfl (fun c z => by cases z) (PySem.W.looks_mroIn X1 T.self) (fun h2 hso k2 => ?_)
  have X2 : K.In h2 := X1.keeps k2
  have hx2 := k2 _ _ hx
  have IA : PySem.W.InstAt h2 a { cls := .ref C, dict := none, data := .fields #[.ref t1, .none, .none, .none, .bool false, .none] } C none := ⟨hx2, rfl, rfl, trivial⟩
  have hsup : PySem.W.alongIn K "__init__" (((Value.ref C :: bm).dropWhile (· != .ref C)).drop 1) = some (some (.builtin "ValueError.__init__")) := by
    have z := T.sup
    unfold PySem.W.ks_superIn at z
    rw [hcl] at z
    exact z
  refine PySem.W.kxs_getMethod PySem.W.kxs_ValueError hso (PySem.W.looks_opaque X2 T.any) (l₀ := Value.ref C :: bm) (fun A Q E s k q => wpAny_bind ((PySem.W.looks_clsIn X2 hcl) A _ E s k (wpAny_pure q))) rfl X2 hsup (IA.type.andThen (PySem.W.looks_subIn X2 T.sub)) (PySem.W.ks_ne X2 IA hcl) (by decide +kernel) ?_
  have I2 : Inv X [] (startF N vs [some (.ref C)]) H { s with heap := h2, toks := s.toks + (ps.zip us).length } := I.kept (t' := s.toks + (ps.zip us).length) k2
  have I3 : Inv X [] (startF N vs [some (.ref C)]) H { s with heap := h2.push (PySem.W.kxs_mw "ValueError.__init__" a), toks := s.toks + (ps.zip us).length + 1 } := I2.kept (t' := s.toks + (ps.zip us).length + 1) fun b o z => Heap.get?_push_of_some _ z
  have I4 : Inv X [(h2.objs.size, PySem.W.kxs_mw "ValueError.__init__" a)] (startF N vs [some (.ref C)]) H { s with heap := h2.push (PySem.W.kxs_mw "ValueError.__init__" a), toks := s.toks + (ps.zip us).length + 1 } :=
    ⟨I3.ok, I3.os, I3.bare, I3.base, I3.loc, I3.cell, I3.free, I3.freeC, fun p hp => by
      have e : p = (h2.objs.size, PySem.W.kxs_mw "ValueError.__init__" a) := by
        have z : p ∈ ([] : List (Addr × Obj)) ++ [(h2.objs.size, PySem.W.kxs_mw "ValueError.__init__" a)] := hp
        simpa using z
      subst e
      exact ⟨Heap.get?_push_at rfl rfl, I2.hok.fresh (Nat.le_refl _), Nat.ne_of_gt I2.lt, I2.nofs (Nat.le_refl _), fun v z => by cases z⟩, I3.hok, I3.len⟩
  have run := hpa.run p3 _ _ _ _ _ I4 hq
  refine PySem.W.kxs_callWith (i := "ValueError.__init__") (x := a) ?_ ?_
  · rw [hst]
    rfl
  · have e1 := hst X.env
    rw [hst]
    rw [e1] at run
    refine Calls.evalArgs_plain (thn run fun us2 s1 hh => ?_)
    obtain ⟨ws, H1, I5, r5, hz, hx5, ht⟩ := hh
    have pu := I5.pin (h2.objs.size, PySem.W.kxs_mw "ValueError.__init__" a) (by simp)
    refine ⟨pu.1, ?_⟩
    obtain ⟨t5, ho5⟩ := exo_at I5.hok hx5
    obtain ⟨hp5, g5, d5, tk5, os5⟩ := s1
    have hC5 : hp5.get? C = _ := I5.kIn _ _ hC
    refine call_mw hC5 ho5 pu.1 (by show us2.length ≤ sizeLine; rw [← Paired.length r5]; exact hz) fun h6 t6 k6 hx6 => ?_
    have I6 := I5.write (t' := tk5) (x := a) (e := a) (o := exo a C none) (by rw [hx5]; exact True.intro) (.inl rfl) k6 ⟨_, hx6⟩ (exo_ok hx6)
    have eu : upd H1 a (exo a C none) = H1 := by
      funext b
      by_cases hb : b = a
      · rw [hb, upd_same, hx5]
      · rw [upd_ne hb]
    rw [eu] at I6
    have I7 : Inv X [] (startF N vs [some (.ref C)]) H1 ⟨h6, g5, d5, tk5, os5⟩ := ⟨I6.ok, I6.os, I6.bare, I6.base, I6.loc, I6.cell, I6.free, I6.freeC, fun p hp => absurd (show p ∈ ([] : List (Addr × Obj)) ++ [] from hp) (by simp), I6.hok, I6.len⟩
    refine PySem.wpAt_of_wpAny (wpAny_mono (hps.run [] _ _ _ _ I7 ht) (fun fl s' hs => ?_) fun e s' hs => hs)
    have fin : ∀ {σ' : L2.St} {H' : Hp} {v : V} {u : Value}, Inv X [] σ' H' s' → L2.RelV v u → Q v H' → CE outer P w H s Q u s' :=
      fun {σ' H' v u} J rv q => ⟨v, H', J.os, J.bare, J.base, J.hok, rv, q⟩
    cases fl with
    | ret u =>
      obtain ⟨v, σ', H', J, rv, q⟩ := hs
      exact fin J rv q
    | next =>
      obtain ⟨σ', H', J, q⟩ := hs
      exact fin (v := V.non) (u := Value.none) J rfl q
    | brk => exact hs.choose_spec.choose_spec.2.elim
    | cont => exact hs.choose_spec.choose_spec.2.elim
end

/-! ### __init__ with one field, with two fields -/
section
variable {CX : CXT} {P : Program} {w : World} {K : PySem.W.Frag} {mg : Str → Option Value} {base : Heap} {k : Nat} {C fI : Addr} {qual : Str} {params : Arguments} {e0 : Expr} {scope : Scope} {p0 p1 p2 p3 p4 : Pos} {fd : FuncData} {x y f g : Str} {a1 a2 a3 a4 b1 b2 b3 b4 pe pf pg ph pi : Pos} {z z2 : Str} {j j2 : Nat} {ar : Arg}
/-- the call super().__init__(e0), by its places -/
abbrev SupCall (e0 : Expr) (p0 p1 p2 p3 : Pos) : Prop := ∀ env : Env, eval (.Call (.Attribute (.Call (.Name "super" p0) [] [] p1) "__init__" p2) [e0] [] p3) env = (do
      let ov ← attributeBase (.Call (.Name "super" p0) [] [] p1) "__init__" env (eval (.Call (.Name "super" p0) [] [] p1) env)
      standAt p2.atName
      let (f, first) ← holding [ov] (getMethod ov "__init__" (do return (← importBound (.Call (.Name "super" p0) [] [] p1) env).getD true))
      callWith p3 f first (backTo p3 (starEach [e0] env)) [])
def spE1 (C : Addr) (f : Str) : Sp := fun vs H Q _ => ∃ (a : Addr) (y : V), vs = [.ref a, y] ∧ H a = some (exo a C none) ∧ ∀ d, H d = none → d ≠ a → Q .non (upd (upd H d (exd d [(f, y)])) a (exo a C (some d)))
def spE2 (C : Addr) (f g : Str) (ok : V → Prop) : Sp := fun vs H Q _ => ∃ (a : Addr) (y z : V), vs = [.ref a, y, z] ∧ ok y ∧ H a = some (exo a C none) ∧
  ∀ d, H d = none → d ≠ a → Q .non (upd (upd (upd H d (exd d [(f, y)])) a (exo a C (some d))) d (exd d [(g, z), (f, y)]))
theorem err1_ok (T : SupF P K mg C fI qual params (.Constant (.str z) j pe) [.Assign [.Attribute (.Name "self" a1) f a2] (.Name x a3) a4] scope p0 p1 p2 p3 p4 fd) (S : NScope ["self", x, "__class__"] ["self", x] ["__class__"] scope)
    (hp : (params.posonlyargs ++ params.args).head? = some ar) (har : ar.arg = "self") (hks : scope.names.lookup ("super" : Str) = some .globalImplicit) (hno : PySem.W.findIn K (.ref C) f = some none) (hcall : SupCall (.Constant (.str z) j pe) p0 p1 p2 p3)
    (hx1 : (x == ("__debug__" : Str)) = false) (hx2 : (x == ("__classdict__" : Str)) = false) :
    FnOk P w K mg base CX (k + 1) fI fd ["self", x] (spE1 C f) := by
  refine sup_ok T S hp (by rw [har] <;> rfl) hks (fun _ => rfl) hcall (fun vs H Q E h => ?_) fun X H vs Q E eN eK em es ec h => ?_
  · obtain ⟨a, y, rfl, _⟩ := h
    rfl
  · obtain ⟨a, y, rfl, ha, q⟩ := h
    subst eK
    have n0 : X.N[0]? = some ("self" : Str) := by rw [eN] <;> rfl
    have n1 : X.N[1]? = some x := by rw [eN] <;> rfl
    have v0 : Vis X.env.scope "self" := by rw [es]; exact .inl (S.par _ (by simp))
    have v1 : Vis X.env.scope x := by rw [es]; exact .inl (S.par _ (by simp))
    refine ⟨a, _, _, rfl, ha, pa_cons pe_str pa_nil, pss_one (ps_ost (pv 0 n0 v0) (pe_var n1 v1 hx1 hx2)), ?_⟩
    refine ⟨by show 1 ≤ sizeLine; decide, ha, ?_⟩
    exact ⟨_, rfl, _, rfl, a, C, rfl, T.oex, hno, .inl ⟨ha, fun dx n ne => q dx n ne⟩⟩
theorem err2_ok (T : SupF P K mg C fI qual params (.Constant (.str z) j pe) [.Assign [.Attribute (.Name "self" a1) f a2] (.Name x a3) a4, .Assign [.Attribute (.Name "self" b1) g b2] (.Name y b3) b4] scope p0 p1 p2 p3 p4 fd)
    (S : NScope ["self", x, y, "__class__"] ["self", x, y] ["__class__"] scope)
    (hp : (params.posonlyargs ++ params.args).head? = some ar) (har : ar.arg = "self") (hks : scope.names.lookup ("super" : Str) = some .globalImplicit) (hno : PySem.W.findIn K (.ref C) f = some none) (hno2 : PySem.W.findIn K (.ref C) g = some none) (hcall : SupCall (.Constant (.str z) j pe) p0 p1 p2 p3)
    (hx1 : (x == ("__debug__" : Str)) = false) (hx2 : (x == ("__classdict__" : Str)) = false) (hy1 : (y == ("__debug__" : Str)) = false) (hy2 : (y == ("__classdict__" : Str)) = false) :
    FnOk P w K mg base CX (k + 1) fI fd ["self", x, y] (spE2 C f g fun _ => True) := by
  refine sup_ok T S hp (by rw [har] <;> rfl) hks (fun _ => rfl) hcall (fun vs H Q E h => ?_) fun X H vs Q E eN eK em es ec h => ?_
  · obtain ⟨a, y, z, rfl, _⟩ := h
    rfl
  · obtain ⟨a, u, v, rfl, _, ha, q⟩ := h
    subst eK
    have n0 : X.N[0]? = some ("self" : Str) := by rw [eN] <;> rfl
    have n1 : X.N[1]? = some x := by rw [eN] <;> rfl
    have n2 : X.N[2]? = some y := by rw [eN] <;> rfl
    have v0 : Vis X.env.scope "self" := by rw [es]; exact .inl (S.par _ (by simp))
    have v1 : Vis X.env.scope x := by rw [es]; exact .inl (S.par _ (by simp))
    have v2 : Vis X.env.scope y := by rw [es]; exact .inl (S.par _ (by simp))
    refine ⟨a, _, _, rfl, ha, pa_cons pe_str pa_nil, pss_cons (ps_ost (pv 0 n0 v0) (pe_var n1 v1 hx1 hx2)) (pss_one (ps_ost (pv 0 n0 v0) (pe_var n2 v2 hy1 hy2))), ?_⟩
    refine ⟨by show 1 ≤ sizeLine; decide, ha, ?_⟩
    exact ⟨_, rfl, _, rfl, a, C, rfl, T.oex, hno, .inl ⟨ha, fun dx n ne => ⟨_, rfl, _, rfl, a, C, rfl, T.oex, hno2, .inr ⟨dx, _, upd_same, (by rw [upd_ne ne, upd_same]), (by show 1 ≤ 900; decide), q dx n ne⟩⟩⟩⟩
/-- BadCount: the text is made of the first argument -/
theorem errB_ok (T : SupF P K mg C fI qual params (.BinOp (.BinOp (.Constant (.str z) j pe) .Add (.Name x pf) pg) .Add (.Constant (.str z2) j2 ph) pi)
      [.Assign [.Attribute (.Name "self" a1) f a2] (.Name x a3) a4, .Assign [.Attribute (.Name "self" b1) g b2] (.Name y b3) b4] scope p0 p1 p2 p3 p4 fd)
    (S : NScope ["self", x, y, "__class__"] ["self", x, y] ["__class__"] scope) (hz : z.length ≤ 100) (hz2 : z2.length ≤ 100)
    (hp : (params.posonlyargs ++ params.args).head? = some ar) (har : ar.arg = "self") (hks : scope.names.lookup ("super" : Str) = some .globalImplicit) (hno : PySem.W.findIn K (.ref C) f = some none) (hno2 : PySem.W.findIn K (.ref C) g = some none)
    (hcall : SupCall (.BinOp (.BinOp (.Constant (.str z) j pe) .Add (.Name x pf) pg) .Add (.Constant (.str z2) j2 ph) pi) p0 p1 p2 p3)
    (hx1 : (x == ("__debug__" : Str)) = false) (hx2 : (x == ("__classdict__" : Str)) = false) (hy1 : (y == ("__debug__" : Str)) = false) (hy2 : (y == ("__classdict__" : Str)) = false) :
    FnOk P w K mg base CX (k + 1) fI fd ["self", x, y] (spE2 C f g fun v => ∃ t : Str, v = .str t ∧ t.length ≤ 1000) := by
  refine sup_ok T S hp (by rw [har] <;> rfl) hks (fun _ => rfl) hcall (fun vs H Q E h => ?_) fun X H vs Q E eN eK em es ec h => ?_
  · obtain ⟨a, y, z, rfl, _⟩ := h
    rfl
  · obtain ⟨a, u, v, rfl, ⟨t, rfl, ht⟩, ha, q⟩ := h
    subst eK
    have n0 : X.N[0]? = some ("self" : Str) := by rw [eN] <;> rfl
    have n1 : X.N[1]? = some x := by rw [eN] <;> rfl
    have n2 : X.N[2]? = some y := by rw [eN] <;> rfl
    have v0 : Vis X.env.scope "self" := by rw [es]; exact .inl (S.par _ (by simp))
    have v1 : Vis X.env.scope x := by rw [es]; exact .inl (S.par _ (by simp))
    have v2 : Vis X.env.scope y := by rw [es]; exact .inl (S.par _ (by simp))
    refine ⟨a, _, _, rfl, ha, pa_cons (pe_op op_add_str (pe_op op_add_str pe_str (pe_var n1 v1 hx1 hx2)) pe_str) pa_nil, pss_cons (ps_ost (pv 0 n0 v0) (pe_var n1 v1 hx1 hx2)) (pss_one (ps_ost (pv 0 n0 v0) (pe_var n2 v2 hy1 hy2))), ?_⟩
    have l1 : z.length + t.length ≤ sizeLine := by rw [sizeLine_eq]; omega
    have l2 : (z ++ t).length + z2.length ≤ sizeLine := by
      have e : (z ++ t).length = z.length + t.length := by simp [PySem.Str.length_append]
      rw [e, sizeLine_eq]; omega
    refine ⟨_, rfl, _, _, rfl, rfl, l1, _, _, rfl, rfl, l2, ?_⟩
    refine ⟨by show 1 ≤ sizeLine; decide, ha, ?_⟩
    exact ⟨_, rfl, _, rfl, a, C, rfl, T.oex, hno, .inl ⟨ha, fun dx n ne => ⟨_, rfl, _, rfl, a, C, rfl, T.oex, hno2, .inr ⟨dx, _, upd_same, (by rw [upd_ne ne, upd_same]), (by show 1 ≤ 900; decide), q dx n ne⟩⟩⟩⟩
end
end SI
set_option maxRecDepth 100000
set_option maxHeartbeats 4000000
namespace SI
open PySem PySem.Spec PyProof.Rows L2 NdefX
/-! ### raising such an error: one reading for all classes -/
def mono (ta : TA) : TA := fun σ H Q => ∃ Q' : List V → Hp → Prop, ta σ H Q' ∧ ∀ vs H1, Q' vs H1 → Q vs H1
theorem pa_mono {X : Cx} {es : List Expr} {ta : TA} (h : PA X es ta) : PA X es (mono ta) := ⟨fun pos pins s σ H Q I ⟨Q', q, m⟩ => thn (h.run pos pins s σ H Q' I q) fun us s1 ⟨vs, H1, I1, r1, q1⟩ => ⟨vs, H1, I1, r1, m vs H1 q1⟩⟩
/-- C(..): the error's own dict is new, it holds the fields -/
def tErr (C : Addr) (mk : List V → List (Str × V) → Prop) (ta : TA) : L2.St → Hp → XK → Prop := fun σ H Q => ta σ H fun vs H1 => ∃ fs, mk vs fs ∧ ∀ d, H1 d = none → Q (.ref C) (some d) (upd H1 d (.xd fs))
theorem err_heap {H1 : Hp} {a d : Addr} {o1 o2 u : HO} (ha : H1 a = none) (hd : H1 d = none) (ne : d ≠ a) : upd (del (upd (upd H1 d o1) a o2) a) d u = upd H1 d u := by
  funext b
  by_cases hb : b = d
  · rw [hb, upd_same, upd_same]
  · rw [upd_ne hb, upd_ne hb]
    by_cases hc : b = a
    · rw [hc, del_same, ha]
    · rw [del_ne hc, upd_ne hc, upd_ne hb]
theorem err_heap2 {H1 : Hp} {a d : Addr} {o1 o2 o3 u : HO} (ha : H1 a = none) (hd : H1 d = none) (ne : d ≠ a) : upd (del (upd (upd (upd H1 d o1) a o2) d o3) a) d u = upd H1 d u := by
  funext b
  by_cases hb : b = d
  · rw [hb, upd_same, upd_same]
  · rw [upd_ne hb, upd_ne hb]
    by_cases hc : b = a
    · rw [hc, del_same, ha]
    · rw [del_ne hc, upd_ne hb, upd_ne hc, upd_ne hb]
theorem upd_comm0 {H1 : Hp} {a d : Addr} {u : HO} (ne : d ≠ a) (o : HO) : upd (upd H1 a o) d u = upd (upd H1 d u) a o := by
  funext b
  by_cases hb : b = d
  · subst hb
    rw [upd_same, upd_ne ne, upd_same]
  · rw [upd_ne hb]
    by_cases hc : b = a
    · rw [hc, upd_same, upd_same]
    · rw [upd_ne hc, upd_ne hc, upd_ne hb]
def mk1 (f : Str) : List V → List (Str × V) → Prop := fun vs fs => ∃ y, vs = [y] ∧ fs = [(f, y)]
def mk2 (f g : Str) (ok : V → Prop) : List V → List (Str × V) → Prop := fun vs fs => ∃ y z, vs = [y, z] ∧ ok y ∧ fs = [(g, z), (f, y)]
section
variable {X : Cx} {CX : CXT} {x f g : Str} {C fI : Addr} {k : Nat} {fd : FuncData} {ps : List Str} {e : Expr} {es : List Expr} {ta : TA} {p pos : Pos} {ok : V → Prop}
theorem pmk_e1 {y : Str} (T : OexC X.K C) (iC : PySem.W.findIn X.K (.ref C) "__init__" = some (some (.ref fI))) (tI : PySem.W.typeIn X.K (.ref fI) = some (.type "function"))
    (F1 : FnOk X.prog X.w X.K X.mg X.base CX k fI fd ["self", y] (spE1 C f)) (hr : Room (k + 1) X.A) (hb : Binds X.K fd ["self", y] []) (hx : Passes CX X (fun _ _ _ => False)) (hg : Gl X x) (hm : X.mg x = some (.ref C)) (ha : PA X (e :: es) ta)
    (hdb : (x == ("__debug__" : Str)) = false := by decide) (he : starEach (e :: es) X.env = (false, eval e X.env) :: starEach es X.env := by rfl) (hpl : (backTo pos (starEach es X.env)).any (·.1) = false := by rfl) :
    PMk X (.Call (.Name x p) (e :: es) [] pos) (tErr C (mk1 f) ta) := by
  have R := pmk_oex (pos := pos) (p := p) T iC tI F1 hr hb .nil hx hg hm (pa_mono ha) hdb he hpl
  intro pins s σ H Q I h
  refine R pins s σ H Q I ⟨_, h, ?_⟩
  rintro vs H1 ⟨fs, ⟨y, rfl, rfl⟩, q⟩
  refine ⟨by show 1 ≤ 1000; decide, fun a na => ?_⟩
  refine ⟨a, y, rfl, upd_same, fun d hd ne => ⟨rfl, d, [(f, y)], upd_same, by rw [upd_ne ne, upd_same], ?_, ?_⟩⟩
  · rw [upd_ne ne] at hd
    exact hd
  · have hd' : H1 d = none := by
      rw [upd_ne ne] at hd
      exact hd
    have e1 : upd (del (upd (upd (upd H1 a (exo a C none)) d (exd d [(f, y)])) a (exo a C (some d))) a) d (HO.xd [(f, y)]) = upd H1 d (.xd [(f, y)]) := by
      rw [upd_comm0 ne, upd_upd]
      exact err_heap na hd' ne
    rw [e1]
    exact q d hd'
theorem pmk_e2 {y z : Str} (T : OexC X.K C) (iC : PySem.W.findIn X.K (.ref C) "__init__" = some (some (.ref fI))) (tI : PySem.W.typeIn X.K (.ref fI) = some (.type "function"))
    (F1 : FnOk X.prog X.w X.K X.mg X.base CX k fI fd ["self", y, z] (spE2 C f g ok)) (hr : Room (k + 1) X.A) (hb : Binds X.K fd ["self", y, z] []) (hx : Passes CX X (fun _ _ _ => False)) (hg : Gl X x) (hm : X.mg x = some (.ref C)) (ha : PA X (e :: es) ta)
    (hdb : (x == ("__debug__" : Str)) = false := by decide) (he : starEach (e :: es) X.env = (false, eval e X.env) :: starEach es X.env := by rfl) (hpl : (backTo pos (starEach es X.env)).any (·.1) = false := by rfl) :
    PMk X (.Call (.Name x p) (e :: es) [] pos) (tErr C (mk2 f g ok) ta) := by
  have R := pmk_oex (pos := pos) (p := p) T iC tI F1 hr hb .nil hx hg hm (pa_mono ha) hdb he hpl
  intro pins s σ H Q I h
  refine R pins s σ H Q I ⟨_, h, ?_⟩
  rintro vs H1 ⟨fs, ⟨y, z, rfl, hok, rfl⟩, q⟩
  refine ⟨by show 2 ≤ 1000; decide, fun a na => ?_⟩
  refine ⟨a, y, z, rfl, hok, upd_same, fun d hd ne => ⟨rfl, d, [(g, z), (f, y)], by rw [upd_ne (Ne.symm ne), upd_same], upd_same, ?_, ?_⟩⟩
  · rw [upd_ne ne] at hd
    exact hd
  · have hd' : H1 d = none := by
      rw [upd_ne ne] at hd
      exact hd
    have e1 : upd (del (upd (upd (upd (upd H1 a (exo a C none)) d (exd d [(f, y)])) a (exo a C (some d))) d (exd d [(g, z), (f, y)])) a) d (HO.xd [(g, z), (f, y)]) = upd H1 d (.xd [(g, z), (f, y)]) := by
      rw [upd_comm0 ne (exo a C none), upd_upd]
      exact err_heap2 na hd' ne
    rw [e1]
    exact q d hd'
end

/-! ### a caught error: isinstance, its fields -/
structure ErrC (K : PySem.W.Frag) (C : Addr) : Prop where
  cl : (PySem.W.clsIn K C).isSome = true
  ga : PySem.W.findIn K (.ref C) "__getattribute__" = some (some (.builtin "BaseException.__getattribute__"))
  gg : PySem.W.findIn K (.ref C) "__getattr__" = some none
  exC : PySem.W.subIn K (.ref C) (.type "BaseException") = some true
  hd : PySem.W.hasDictIn K C = true
  ac : PySem.W.findIn K (.ref C) "__class__" = some (some (.builtin "object.__class__"))
  mo : PySem.W.mroIn K C (.type "object") = some true
structure ErrK (K : PySem.W.Frag) : Prop where
  hn : PySem.W.specialIn K (.builtin "object.__class__") "__get__" = some (some (.builtin "getset_descriptor.__get__"))
  ht : PySem.W.takesIn K (.builtin "object.__class__") = some true
def rIsX (K : PySem.W.Frag) (a : Addr) (cls : Value) (d : Option Addr) : List V → Hp → VK → Prop := fun xs H Q => ∃ (D : Addr) (c : V) (cv : Value) (b : Bool), cls = .ref D ∧ ErrC K D ∧ xs = [.ref a, c] ∧ ClsV c cv ∧ PySem.W.kitOne K cls cv = some b ∧
  (∀ dd, d = some dd → ∃ fs, H dd = some (.xd fs)) ∧ Q (.bl b) H
theorem call_isX {X : Cx} {a : Addr} {oe : Obj} {cls : Value} {d : Option Addr} (EK : ErrK X.K) (hp : (a, oe) ∈ X.pn) (hz : Zc cls d oe) (hf : ∃ vs, oe.data = .fields vs) : CallR X (.builtin "isinstance") (rIsX X.K a cls d) := by
  intro pins s σ H xs us Q I r h
  obtain ⟨D, c, cv, b, ecls, C, rfl, hcv, e, hd, q⟩ := h
  cases r with
  | cons rx rr =>
    cases rr with
    | cons rt rr =>
      cases rr
      cases rx
      have ec := hcv.eq rt
      subst ec
      subst ecls
      obtain ⟨hget, _⟩ := I.pin (a, oe) (List.mem_append_left _ hp)
      obtain ⟨vs, hv⟩ := hf
      obtain ⟨od, J⟩ : ∃ od, PySem.W.InstAt s.heap a oe D od := by
        obtain ⟨oc, odi, oda, osl⟩ := oe
        obtain ⟨h1, h2⟩ := hz
        dsimp only at h1 h2 hv
        subst h1 h2 hv
        cases odi with
        | none => exact ⟨none, hget, rfl, rfl, trivial⟩
        | some dd =>
          obtain ⟨fs, hfs⟩ := hd dd rfl
          have hx : ObjOk X.prog X.w H s.heap dd (.xd fs) := I.hok dd _ hfs
          obtain ⟨mA, ⟨o, es, ep, ho, _⟩, _⟩ := hx
          exact ⟨some o, hget, rfl, rfl, ho⟩
      exact PySem.W.kia_one (PySem.W.kitx_exc C.cl C.ga C.gg C.exC C.ac EK.hn EK.ht C.mo) I.kIn J e (fun z => nomatch z) fun tk => ⟨.bl b, H, I.kept (t' := tk) fun _ _ z => z, rfl, q⟩
/-- e.f -/
def tErrF (K : PySem.W.Frag) (a : Addr) (cls : Value) (d : Option Addr) (f : Str) (te : TE) : TE := fun σ H Q => ∃ (C dd : Addr), cls = .ref C ∧ ErrC K C ∧ PySem.W.findIn K (.ref C) f = some none ∧ d = some dd ∧
  te σ H fun x H1 => x = .ref a ∧ ∃ (fs : List (Str × V)) (v : V), H1 dd = some (.xd fs) ∧ fs.lookup f = some v ∧ Q v H1
theorem pe_errF {X : Cx} {a : Addr} {oe : Obj} {cls : Value} {d : Option Addr} {e : Expr} {te : TE} {pos : Pos} {n : Str} (hp : (a, oe) ∈ X.pn) (hz : Zc cls d oe) (hf : ∃ vs, oe.data = .fields vs) (he : PE X e te) (hb : attributeBase e n X.env (eval e X.env) = eval e X.env := by rfl) :
    PE X (.Attribute e n pos) (tErrF X.K a cls d n te) := by
  refine ⟨fun pins s σ H Q I h => ?_⟩
  obtain ⟨C, dd, ec, T, hno, ed, h⟩ := h
  subst ec
  refine attr_of hb (thn (he.run pins s σ H _ I h) fun u s1 hh => ?_)
  obtain ⟨x, H1, I1, rx, ex, fs, v, ea, l, q⟩ := hh
  subst ex
  obtain rfl : u = Value.ref a := rx
  subst ed
  obtain ⟨ha, _⟩ := I1.pin (a, oe) (List.mem_append_left _ hp)
  obtain ⟨vs, hd⟩ := hf
  have hx : ObjOk X.prog X.w H1 s1.heap dd (.xd fs) := I1.hok dd _ ea
  obtain ⟨mA, hns, hr⟩ := hx
  obtain ⟨od, ho, hl⟩ := lookIn_ns hns
  obtain ⟨u, hu, ru⟩ := RelO.some_of (v := v) (o := mA n) (by rw [← l]; exact hr n)
  have J : PySem.W.InstAt s1.heap a oe C (some od) := ⟨ha, hz.1, by unfold PySem.W.notCls; rw [hd] <;> rfl, by rw [hz.2]; exact ho⟩
  exact HandSPX.exc_get I1.kIn J T.ga T.gg T.exC (PySem.W.findObj_own T.hd hno rfl (by rw [hl, hu])) (handed_of ru) ⟨v, H1, I1.tok _, ru, q⟩
end SI
set_option maxRecDepth 100000
set_option maxHeartbeats 4000000
namespace SI
open PySem PySem.Spec PyProof.Rows L2 NdefX L2H
/-! ### defs called while an exception p is handled; p may be handed on -/
structure FnW (P : Program) (w : World) (K : PySem.W.Frag) (mg : Str → Option Value) (base : Heap) (CX : CXT) (k : Nat) (f : Addr) (fd : FuncData) (ps : List Str) (sp : Addr × Obj → Sp) : Prop where
  len : ∀ p vs H Q E, sp p vs H Q E → vs.length = ps.length
  run : ∀ (A : Around) (outer : List Env) (s : Shared) (H : Hp) (args : Args) (us : List Value) (vs : List V) (Q : VK) (E : XK) (p : Addr × Obj), RoomH k A → PinOk outer H s p → Env0 P w K mg base A outer s H → BindsTo s fd args (ps.zip us) → Vals vs us → sp p vs H Q E →
    codeAny (model P w) A (.call (.ref f) args) (CR CX outer P w H s Q E) s
theorem fn_ofW {CX : CXT} {P : Program} {w : World} {K : PySem.W.Frag} {mg : Str → Option Value} {base : Heap} {k : Nat} {f : Addr} {name qual : Str} {params : Arguments} {body : List Stmt} {scope : Scope} {dV kV doc pm cdv ct oc : Value} {an od : Option Addr}
    {osl : Array (Option Value)} {N ps : List Str} {sp : Addr × Obj → Sp} (lk : K.lookup f = some ⟨oc, od, .func (PySem.W.fnOf name qual params body scope dV kV doc pm an cdv ct), osl⟩) (hcd : PySem.W.codeIn K cdv qual = true) (S : FnScope N ps scope)
    (len : ∀ p vs H Q E, sp p vs H Q E → vs.length = ps.length)
    (hbody : ∀ (A : Around) (outer : List Env) (s : Shared) (H : Hp) (vs : List V) (Q : VK) (E : XK) (p : Addr × Obj), RoomH k (A.deeper (envOfC qual scope s.heap.objs.size f cdv)) → sp p vs H Q E →
      ∃ t, PSs (cxH CX P w K mg base N qual scope f cdv A outer s H E p) body t ∧ t { nx := fun _ H' => Q .non H', rt := Q } (L2.start N vs) H) :
    FnW P w K mg base CX (k + 1) f (PySem.W.fnOf name qual params body scope dV kV doc pm an cdv ct) ps sp := by
  refine ⟨len, fun A outer s H args us vs Q E p hr hpin e0 hb r hsp => ?_⟩
  have hl := len _ _ _ _ _ hsp
  have KX : K.In s.heap := e0.mod.kin.keeps fun b o e => (e0.bs b o e).1
  have lim : s.heap.NoLimit := e0.mod.nolimit.keeps fun b o e => (e0.bs b o e).1
  have hkind : ∀ y ∈ ps.zip us, scope.names.lookup y.1 = some .local ∨ (scope.names.lookup y.1 = some .cell ∧ ((cellsFrom (s.heap.objs.size + 1) scope.names []).lookup y.1).isSome = true) := fun ⟨n, v⟩ hy =>
    (S.par n (List.of_mem_zip hy).1).elim .inl fun q => .inr ⟨q, PySem.W.cellsFrom_some _ _ _ (.inl q)⟩
  refine codeAny_call_function hr.depth (KX _ _ lk) rfl S.co S.gen rfl (PySem.W.codeRec_of KX hcd) (hb _ _ _ _ (wpAny_newFunctionEnv_cells S.kind hkind fun env he s1 x => ?_))
  subst he
  obtain ⟨t, ht, hq⟩ := hbody A outer s H vs Q E p (hr.deeper _) hsp
  have I : Inv (cxH CX P w K mg base N qual scope f cdv A outer s H E p) [] (L2.start N vs) H s1 := inv_startH S hpin e0 hl r x
  refine ⟨lim.keeps x.toInCall.keep, codeAny_func (wpAny_mono (ht.run [] s1 (L2.start N vs) H _ I hq) (fun fl s' hs => ?_) fun e s' hs => hs)⟩
  have fin : ∀ {σ' : L2.St} {H' : Hp} {v : V} {u : Value}, Inv (cxH CX P w K mg base N qual scope f cdv A outer s H E p) [] σ' H' s' → L2.RelV v u → Q v H' → CE outer P w H s Q u s' :=
    fun {σ' H' v u} J rv q => ⟨v, H', J.os, J.bare, J.base, J.hok, rv, q⟩
  cases fl with
  | ret u => exact fin hs.choose_spec.choose_spec.choose_spec.1 hs.choose_spec.choose_spec.choose_spec.2.1 hs.choose_spec.choose_spec.choose_spec.2.2
  | next => exact fin (v := V.non) (u := Value.none) hs.choose_spec.choose_spec.1 rfl hs.choose_spec.choose_spec.2
  | brk => exact hs.choose_spec.choose_spec.2.elim
  | cont => exact hs.choose_spec.choose_spec.2.elim
section
variable {X : Cx} {CX : CXT} {k : Nat} {f C : Addr} {fd : FuncData} {ps : List Str} {sp : Addr × Obj → Sp} {E : L2.St → XK} {x m : Str} {q pos apos : Pos} {e o : Expr} {es : List Expr} {ta : TE} {t : TA} {p : Addr × Obj}
theorem run_fnW {pins : List (Addr × Obj)} {σ : L2.St} {H : Hp} {s : Shared} {Q : VK} {us : List Value} {vs : List V} (F : FnW X.prog X.w X.K X.mg X.base CX k f fd ps sp) (hr : RoomH k X.A) (hp : p ∈ X.pn) (hb : Binds X.K fd ps []) (hx : PassesAt CX X σ (E σ))
    (I : Inv X pins σ H s) (r : Vals vs us) (h : sp p vs H Q (E σ)) : wpAny (model X.prog X.w) X.A (call (.ref f) us) (EP X pins σ Q) X.xe s := by
  have hl : us.length = ps.length := by rw [← r.length]; exact F.len _ _ _ _ _ h
  have b := hb s us I.kIn (by rw [List.append_nil]; exact hl)
  rw [List.append_nil] at b
  have P1 := I.pin p (List.mem_append_left _ hp)
  have hpin : PinOk X.stack H s p := ⟨P1.1, P1.2.1, fun hm => (List.mem_cons.mp (I.stkSub p.1 hm)).elim P1.2.2.1 P1.2.2.2.1, P1.2.2.2.2⟩
  refine wpAny_call (codeAny_mono (F.run X.A X.stack s H ⟨us, []⟩ us vs Q (E σ) p hr hpin I.env0 b r h) fun r s' hq => ?_)
  match r, hq with
  | .error e, hq => exact hx pins H s e s' I hq
  | .ok (.ret u), hq => exact I.after hq
  | .ok .next, hq => exact False.elim hq
  | .ok .brk, hq => exact False.elim hq
  | .ok .cont, hq => exact False.elim hq
theorem pe_callW (F : FnW X.prog X.w X.K X.mg X.base CX k f fd ps sp) (hr : RoomH k X.A) (hp : p ∈ X.pn) (hg : Gl X x) (hm : X.mg x = some (.ref f)) (hk : PySem.W.keepIn X.K (.ref f) = true) (hb : Binds X.K fd ps []) (hx : ∀ σ, PassesAt CX X σ (E σ))
    (ha : PA X (e :: es) t) (hdb : (x == ("__debug__" : Str)) = false := by decide) (he : starEach (e :: es) X.env = (false, eval e X.env) :: starEach es X.env := by rfl) (hpl : (backTo pos (starEach es X.env)).any (·.1) = false := by rfl) :
    PE X (.Call (.Name x q) (e :: es) [] pos) (tCallS (sp p) E t) := by
  refine ⟨fun pins s σ H Q I h => wpAny_Call_Name_kw (ld_glob I hg hm ?_ hdb)⟩
  exact PySem.W.callWith_K (h₀ := X.base) I.ok.mod.kin hk (thn (ha.run pos pins s σ H _ I h) fun us s1 ⟨vs, H1, I1, r, q⟩ => ⟨I1.kIn, run_fnW F hr hp hb (hx σ) I1 r q⟩) he hpl
end
/-- a def that lets nothing out: its body's rule -/
theorem Fun_okW {P : Program} {w : World} {K : PySem.W.Frag} {mg : Str → Option Value} {base : Heap} {x qual : Str} {st : Stmt} {f : Addr} {fd : FuncData} {N ps : List Str} {k : Nat} {sp : Addr × Obj → Sp} (F : Fun K x qual st f fd) (S : FnScope N ps (defScope st)) (len : ∀ p vs H Q E, sp p vs H Q E → vs.length = ps.length)
    (hbody : ∀ (cdv : Value) (A : Around) (outer : List Env) (s : Shared) (H : Hp) (vs : List V) (Q : VK) (E : XK) (p : Addr × Obj), RoomH k (A.deeper (envOfC qual (defScope st) s.heap.objs.size f cdv)) → sp p vs H Q E →
      ∃ t, PSs (cxH CX0 P w K mg base N qual (defScope st) f cdv A outer s H E p).nox (defBody st) t ∧ t { nx := fun _ H' => Q .non H', rt := Q } (L2.start N vs) H) : FnW P w K mg base CX0 (k + 1) f fd ps sp := by
  obtain ⟨oc, od, kV, doc, pm, an, cdv, ct, osl, rfl, lk, hcd⟩ := F.ex
  refine fn_ofW lk hcd S len fun A outer s H vs Q E p hr hsp => ?_
  obtain ⟨t, h, q⟩ := hbody cdv A outer s H vs Q E p hr hsp
  exact ⟨t, h.nox, q⟩
theorem passA0 {X : Cx} {σ : L2.St} {E : XK} : PassesAt CX0 X σ E := fun _ _ _ _ _ _ h => h.elim
end SI
set_option maxRecDepth 100000
set_option maxHeartbeats 4000000
/-! enumerate(t), t a tuple -/
namespace SI
open PySem PySem.Spec PyProof.Rows L2
theorem enumT_meets {v : Value} {o : Obj} {H : Heap → Prop} (B : Begins v o H) :
    Meets (Builtin.«enumerate.__new__» ⟨[.type "enumerate", v], []⟩) (fun _ R s => H s.heap ∧
      R (.ok (.ret (.ref (s.heap.push o).objs.size))) { s with heap := (s.heap.push o).push { cls := .type "enumerate", data := .fields #[.none, .bool false, .ref s.heap.objs.size, rawInt 0, .none, .none] } }) :=
  .of_wp fun prog w A R s h => by
    obtain ⟨hp, g, d, tk, os⟩ := s
    have hsub := sub_enumerate
    have q1 : ∀ {A' : Around} {E : Value → Shared → Prop} {Q : Value → Shared → Prop}, Q (.ref hp.objs.size) ⟨hp.push o, g, d, tk, os⟩ → wpAny (model prog w) A' (pyIter v) Q E ⟨hp, g, d, tk, os⟩ :=
      fun q => B.iter prog w _ _ ⟨hp, g, d, tk, os⟩ _ h.1 q
    wp_walk using q1
    refine wpAny_stack_any fun st => wpAny_pure ?_
    split
    · rename_i c _ _ _ _ _
      cases (c == Value.type "enumerate") <;> (wp_walk using q1) <;> exact ⟨_, rfl, h.2⟩
    · wp_walk using q1
      exact ⟨_, rfl, h.2⟩
theorem enumT_call {prog : Program} {w : World} {A : Around} {E : Value → Shared → Prop} {s : Shared} {v : Value} {o : Obj} {H : Heap → Prop} {Q : Value → Shared → Prop} (B : Begins v o H) (h1 : H s.heap)
    (h : ∀ h', IsEnum h' (s.heap.objs.size + 1) s.heap.objs.size 0 .none → h'.get? s.heap.objs.size = some o → (∀ b o, s.heap.get? b = some o → h'.get? b = some o) → Q (.ref (s.heap.objs.size + 1)) { s with heap := h' }) :
    wpAny (model prog w) A (call (.type "enumerate") [v]) Q E s := by
  refine callType_new F.called_enumerate (by decide) (F.typeCall_enumerate_1 _) (F.newCall_enumerate_1 _) (fun obj => F.args_object_init_2 obj _) F.entry_enumerate_new (enumT_meets B) ⟨h1, ?_⟩
  have hz : (s.heap.push o).objs.size = s.heap.objs.size + 1 := Heap.size_push ..
  have he := Heap.get?_push_size (s.heap.push o) (o := { cls := .type "enumerate", data := .fields #[.none, .bool false, .ref s.heap.objs.size, rawInt 0, .none, .none] }) rfl
  rw [hz] at he
  show _ ∧ _
  rw [hz]
  exact ⟨⟨_, he, rfl⟩, h _ he (Heap.get?_push_of_some _ (Heap.get?_push_size _ B.free)) fun b o x => Heap.get?_push_of_some _ (Heap.get?_push_of_some _ x)⟩
/-- the tuple at a as it stands at each turn, each item in a new pair -/
def IteT (K : PySem.W.Frag) (a : Addr) : It :=
  ⟨fun i H => ∃ (xs : List V) (x : V), SqT K H a xs ∧ xs[i]? = some x, fun i H v H' => ∃ T x, v = .ref T ∧ H T = none ∧ H' = upd H T (.tup [.int (i : Nat), x]) ∧ ∀ xs, SqT K H a xs → xs[i]? = some x, fun i H => ∃ xs : List V, SqT K H a xs ∧ xs.length = i⟩
theorem turn_enumT {P : Program} {w : World} {K : PySem.W.Frag} {elts : List Expr} {kk : Nat} {tpos : Pos} (a e it : Addr) :
    Turn P w K (.Tuple elts kk tpos) (IteT K a) [e, it] e (fun i h => (∃ old, IsEnum h e it ((i : Nat) : Int) old) ∧ h.IsTupleIter it a i ∧ e ≠ it ∧ a ≠ it ∧ a ≠ e) where
  mem := by simp
  obj := fun i h st b hb => by
    obtain ⟨⟨old, he⟩, ⟨o, ho, hc, hd⟩, _⟩ := st
    have e' : b = e ∨ b = it := by simpa using hb
    rcases e' with z | z
    · rw [z]; exact ⟨_, he, fun v q => nomatch q⟩
    · rw [z]; exact ⟨o, ho, fun v q => by rw [hd] at q; cases q⟩
  keep := fun i h h' st k => let ⟨⟨old, he⟩, hi, hne⟩ := st; ⟨⟨old, k e (by simp) _ he⟩, hi.at fun o q => k it (by simp) o q, hne⟩
  item := by
    intro X hP hw hK hc i pins s σ H E I hf st hg
    subst hP hw hK
    obtain ⟨⟨old, he⟩, hit, hne, hai, hae⟩ := st
    obtain ⟨xs, x, hq, hx⟩ := hg
    obtain ⟨its, rv, p, hz⟩ := I.tuple hq
    obtain ⟨u, hu, ru⟩ := rv.get hx
    have hlt : i < its.toArray.size := by
      have := (List.getElem?_eq_some_iff.mp hu).1
      simpa using this
    have hel : e < s.heap.objs.size := Heap.lt_size he
    have hil : it < s.heap.objs.size := by obtain ⟨_, q, _⟩ := hit; exact Heap.lt_size q
    have pt : s.heap.IsTuple a its.toArray := p
    have D : Draws X.prog X.w X.A.in1 it [it, a] its.toArray.size (fun i v => its.toArray[i]? = some v) (fun i h => h.IsTupleIter it a i ∧ h.IsTuple a its.toArray) := Draws.tuple (show X.A.in1.handled = none from I.ok.hd hc) it a hai its.toArray
    refine wpAny_pyNext_enum_itemD D he ⟨hit, pt⟩ hlt hne (by simp [hne, Ne.symm hae]) fun y h' tk hy ho hst' hT hsz hk => ?_
    have ey : y = u := by
      have e1 : its.toArray[i]? = some u := by simpa using hu
      have e2 : its.toArray[i]? = some y := hy
      rw [e1] at e2
      exact (Option.some.inj e2).symm
    subst ey
    refine ⟨_, rfl, wpAny_letOwnedTupleGo_enum (s := { s with heap := h', toks := tk + 1 }) ho fun h'' he' sb => ?_⟩
    have hT2 : h''.get? s.heap.objs.size = some { cls := .type "tuple", data := .seq #[.int i tk, y] } := (sb.2 _ (Nat.ne_of_gt hel)).trans hT
    have new : ObjOk X.prog X.w (upd H s.heap.objs.size (.tup [.int (i : Nat), x])) h'' s.heap.objs.size (.tup [.int (i : Nat), x]) :=
      ⟨by show 2 ≤ sizeLine; decide, [.int i tk, y], .cons ⟨_, rfl⟩ (.cons ru .nil), ⟨_, hT2, rfl, _, rfl⟩⟩
    have I1 : Inv X pins σ (upd H s.heap.objs.size (.tup [.int (i : Nat), x])) { s with heap := h'', toks := tk + 1 } :=
      I.turnedNew (ch := [e, it]) (fun b o hb q => (sb.2 b (fun z => hb (by simp [z]))).trans (hk b o (fun z => hb (by simp [z])) (fun z => hb (by simp [z])) q)) hf (Nat.le_refl _) new
    refine ⟨.ref s.heap.objs.size, _, I1, rfl, ⟨_, x, rfl, I.hok.fresh (Nat.le_refl _), rfl, fun ys hy => by rw [I.tuple_inj hy hq]; exact hx⟩, ⟨⟨y, ?_⟩, hst'.1.at fun o q => (sb.2 it (Ne.symm hne)).trans q, hne, hai, hae⟩, fun b hb => ?_⟩
    · have e1 : ((i + 1 : Nat) : Int) = (i : Int) + 1 := by omega
      rw [e1]; exact he'
    · have hb' : b < s.heap.objs.size := by
        have e' : b = e ∨ b = it := by simpa using hb
        rcases e' with z | z <;> rw [z]
        · exact hel
        · exact hil
      rw [upd_ne (Nat.ne_of_lt hb')]
      exact (hf b hb).1
  done := by
    intro X hP hw hK hc i pins s σ H E I hf st hg
    subst hP hw hK
    obtain ⟨⟨old, he⟩, hit, hne, hai, hae⟩ := st
    obtain ⟨xs, hq, hx⟩ := hg
    obtain ⟨its, rv, p, hz⟩ := I.tuple hq
    have pt : s.heap.IsTuple a its.toArray := p
    obtain ⟨f0, f1, f2, f3, f4, f5⟩ := hf it (by simp)
    have hl : xs.length = its.length := rv.length
    have hi : i = its.toArray.size := by rw [List.size_toArray, ← hl, hx]
    subst hi
    have D : Draws X.prog X.w X.A.in1 it [it, a] its.toArray.size (fun i v => its.toArray[i]? = some v) (fun i h => h.IsTupleIter it a i ∧ h.IsTuple a its.toArray) := Draws.tuple (show X.A.in1.handled = none from I.ok.hd hc) it a hai its.toArray
    exact wpAny_pyNext_enum_endD D he ⟨hit, pt⟩ fun h' eb => ⟨rfl, I.turned (t' := s.toks) (fun b o hb q => eb b o hb q) f0 f1 f3 f4 f5⟩
  self := fun A i s Q E st h => let ⟨⟨_, he⟩, _⟩ := st; wpAny_pyIter_enum he h
def iEnumT (K : PySem.W.Frag) (ta : TA) : TI := fun σ H R => ta σ H fun vs H1 => ∃ a xs, vs = [.ref a] ∧ SqT K H1 a xs ∧ R (IteT K a) H1
theorem pi_enumT {X : Cx} {e : Expr} {ta : TA} {p pos tpos : Pos} {elts : List Expr} {kk : Nat} (hg : Gl X "enumerate") (hm : X.mg "enumerate" = none) (ha : PA X [e] ta) (hs : starEach [e] X.env = [(false, eval e X.env)] := by rfl) :
    PI X (.Tuple elts kk tpos) (.Call (.Name "enumerate" p) [e] [] pos) (iEnumT X.K ta) := by
  refine ⟨fun pins s σ H R I h => Call_ (ld_blt I hg hm boot_enumerate (PyProof.Rows.callWith_type1 (thn (ha.run pos pins s σ H _ I h) fun us s1 ⟨vs, H1, I1, r1, q1⟩ => ?_) hs rfl))⟩
  obtain ⟨a, xs, ex, hq, q⟩ := q1
  subst ex
  cases r1 with
  | cons r rr =>
    cases rr
    cases r
    obtain ⟨its, rv, p', hz⟩ := I1.tuple hq
    have al : a < s1.heap.objs.size := by obtain ⟨o, ho, _⟩ := p'; exact Heap.lt_size ho
    refine enumT_call (begins_tuple a its.toArray) p' fun h' he hit hk => wpAny_pyIter_enum he ?_
    have I2 : Inv X pins σ H1 { s1 with heap := h' } := I1.kept (t' := s1.toks) hk
    refine ⟨s1.heap.objs.size + 1, [s1.heap.objs.size + 1, s1.heap.objs.size], _, _, H1, rfl, I2, turn_enumT a (s1.heap.objs.size + 1) s1.heap.objs.size, ⟨⟨.none, he⟩, ⟨_, hit, rfl, rfl⟩, Nat.succ_ne_self _, Nat.ne_of_lt al, Nat.ne_of_lt (Nat.lt_succ_of_lt al)⟩, fun b hb => ?_, q⟩
    have e' : b = s1.heap.objs.size + 1 ∨ b = s1.heap.objs.size := by simpa using hb
    have hle : s1.heap.objs.size ≤ b := e'.elim (fun z => by rw [z]; exact Nat.le_add_right _ _) fun z => by rw [z]; exact Nat.le_refl _
    exact I1.fpOk hle (I1.hok.fresh hle)
/-- a loop over enumerate(t) -/
theorem for_enumT {K : PySem.W.Frag} {a : Addr} {xs : List V} {g : TG} {tb : TS} {D : Ends} {σ : L2.St} {H : Hp} (Pv : Nat → L2.St → Hp → Prop) (h0 : Pv 0 σ H) (hq : ∀ i σ H, Pv i σ H → SqT K H a xs)
    (hs : ∀ (i : Nat) (x : V) (T : Addr) (σ : L2.St) (H : Hp), xs[i]? = some x → Pv i σ H → H T = none → g (.ref T) σ (upd H T (.tup [.int (i : Nat), x])) fun σ2 H2 => tb { D with nx := Pv (i + 1), ct := Pv (i + 1), bk := D.nx } σ2 H2) (hd : ∀ σ H, Pv xs.length σ H → D.nx σ H) :
    ∃ W : Nat → Nat → L2.St → Hp → Prop, (∃ m, W 0 m σ H) ∧ ∀ i m σ H, W i m σ H →
      ((IteT K a).stop i H ∧ D.nx σ H) ∨ ((IteT K a).go i H ∧ ∃ N : L2.St → Hp → Prop, (∀ σ' H', N σ' H' → ∃ m', m' < m ∧ W (i + 1) m' σ' H') ∧ ∀ v H', (IteT K a).yld i H v H' → g v σ H' fun σ2 H2 => tb { D with nx := N, ct := N, bk := D.nx } σ2 H2) := by
  refine ⟨fun i m σ H => m = xs.length - i ∧ i ≤ xs.length ∧ Pv i σ H, ⟨xs.length, rfl, Nat.zero_le _, h0⟩, ?_⟩
  rintro i m σ H ⟨rfl, hi, p⟩
  have qx := hq i σ H p
  by_cases hlt : i < xs.length
  · refine .inr ⟨⟨xs, _, qx, List.getElem?_eq_getElem hlt⟩, Pv (i + 1), fun σ' H' p' => ⟨xs.length - (i + 1), by omega, rfl, hlt, p'⟩, fun v H' y => ?_⟩
    obtain ⟨T, x', rfl, hT, rfl, f1⟩ := y
    exact hs i x' T σ H (f1 xs qx) p hT
  · obtain rfl : i = xs.length := by omega
    exact .inl ⟨⟨xs, qx, rfl⟩, hd σ H p⟩
end SI
set_option maxRecDepth 100000
set_option maxHeartbeats 4000000
/-! sum(t), t a tuple of ints -/
namespace SI
open PySem PySem.Spec PyProof.Rows L2
def rSumT (K : PySem.W.Frag) : List V → Hp → VK → Prop := fun vs H Q => ∃ (a : Addr) (ns : List Int), vs = [V.ref a] ∧ SqT K H a (ns.map V.int) ∧ Q (.int ns.sum) H
theorem cr_sumT {X : Cx} (hc : X.calm = true) : CallR X (.builtin "sum") (rSumT X.K) := by
  intro pins s σ H vs us Q I r h
  obtain ⟨a, ns, rfl, hs, q⟩ := h
  obtain ⟨its, rv, hl, _⟩ := I.tuple hs
  rw [Vals.ref1 r]
  have hi := rv.ints
  obtain ⟨xs, e⟩ := hi.allInts.items
  have hn : numsOf (intItems xs).toList = ns := by rw [← e]; exact hi.numsOf
  rw [nums_intItems] at hn
  have hl' : s.heap.IsTuple a (intItems xs) := e ▸ (show s.heap.IsTuple a its.toArray from hl)
  refine PySem.W.ktm_sumG (I.ok.hd hc) hl' fun h' tk t' hk => ?_
  rw [preSum_eq, List.take_of_length_le (by simp), hn]
  exact ⟨.int _, H, I.kept hk, ⟨_, rfl⟩, q⟩
end SI
namespace SI
open PySem L2
/-- a loop over enumerate(list) -/
theorem for_enumL {K : PySem.W.Frag} {a : Addr} {xs : List V} {g : TG} {tb : TS} {D : Ends} {σ : L2.St} {H : Hp} (Pv : Nat → L2.St → Hp → Prop) (h0 : Pv 0 σ H) (hq : ∀ i σ H, Pv i σ H → SqL K H a xs)
    (hs : ∀ (i : Nat) (x : V) (T : Addr) (σ : L2.St) (H : Hp), xs[i]? = some x → Pv i σ H → H T = none → g (.ref T) σ (upd H T (.tup [.int (i : Nat), x])) fun σ2 H2 => tb { D with nx := Pv (i + 1), ct := Pv (i + 1), bk := D.nx } σ2 H2) (hd : ∀ σ H, Pv xs.length σ H → D.nx σ H) :
    ∃ W : Nat → Nat → L2.St → Hp → Prop, (∃ m, W 0 m σ H) ∧ ∀ i m σ H, W i m σ H →
      ((Ite K a).stop i H ∧ D.nx σ H) ∨ ((Ite K a).go i H ∧ ∃ N : L2.St → Hp → Prop, (∀ σ' H', N σ' H' → ∃ m', m' < m ∧ W (i + 1) m' σ' H') ∧ ∀ v H', (Ite K a).yld i H v H' → g v σ H' fun σ2 H2 => tb { D with nx := N, ct := N, bk := D.nx } σ2 H2) := by
  refine ⟨fun i m σ H => m = xs.length - i ∧ i ≤ xs.length ∧ Pv i σ H, ⟨xs.length, rfl, Nat.zero_le _, h0⟩, ?_⟩
  rintro i m σ H ⟨rfl, hi, p⟩
  have qx := hq i σ H p
  by_cases hlt : i < xs.length
  · refine .inr ⟨⟨xs, _, qx, List.getElem?_eq_getElem hlt⟩, Pv (i + 1), fun σ' H' p' => ⟨xs.length - (i + 1), by omega, rfl, hlt, p'⟩, fun v H' y => ?_⟩
    obtain ⟨T, x', rfl, hT, rfl, f1⟩ := y
    exact hs i x' T σ H (f1 xs qx) p hT
  · exact .inl ⟨⟨xs, qx, by omega⟩, hd σ H (by rw [show xs.length = i by omega]; exact p)⟩
end SI
namespace SI
open PySem L2
/-- a comprehension over enumerate(t) -/
theorem lc_enumT {K : PySem.W.Frag} {a : Addr} {xs : List V} {g : TG} {tt : TT} {te : TE} {vs : List Nat} {σ : L2.St} {H1 : Hp} {D : Addr} {Qd : Hp → Prop} (Pv : Nat → Hp → Prop) (h0 : Pv 0 (upd H1 D (.lst []))) (hl : ∀ i H, Pv i H → SqT K H a xs)
    (hs : ∀ (i : Nat) (x : V) (T : Addr) (H : Hp), xs[i]? = some x → Pv i H → H T = none → g (.ref T) (wipe σ vs) (upd H T (.tup [.int (i : Nat), x])) fun σ2 H2 => wipe σ2 vs = wipe σ vs ∧ tt σ2 H2 fun b H3 =>
      if b = true then te σ2 H3 fun y H4 => ∃ acc, H4 D = some (.lst acc) ∧ acc.length < sizeLine ∧ Pv (i + 1) (upd H4 D (.lst (acc ++ [y]))) else Pv (i + 1) H3) (hd : ∀ H, Pv xs.length H → Qd H) :
    ∃ W : Nat → Nat → Hp → Prop, (∃ m, W 0 m (upd H1 D (.lst []))) ∧ ∀ i m H, W i m H →
      ((IteT K a).stop i H ∧ Qd H) ∨ ((IteT K a).go i H ∧ ∃ Nx : Hp → Prop, (∀ H', Nx H' → ∃ m', m' < m ∧ W (i + 1) m' H') ∧ ∀ x H', (IteT K a).yld i H x H' → g x (wipe σ vs) H' fun σ2 H2 => wipe σ2 vs = wipe σ vs ∧ tt σ2 H2 fun b H3 =>
        if b = true then te σ2 H3 fun y H4 => ∃ acc, H4 D = some (.lst acc) ∧ acc.length < sizeLine ∧ Nx (upd H4 D (.lst (acc ++ [y]))) else Nx H3) := by
  refine ⟨fun i m H => m = xs.length - i ∧ i ≤ xs.length ∧ Pv i H, ⟨xs.length, rfl, Nat.zero_le _, h0⟩, ?_⟩
  rintro i m H ⟨rfl, hi, p⟩
  have qx := hl i H p
  by_cases hlt : i < xs.length
  · refine .inr ⟨⟨xs, _, qx, List.getElem?_eq_getElem hlt⟩, Pv (i + 1), fun H' p' => ⟨xs.length - (i + 1), by omega, rfl, hlt, p'⟩, fun v H' y => ?_⟩
    obtain ⟨T, x', rfl, hT, rfl, f1⟩ := y
    exact hs i x' T H (f1 xs qx) p hT
  · obtain rfl : i = xs.length := by omega
    exact .inl ⟨⟨xs, qx, rfl⟩, hd H p⟩
end SI
set_option maxRecDepth 100000
set_option maxHeartbeats 4000000
/-! defs, methods, classes under their names; what they let out is wished for at the caller's slots -/
namespace SI
open PySem PySem.Spec PyProof.Rows L2
/-- a def that lets nothing out, as one that may -/
theorem ok0X {P : Program} {w : World} {K : PySem.W.Frag} {mg : Str → Option Value} {base : Heap} {k : Nat} {f : Addr} {fd : FuncData} {ps : List Str} {sp : Sp} (F : FnOk P w K mg base CX0 k f fd ps sp) : FnOk P w K mg base (L2.CX P w) k f fd ps sp :=
  ⟨F.len, fun A outer s H args us vs Q E hr e0 hb r h => codeAny_mono (F.run A outer s H args us vs Q E hr e0 hb r h) fun res s' z => match res, z with
    | .ok (.ret _), z => z
    | .ok .next, z => z
    | .ok .brk, z => z
    | .ok .cont, z => z
    | .error _, z => False.elim z⟩
structure Cl (P : Program) (w : World) (K : PySem.W.Frag) (mg : Str → Option Value) (base : Heap) (k : Nat) (x : Str) (sp : Sp) (dvs : List V) : Prop where
  ex : ∃ (f : Addr) (fd : FuncData) (ps : List Str) (ds : List Value), FnOk P w K mg base (L2.CX P w) k f fd ps sp ∧ mg x = some (.ref f) ∧ PySem.W.keepIn K (.ref f) = true ∧ Binds K fd ps ds ∧ Vals dvs ds
structure Mt (P : Program) (w : World) (K : PySem.W.Frag) (mg : Str → Option Value) (base : Heap) (k : Nat) (C : Addr) (m : Str) (sp : Sp) (dvs : List V) : Prop where
  ex : ∃ (f : Addr) (fd : FuncData) (ps : List Str) (ds : List Value), Cls K C ∧ Meth K C m f ∧ FnOk P w K mg base (L2.CX P w) k f fd ps sp ∧ Binds K fd ps ds ∧ Vals dvs ds
structure Mkr (P : Program) (w : World) (K : PySem.W.Frag) (mg : Str → Option Value) (base : Heap) (k : Nat) (x : Str) (C : Addr) (sp : Sp) (dvs : List V) : Prop where
  ex : ∃ (f : Addr) (fd : FuncData) (ps : List Str) (ds : List Value), Mk K C f ∧ FnOk P w K mg base (L2.CX P w) k f fd ps sp ∧ mg x = some (.ref C) ∧ Binds K fd ps ds ∧ Vals dvs ds
def tMethS (C : Addr) (m : Str) (sp : Sp) (dvs : List V) (E : L2.St → XK) (ta : TE) (t : TA) : TE := fun σ H Q => ta σ H fun x H1 => ∃ a dx fs, x = .ref a ∧ H1 a = some (.ins C dx fs) ∧ fs.lookup m = none ∧
  t σ H1 fun vs H2 => sp (x :: (vs ++ dvs)) H2 Q (E σ)
def tMakeS (C : Addr) (sp : Sp) (dvs : List V) (E : L2.St → XK) (t : TA) : TE := fun σ H Q => t σ H fun vs H1 => ∀ x dx, H1 x = none → H1 dx = none → dx ≠ x →
  sp (.ref x :: (vs ++ dvs)) (upd (upd H1 dx (.own x)) x (.ins C dx [])) (fun v H2 => v = .non ∧ Q (.ref x) H2) (E σ)
section
variable {X : Cx} {k j : Nat} {f C : Addr} {x m : Str} {sp : Sp} {dvs : List V} {p pos apos : Pos} {e o : Expr} {es : List Expr} {ta : TE} {t : TA} {W : WX}
/-! nothing comes out here -/
theorem pe_c (c : Cl X.prog X.w X.K X.mg X.base k x sp dvs) (hr : Room j X.A) (hk : k ≤ j) (hg : Gl X x) (ha : PA X (e :: es) t)
    (hdb : (x == ("__debug__" : Str)) = false := by decide) (he : starEach (e :: es) X.env = (false, eval e X.env) :: starEach es X.env := by rfl) (hpl : (backTo pos (starEach es X.env)).any (·.1) = false := by rfl) :
    PE X (.Call (.Name x p) (e :: es) [] pos) (tCall sp dvs E0 t) := by
  obtain ⟨f, fd, ps, ds, F, hm, kp, b, d⟩ := c.ex
  exact pe_call F (hr.mono hk) hg hm kp b d passL ha hdb he hpl
theorem pe_c0 (c : Cl X.prog X.w X.K X.mg X.base k x sp dvs) (hr : Room j X.A) (hk : k ≤ j) (hg : Gl X x) (hdb : (x == ("__debug__" : Str)) = false := by decide) : PE X (.Call (.Name x p) [] [] pos) (tCall sp dvs E0 tNil) := by
  obtain ⟨f, fd, ps, ds, F, hm, kp, b, d⟩ := c.ex
  exact pe_call0 F (hr.mono hk) hg hm kp b d passL hdb
theorem pe_mk (c : Mkr X.prog X.w X.K X.mg X.base k x C sp dvs) (hr : Room j X.A) (hk : k + 1 ≤ j) (hg : Gl X x) (ha : PA X (e :: es) t)
    (hdb : (x == ("__debug__" : Str)) = false := by decide) (he : starEach (e :: es) X.env = (false, eval e X.env) :: starEach es X.env := by rfl) (hpl : (backTo pos (starEach es X.env)).any (·.1) = false := by rfl) :
    PE X (.Call (.Name x p) (e :: es) [] pos) (tMake C sp dvs E0 t) := by
  obtain ⟨f, fd, ps, ds, M, F, hm, b, d⟩ := c.ex
  exact pe_make M F (hr.mono hk) hg hm b d passL ha hdb he hpl
theorem pe_mt {pl : Sem Bool} (c : Mt X.prog X.w X.K X.mg X.base k C m sp dvs) (hr : Room j X.A) (hk : k ≤ j) (he : PE X o ta) (ha : PA X (e :: es) t)
    (hst : starEach (e :: es) X.env = (false, eval e X.env) :: starEach es X.env := by rfl) (hpl : (backTo pos (starEach es X.env)).any (·.1) = false := by rfl)
    (ht : eval (.Call (.Attribute o m apos) (e :: es) [] pos) X.env = (do
      let ov ← eval o X.env
      standAt apos.atName
      let (f, first) ← holding [ov] (getMethod ov m pl)
      callWith pos f first (backTo pos (starEach (e :: es) X.env)) (backToKw pos (keywordEach [] X.env))) := by rfl) :
    PE X (.Call (.Attribute o m apos) (e :: es) [] pos) (tMeth C m sp dvs E0 ta t) := by
  obtain ⟨f, fd, ps, ds, hc, hm, F, b, d⟩ := c.ex
  exact pe_meth (pl := pl) he hc hm F (hr.mono hk) b d passL ha hst hpl ht
theorem pe_mt0 {pl : Sem Bool} (c : Mt X.prog X.w X.K X.mg X.base k C m sp dvs) (hr : Room j X.A) (hk : k ≤ j) (he : PE X o ta)
    (ht : eval (.Call (.Attribute o m apos) [] [] pos) X.env = (do
      let ov ← eval o X.env
      standAt apos.atName
      let (f, first) ← holding [ov] (getMethod ov m pl)
      callWith pos f first (backTo pos (starEach [] X.env)) (backToKw pos (keywordEach [] X.env))) := by rfl) :
    PE X (.Call (.Attribute o m apos) [] [] pos) (tMeth C m sp dvs E0 ta tNil) := by
  obtain ⟨f, fd, ps, ds, hc, hm, F, b, d⟩ := c.ex
  exact pe_meth0 (pl := pl) he hc hm F (hr.mono hk) b d passL ht
/-- int(i), i an int -/
theorem call_intI : CallR X (.type "int") (fun xs H Q => ∃ i, xs = [.int i] ∧ Q (.int i) H) := fun pins s σ H xs us Q I r h => call_int1 pins s σ H xs us Q I r (.inl h)
/-! errors come out: W is wished -/
theorem pe_cX (tk : Takes X W) (c : Cl X.prog X.w X.K X.mg X.base k x sp dvs) (hr : Room j X.A) (hk : k ≤ j) (hg : Gl X x) (ha : PA X (e :: es) t)
    (hdb : (x == ("__debug__" : Str)) = false := by decide) (he : starEach (e :: es) X.env = (false, eval e X.env) :: starEach es X.env := by rfl) (hpl : (backTo pos (starEach es X.env)).any (·.1) = false := by rfl) :
    PE X (.Call (.Name x p) (e :: es) [] pos) (tCallSD sp dvs (WE W) t) := by
  obtain ⟨f, fd, ps, ds, F, hm, kp, b, d⟩ := c.ex
  exact pe_callSD F (hr.mono hk) hg hm kp b d (fun σ => passAt tk σ) ha hdb he hpl
theorem run_mkS {pins : List (Addr × Obj)} {σ : L2.St} {H : Hp} {s : Shared} {Q : VK} {us : List Value} {vs : List V} {fd : FuncData} {ps : List Str} {ds : List Value} {E : XK} (M : Mk X.K C f) (F : FnOk X.prog X.w X.K X.mg X.base (L2.CX X.prog X.w) k f fd ps sp) (hr : Room (k + 1) X.A) (hb : Binds X.K fd ps ds) (hd : Vals dvs ds)
    (hx : PassesAt (L2.CX X.prog X.w) X σ E) (I : Inv X pins σ H s) (r : Vals vs us)
    (h : ∀ x dx, H x = none → H dx = none → dx ≠ x → sp (.ref x :: (vs ++ dvs)) (upd (upd H dx (.own x)) x (.ins C dx [])) (fun v H2 => v = .non ∧ Q (.ref x) H2) E) :
    wpAny (model X.prog X.w) X.A (call (.ref C) us) (EP X pins σ Q) X.xe s := by
  have hq := h (s.heap.objs.size + 1) s.heap.objs.size (I.hok.fresh (Nat.le_succ _)) (I.hok.fresh (Nat.le_refl _)) (Nat.ne_of_lt (Nat.lt_succ_self _))
  have I2 := Inv.made (C := C) I
  have r2 : Vals (V.ref (s.heap.objs.size + 1) :: (vs ++ dvs)) (Value.ref (s.heap.objs.size + 1) :: (us ++ ds)) := .cons rfl (r.append hd)
  have hl : (Value.ref (s.heap.objs.size + 1) :: us ++ ds).length = ps.length := (r2.length.symm.trans (F.len _ _ _ _ hq) : _)
  refine wpAny_call (make_map (f := f) I.kIn M.makes M.init (beq_iff_eq.mp M.fn) (codeAny_mono (F.run _ X.stack _ _ ⟨Value.ref (s.heap.objs.size + 1) :: us, []⟩ (Value.ref (s.heap.objs.size + 1) :: (us ++ ds)) _ _ E (hr.make C us [])
    (I2.env0.make C us []) (hb _ (Value.ref (s.heap.objs.size + 1) :: us) I2.kIn hl) r2 hq) fun r s' hq' => ?_))
  match r, hq' with
  | .error e, hq' => exact hx pins _ _ e s' I2 hq'
  | .ok (.ret u), hq' =>
    obtain ⟨v, H', I3, rv, ev, q3⟩ := I2.after hq'
    subst ev
    exact ⟨rv, ⟨V.ref (s.heap.objs.size + 1), H', I3, rfl, q3⟩⟩
  | .ok .next, hq' => exact False.elim hq'
  | .ok .brk, hq' => exact False.elim hq'
  | .ok .cont, hq' => exact False.elim hq'
theorem pe_mkX (tk : Takes X W) (c : Mkr X.prog X.w X.K X.mg X.base k x C sp dvs) (hr : Room j X.A) (hk : k + 1 ≤ j) (hg : Gl X x) (ha : PA X (e :: es) t)
    (hdb : (x == ("__debug__" : Str)) = false := by decide) (he : starEach (e :: es) X.env = (false, eval e X.env) :: starEach es X.env := by rfl) (hpl : (backTo pos (starEach es X.env)).any (·.1) = false := by rfl) :
    PE X (.Call (.Name x p) (e :: es) [] pos) (tMakeS C sp dvs (WE W) t) := by
  obtain ⟨f, fd, ps, ds, M, F, hm, b, d⟩ := c.ex
  exact ⟨fun pins s σ H Q I h => wpAny_Call_Name_kw (ld_glob I hg hm (PySem.W.callWith_K (h₀ := X.base) I.ok.mod.kin M.kp (thn (ha.run pos pins s σ H _ I h) fun us s1 ⟨vs, H1, I1, r, q⟩ => ⟨I1.kIn, run_mkS M F (hr.mono hk) b d (passAt tk σ) I1 r q⟩) he hpl) hdb)⟩
theorem pe_mtX {pl : Sem Bool} (tk : Takes X W) (c : Mt X.prog X.w X.K X.mg X.base k C m sp dvs) (hr : Room j X.A) (hk : k ≤ j) (he : PE X o ta) (ha : PA X (e :: es) t)
    (hst : starEach (e :: es) X.env = (false, eval e X.env) :: starEach es X.env := by rfl) (hpl : (backTo pos (starEach es X.env)).any (·.1) = false := by rfl)
    (ht : eval (.Call (.Attribute o m apos) (e :: es) [] pos) X.env = (do
      let ov ← eval o X.env
      standAt apos.atName
      let (f, first) ← holding [ov] (getMethod ov m pl)
      callWith pos f first (backTo pos (starEach (e :: es) X.env)) (backToKw pos (keywordEach [] X.env))) := by rfl) :
    PE X (.Call (.Attribute o m apos) (e :: es) [] pos) (tMethS C m sp dvs (WE W) ta t) := by
  obtain ⟨f, fd, ps, ds, hc, hm, F, b, d⟩ := c.ex
  refine ⟨fun pins s σ H Q I h => PySem.W.methodCall_KW (pl := pl) (thn (he.run pins s σ H _ I h) fun u s1 ⟨x, H1, I1, rx, a, dx, fs, ex, ea, l, q⟩ => ?_) ht⟩
  subst ex
  obtain rfl : u = Value.ref a := rx
  exact getmeth_ok I1 ea hc hm l (PySem.W.callWith_K (first := [.ref a]) (h₀ := X.base) I.ok.mod.kin hm.kp (thn (ha.run pos pins s1 σ H1 _ I1 q) fun us s2 ⟨vs, H2, I2, r, q2⟩ => ⟨I2.kIn, run_fnSD (us := .ref a :: us) (vs := .ref a :: vs) F (hr.mono hk) b d (passAt tk σ) I2 (.cons rfl r) q2⟩) hst hpl)
end
end SI
set_option maxRecDepth 100000
set_option maxHeartbeats 4000000
/-! what the top has written, a thing at a time -/
namespace SI
open PySem PySem.Spec PyProof.Rows L2 NdefX
section
variable {P : Program} {w : World} {K : PySem.W.Frag} {mg : Str → Option Value} {base : Heap}
structure DefAt (K : PySem.W.Frag) (mg : Str → Option Value) (x : Str) (st : Stmt) (ps : List Str) : Prop where
  ex : ∃ (f : Addr) (fd : FuncData), Fun K x x st f fd ∧ mg x = some (.ref f) ∧ Binds K fd ps []
structure MetAt (K : PySem.W.Frag) (C : Addr) (m qual : Str) (st : Stmt) (ps : List Str) : Prop where
  ex : ∃ (f : Addr) (fd : FuncData), Cls K C ∧ Meth K C m f ∧ Fun K m qual st f fd ∧ Binds K fd ps []
structure MakAt (K : PySem.W.Frag) (mg : Str → Option Value) (x : Str) (C : Addr) (qual : Str) (st : Stmt) (ps : List Str) : Prop where
  ex : ∃ (f : Addr) (fd : FuncData), Mk K C f ∧ Fun K "__init__" qual st f fd ∧ mg x = some (.ref C) ∧ Binds K fd ps []
theorem cl_of {x : Str} {st : Stmt} {N ps : List Str} {k : Nat} {sp : Sp} (D : DefAt K mg x st ps) (S : FnScope N ps (defScope st)) (len : ∀ vs H Q E, sp vs H Q E → vs.length = ps.length)
    (hbody : ∀ (f : Addr) (cdv : Value) (A : Around) (outer : List Env) (s : Shared) (H : Hp) (vs : List V) (Q : VK) (E : XK), Room k (A.deeper (envOfC x (defScope st) s.heap.objs.size f cdv)) → sp vs H Q E →
      ∃ t, PSs (cxOf (L2.CX P w) P w K mg base N x (defScope st) f cdv A outer s H E) (defBody st) t ∧ t { nx := fun _ H' => Q .non H', rt := Q } (L2.start N vs) H) : Cl P w K mg base (k + 1) x sp [] := by
  obtain ⟨f, fd, F, hm, b⟩ := D.ex
  exact ⟨f, fd, ps, [], F.okX S len (hbody f), hm, F.kp, b, .nil⟩
theorem mt_of {m qual : Str} {C : Addr} {st : Stmt} {N ps : List Str} {k : Nat} {sp : Sp} (D : MetAt K C m qual st ps) (S : FnScope N ps (defScope st)) (len : ∀ vs H Q E, sp vs H Q E → vs.length = ps.length)
    (hbody : ∀ (f : Addr) (cdv : Value) (A : Around) (outer : List Env) (s : Shared) (H : Hp) (vs : List V) (Q : VK) (E : XK), Room k (A.deeper (envOfC qual (defScope st) s.heap.objs.size f cdv)) → sp vs H Q E →
      ∃ t, PSs (cxOf (L2.CX P w) P w K mg base N qual (defScope st) f cdv A outer s H E) (defBody st) t ∧ t { nx := fun _ H' => Q .non H', rt := Q } (L2.start N vs) H) : Mt P w K mg base (k + 1) C m sp [] := by
  obtain ⟨f, fd, c, me, F, b⟩ := D.ex
  exact ⟨f, fd, ps, [], c, me, F.okX S len (hbody f), b, .nil⟩
theorem mkr_of {x qual : Str} {C : Addr} {st : Stmt} {N ps : List Str} {k : Nat} {sp : Sp} (D : MakAt K mg x C qual st ps) (S : FnScope N ps (defScope st)) (len : ∀ vs H Q E, sp vs H Q E → vs.length = ps.length)
    (hbody : ∀ (f : Addr) (cdv : Value) (A : Around) (outer : List Env) (s : Shared) (H : Hp) (vs : List V) (Q : VK) (E : XK), Room k (A.deeper (envOfC qual (defScope st) s.heap.objs.size f cdv)) → sp vs H Q E →
      ∃ t, PSs (cxOf (L2.CX P w) P w K mg base N qual (defScope st) f cdv A outer s H E) (defBody st) t ∧ t { nx := fun _ H' => Q .non H', rt := Q } (L2.start N vs) H) : Mkr P w K mg base (k + 1) x C sp [] := by
  obtain ⟨f, fd, M, F, hm, b⟩ := D.ex
  exact ⟨f, fd, ps, [], M, F.okX S len (hbody f), hm, b, .nil⟩
/-- a def that is called by keywords, too -/
structure Cd (P : Program) (w : World) (K : PySem.W.Frag) (mg : Str → Option Value) (base : Heap) (k : Nat) (x : Str) (st : Stmt) (ps : List Str) (sp : Sp) : Prop where
  ex : ∃ (f : Addr) (fd : FuncData), FnOk P w K mg base (L2.CX P w) k f fd ps sp ∧ Fun K x x st f fd ∧ mg x = some (.ref f) ∧ Binds K fd ps []
theorem Cd.cl {k : Nat} {x : Str} {st : Stmt} {ps : List Str} {sp : Sp} (c : Cd P w K mg base k x st ps sp) : Cl P w K mg base k x sp [] := by
  obtain ⟨f, fd, F, Fn, hm, b⟩ := c.ex
  exact ⟨f, fd, ps, [], F, hm, Fn.kp, b, .nil⟩
theorem cd_of {x : Str} {st : Stmt} {N ps : List Str} {k : Nat} {sp : Sp} (D : DefAt K mg x st ps) (S : FnScope N ps (defScope st)) (len : ∀ vs H Q E, sp vs H Q E → vs.length = ps.length)
    (hbody : ∀ (f : Addr) (cdv : Value) (A : Around) (outer : List Env) (s : Shared) (H : Hp) (vs : List V) (Q : VK) (E : XK), Room k (A.deeper (envOfC x (defScope st) s.heap.objs.size f cdv)) → sp vs H Q E →
      ∃ t, PSs (cxOf (L2.CX P w) P w K mg base N x (defScope st) f cdv A outer s H E) (defBody st) t ∧ t { nx := fun _ H' => Q .non H', rt := Q } (L2.start N vs) H) : Cd P w K mg base (k + 1) x st ps sp := by
  obtain ⟨f, fd, F, hm, b⟩ := D.ex
  exact ⟨f, fd, F.okX S len (hbody f), F, hm, b⟩
/-- f(k = v, ..): ks the keywords in the call's order, gV puts their values in the parameters' order -/
def tK0 (m : Nat) (sp : Sp) (gV : List V → List V) (tk : TA) : TE := fun σ H Q => tk σ H fun zs H1 => zs.length = m ∧ sp (gV zs) H1 Q E0
theorem pe_cK0 {X : Cx} {k j : Nat} {x : Str} {st : Stmt} {ps ks : List Str} {sp : Sp} {p pos : Pos} {kws : List Keyword} {tk : TA} {g : {α : Type} → List α → List α} (c : Cd X.prog X.w X.K X.mg X.base k x st ps sp) (hr : Room j X.A) (hk : k ≤ j) (hg : Gl X x) (hkw : PK X kws tk)
    (hb : ∀ (kV doc pm : Value) (an : Option Addr) (cdv ct : Value) (ws : List Value), ws.length = ks.length → bindArgs (PySem.W.fnOf x x (defArgs st) (defBody st) (defScope st) .none kV doc pm an cdv ct) ⟨[], ks.zip ws⟩ = pure (ps.zip (g ws)))
    (hrel : ∀ {zs : List V} {ws : List Value}, Vals zs ws → Vals (g zs) (g ws))
    (hall : (backToKw pos (keywordEach kws X.env)).all (·.1.isSome) = true := by rfl) (hks : (backToKw pos (keywordEach kws X.env)).filterMap (·.1) = ks := by rfl)
    (hdb : (x == ("__debug__" : Str)) = false := by decide) (hpl : ((backTo pos (starEach [] X.env)).any (·.1) || (backToKw pos (keywordEach kws X.env)).any (·.1.isNone)) = false := by rfl) :
    PE X (.Call (.Name x p) [] kws pos) (tK0 ks.length sp g tk) := by
  obtain ⟨f, fd, F, Fn, hm, _⟩ := c.ex
  refine ⟨fun pins s σ H Q I h => wpAny_Call_Name_kw (ld_glob I hg hm ?_ hdb)⟩
  refine PySem.W.callWith_KW0 (h₀ := X.base) I.ok.mod.kin Fn.kp hall (thn (hkw.run pos pins s σ H _ I h) fun ws s2 ⟨zs, H2, I2, rz, l2, q2⟩ => ⟨I2.kIn, ?_⟩) hpl
  rw [hks]
  obtain ⟨oc, od, kV, doc, pm, an, cdv, ct, osl, rfl, lk, hcd⟩ := Fn.ex
  have b : KBn X.K (PySem.W.fnOf x x (defArgs st) (defBody st) (defScope st) .none kV doc pm an cdv ct) ps 0 ks (fun _ ws => g ws) (fun _ zs => g zs) :=
    ⟨fun s us ws _ l1 l2 => by
      have e : us = [] := List.eq_nil_of_length_eq_zero l1
      subst e
      exact BindsTo.of_eq (hb kV doc pm an cdv ct ws l2), fun _ r => hrel r⟩
  exact run_fnN (F.mono hk) hr b passL I2 .nil rz rfl l2 q2
/-- a def within an except suite -/
structure ClW (P : Program) (w : World) (K : PySem.W.Frag) (mg : Str → Option Value) (base : Heap) (k : Nat) (x : Str) (sp : Addr × Obj → Sp) : Prop where
  ex : ∃ (f : Addr) (fd : FuncData) (ps : List Str), FnW P w K mg base CX0 k f fd ps sp ∧ mg x = some (.ref f) ∧ PySem.W.keepIn K (.ref f) = true ∧ Binds K fd ps []
theorem clW_of {x : Str} {st : Stmt} {N ps : List Str} {k : Nat} {sp : Addr × Obj → Sp} (D : DefAt K mg x st ps) (S : FnScope N ps (defScope st)) (len : ∀ p vs H Q E, sp p vs H Q E → vs.length = ps.length)
    (hbody : ∀ (f : Addr) (cdv : Value) (A : Around) (outer : List Env) (s : Shared) (H : Hp) (vs : List V) (Q : VK) (E : XK) (p : Addr × Obj), L2H.RoomH k (A.deeper (envOfC x (defScope st) s.heap.objs.size f cdv)) → sp p vs H Q E →
      ∃ t, PSs (L2H.cxH CX0 P w K mg base N x (defScope st) f cdv A outer s H E p).nox (defBody st) t ∧ t { nx := fun _ H' => Q .non H', rt := Q } (L2.start N vs) H) : ClW P w K mg base (k + 1) x sp := by
  obtain ⟨f, fd, F, hm, b⟩ := D.ex
  exact ⟨f, fd, ps, Fun_okW F S len (hbody f), hm, F.kp, b⟩
theorem room_mark {k : Nat} {A : Around} (r : Room k A) (v : Option Value) : L2H.RoomH k (A.mark v) := ⟨r.dp, r.un⟩
theorem pe_cW {X : Cx} {k j : Nat} {x : Str} {sp : Addr × Obj → Sp} {q pos : Pos} {e : Expr} {es : List Expr} {t : TA} {p : Addr × Obj} (c : ClW X.prog X.w X.K X.mg X.base k x sp) (hr : L2H.RoomH j X.A) (hk : k ≤ j) (hp : p ∈ X.pn) (hg : Gl X x) (ha : PA X (e :: es) t)
    (hdb : (x == ("__debug__" : Str)) = false := by decide) (he : starEach (e :: es) X.env = (false, eval e X.env) :: starEach es X.env := by rfl) (hpl : (backTo pos (starEach es X.env)).any (·.1) = false := by rfl) :
    PE X (.Call (.Name x q) (e :: es) [] pos) (tCallS (sp p) (fun _ => E0) t) := by
  obtain ⟨f, fd, ps, F, hm, kp, b⟩ := c.ex
  exact pe_callW F (hr.mono hk) hp hg hm kp b (fun _ => passA0) ha hdb he hpl
abbrev cxd (P : Program) (w : World) (K : PySem.W.Frag) (mg : Str → Option Value) (base : Heap) (N : List Str) (x : Str) (st : Stmt) (f : Addr) (cdv : Value) (A : Around) (outer : List Env) (s : Shared) (H : Hp) (E : XK) : Cx := cxOf (L2.CX P w) P w K mg base N x (defScope st) f cdv A outer s H E
/-! in a suite -/
theorem call_isS {X : Cx} {a : Addr} {oe : Obj} {cls : Value} {d : Option Addr} {pn : List (Addr × Obj)} (EK : ErrK X.K) (hz : Zc cls d oe) (hf : ∃ vs, oe.data = .fields vs) : CallR (X.suite a ((a, oe) :: pn)) (.builtin "isinstance") (rIsX X.K a cls d) :=
  call_isX (X := X.suite a ((a, oe) :: pn)) EK List.mem_cons_self hz hf
theorem pe_errS {X : Cx} {a : Addr} {oe : Obj} {cls : Value} {d : Option Addr} {pn : List (Addr × Obj)} {e : Expr} {te : TE} {pos : Pos} {n : Str} (hz : Zc cls d oe) (hf : ∃ vs, oe.data = .fields vs) (he : PE (X.suite a ((a, oe) :: pn)) e te)
    (hb : attributeBase e n (X.suite a ((a, oe) :: pn)).env (eval e (X.suite a ((a, oe) :: pn)).env) = eval e (X.suite a ((a, oe) :: pn)).env := by rfl) : PE (X.suite a ((a, oe) :: pn)) (.Attribute e n pos) (tErrF X.K a cls d n te) :=
  pe_errF (X := X.suite a ((a, oe) :: pn)) List.mem_cons_self hz hf he hb
theorem pe_cWS {X : Cx} {a : Addr} {oe : Obj} {pn : List (Addr × Obj)} {k j : Nat} {x : Str} {sp : Addr × Obj → Sp} {q pos : Pos} {e : Expr} {es : List Expr} {t : TA} (c : ClW X.prog X.w X.K X.mg X.base k x sp) (hr : Room j X.A) (hk : k ≤ j) (hg : Gl X x) (ha : PA (X.suite a ((a, oe) :: pn)) (e :: es) t)
    (hdb : (x == ("__debug__" : Str)) = false := by decide) (he : starEach (e :: es) X.env = (false, eval e X.env) :: starEach es X.env := by rfl) (hpl : (backTo pos (starEach es X.env)).any (·.1) = false := by rfl) :
    PE (X.suite a ((a, oe) :: pn)) (.Call (.Name x q) (e :: es) [] pos) (tCallS (sp (a, oe)) (fun _ => E0) t) :=
  pe_cW (X := X.suite a ((a, oe) :: pn)) c (room_mark hr _) hk List.mem_cons_self hg ha hdb he hpl
/-! constants -/
theorem pe_const {X : Cx} {x : Str} {i : Int} {pos : Pos} (hg : Gl X x) (hm : ∃ t, X.mg x = some (.int i t)) (hd : (x == ("__debug__" : Str)) = false := by decide) : PE X (.Name x pos) (tC (.int i)) :=
  ⟨fun _ _ _ H _ I h => hm.elim fun t ht => ld_glob I hg ht ⟨.int i, H, I, ⟨t, rfl⟩, h⟩ hd⟩
/-! errors -/
structure Rs (P : Program) (w : World) (K : PySem.W.Frag) (mg : Str → Option Value) (base : Heap) (x : Str) (C : Addr) (mk : List V → List (Str × V) → Prop) : Prop where
  run : ∀ {X : Cx} {e : Expr} {es : List Expr} {ta : TA} {p pos : Pos}, X.prog = P → X.w = w → X.K = K → X.mg = mg → X.base = base → Room 2 X.A → Gl X x → PA X (e :: es) ta →
    starEach (e :: es) X.env = (false, eval e X.env) :: starEach es X.env → (backTo pos (starEach es X.env)).any (·.1) = false → PMk X (.Call (.Name x p) (e :: es) [] pos) (tErr C mk ta)
theorem pmk_rs {X : Cx} {j : Nat} {x : Str} {C : Addr} {mk : List V → List (Str × V) → Prop} {e : Expr} {es : List Expr} {ta : TA} {p pos : Pos} (c : Rs X.prog X.w X.K X.mg X.base x C mk) (hr : Room j X.A) (hk : 2 ≤ j) (hg : Gl X x) (ha : PA X (e :: es) ta)
    (he : starEach (e :: es) X.env = (false, eval e X.env) :: starEach es X.env := by rfl) (hpl : (backTo pos (starEach es X.env)).any (·.1) = false := by rfl) : PMk X (.Call (.Name x p) (e :: es) [] pos) (tErr C mk ta) :=
  c.run rfl rfl rfl rfl rfl (hr.mono hk) hg ha he hpl
theorem rs1 {x y f : Str} {C fI : Addr} {fd : FuncData} (T : OexC K C) (hm : mg x = some (.ref C)) (iC : PySem.W.findIn K (.ref C) "__init__" = some (some (.ref fI)))
    (tI : PySem.W.typeIn K (.ref fI) = some (.type "function")) (F : FnOk P w K mg base CX0 1 fI fd ["self", y] (spE1 C f)) (b : Binds K fd ["self", y] []) (hdb : (x == ("__debug__" : Str)) = false) : Rs P w K mg base x C (mk1 f) :=
  ⟨fun h1 h2 h3 h4 h5 hr hg ha he hpl => by subst h1 h2 h3 h4 h5; exact pmk_e1 T iC tI F hr b pass0 hg hm ha hdb he hpl⟩
theorem rs2 {x y z f g : Str} {C fI : Addr} {ok : V → Prop} {fd : FuncData} (T : OexC K C) (hm : mg x = some (.ref C)) (iC : PySem.W.findIn K (.ref C) "__init__" = some (some (.ref fI)))
    (tI : PySem.W.typeIn K (.ref fI) = some (.type "function")) (F : FnOk P w K mg base CX0 1 fI fd ["self", y, z] (spE2 C f g ok)) (b : Binds K fd ["self", y, z] []) (hdb : (x == ("__debug__" : Str)) = false) : Rs P w K mg base x C (mk2 f g ok) :=
  ⟨fun h1 h2 h3 h4 h5 hr hg ha he hpl => by subst h1 h2 h3 h4 h5; exact pmk_e2 T iC tI F hr b pass0 hg hm ha hdb he hpl⟩
end

/-! tests -/
section
variable {A B : Prop}
theorem ifT {c : Bool} (h : c = true) (a : A) : if c = true then A else B := by rw [if_pos h]; exact a
theorem ifF {c : Bool} (h : c = false) (b : B) : if c = true then A else B := by rw [h, if_neg Bool.false_ne_true]; exact b
theorem ifB {c : Bool} (h1 : c = true → A) (h2 : c = false → B) : if c = true then A else B := by
  cases c with
  | true => exact ifT rfl (h1 rfl)
  | false => exact ifF rfl (h2 rfl)
theorem ifD {p : Prop} [Decidable p] (h1 : p → A) (h2 : ¬ p → B) : if decide p = true then A else B := ifB (fun h => h1 (of_decide_eq_true h)) fun h => h2 (of_decide_eq_false h)
theorem ifN {p : Prop} [Decidable p] (h1 : ¬ p → A) (h2 : p → B) : if (!decide p) = true then A else B := ifB (fun h => h1 (by simpa using h)) fun h => h2 (by simpa using h)
theorem ifI {i j : Int} (h1 : i = j → A) (h2 : i ≠ j → B) : if decide (V.int i = V.int j) = true then A else B := ifD (fun h => h1 (V.int.inj h)) fun h => h2 fun e => h (by rw [e])
theorem ifIN {i j : Int} (h1 : i ≠ j → A) (h2 : i = j → B) : if (!decide (V.int i = V.int j)) = true then A else B := ifN (fun h => h1 fun e => h (by rw [e])) fun h => h2 (V.int.inj h)
end
theorem atI0 {x : V} {xs : List V} : atI (x :: xs) 0 = some x := at_of (j := 0) rfl rfl
theorem atI1 {x y : V} {xs : List V} : atI (x :: y :: xs) 1 = some y := at_of (j := 1) rfl rfl
theorem ixN_of {n j : Nat} {i : Int} (e : i = (j : Int)) (h : j < n) : ixN n i = some j := by
  unfold ixN
  rw [e, if_pos (Int.natCast_nonneg j), if_pos (by omega)]
  simp
theorem seqIx_of {n j : Nat} {i : Int} (e : i = (j : Int)) (h : j < n) : seqIndex? i n = some j := by
  rw [e, PySem.seqIndex_of (Int.natCast_nonneg j) (by omega)]
  simp
theorem len1 {x : V} {xs : List V} : 0 < (x :: xs).length := Nat.succ_pos _
theorem len2 {x y : V} {xs : List V} : 1 < (x :: y :: xs).length := Nat.succ_lt_succ (Nat.succ_pos _)

/-! heaps -/
theorem smN {H H' : Hp} {q : Addr} {o : HO} (s : Same H H') (h : H' q = none) : Same H (upd H' q o) := fun b u e => by rw [upd_ne (ne_of_none (s b u e) h)]; exact s b u e
theorem smM {H H' : Hp} {q : Addr} {o : HO} (s : Same H H') (h : H q = none) : Same H (upd H' q o) := fun b u e => by rw [upd_ne (ne_of_none e h)]; exact s b u e
theorem sm0 {H : Hp} {q : Addr} {o : HO} (h : H q = none) : Same H (upd H q o) := smN (Same.refl H) h
theorem smT {K : PySem.W.Frag} {H H' : Hp} {a : Addr} {xs : List V} (e : Same H H') (h : SqT K H a xs) : SqT K H' a xs := Evl.ex_t e h
/-- a value is read behind a new object -/
theorem atN {H : Hp} {q b : Addr} {o u : HO} (h : H b = some u) (n : H q = none) : upd H q o b = some u := by rw [upd_ne (ne_of_none h n)]; exact h
theorem ints_at {ns : List Int} {i : Nat} {x : V} (h : (ns.map V.int)[i]? = some x) : ∃ z, ns[i]? = some z ∧ x = V.int z := by
  rw [List.getElem?_map] at h
  cases e : ns[i]? with
  | none => rw [e] at h; cases h
  | some z => rw [e] at h; exact ⟨z, rfl, (Option.some.inj h).symm⟩
theorem at_ints {ns : List Int} {i : Nat} {z : Int} (h : ns[i]? = some z) : (ns.map V.int)[i]? = some (V.int z) := by rw [List.getElem?_map, h]; rfl
theorem sz_small {n : Nat} (h : n ≤ 100000) : n ≤ sizeLine := Nat.le_trans h (by decide)
theorem sz_lt {n : Nat} (h : n ≤ 100000) : n < sizeLine := Nat.lt_of_le_of_lt h (by decide)
theorem cut_map {α : Type} (F : α → V) (ns : List α) (lo hi : Option Int) : ∃ ms : List α, cutV (ns.map F) lo hi = ms.map F ∧ ms.length ≤ ns.length ∧ ms = (ns.drop (HT.sIx ns.length 0 lo)).take (HT.sIx ns.length ns.length hi - HT.sIx ns.length 0 lo) :=
  ⟨_, by unfold cutV; rw [List.length_map, List.map_take, List.map_drop], by rw [List.length_take, List.length_drop]; omega, rfl⟩
theorem pow10 {j : Int} (h0 : 0 ≤ j) (h1 : j ≤ 1000000) : CPow 10 j := ⟨h0, h1, by decide⟩
/-! attributes -/
theorem putF_new {f : Str} {v : V} : ∀ {fs : List (Str × V)}, fs.lookup f = none → putF f v fs = fs ++ [(f, v)]
  | [], _ => rfl
  | (g, y) :: fs, h => by
    have hne : ¬ g = f := fun e => by
      subst e
      simp [List.lookup] at h
    have h2 : fs.lookup f = none := by
      rw [lookup_put, if_neg (Ne.symm hne)] at h
      exact h
    show (if g = f then (g, v) :: fs else (g, y) :: putF f v fs) = _
    rw [if_neg hne, putF_new h2]
    rfl
theorem lk_hit {f : Str} {v : V} {fs : List (Str × V)} : ((f, v) :: fs).lookup f = some v := by rw [lookup_put, if_pos rfl]
theorem lk_next {f g : Str} {v : V} {fs : List (Str × V)} {o : Option V} (h : ¬ f = g) (k : fs.lookup f = o) : ((g, v) :: fs).lookup f = o := by rw [lookup_put, if_neg h]; exact k
theorem lk_nil {f : Str} : ([] : List (Str × V)).lookup f = none := rfl
end SI
set_option maxRecDepth 100000
set_option maxHeartbeats 4000000
/-! == of rows of ints; values by a measure of depth -/
namespace SI
open PySem PySem.Spec PyProof.Rows L2
theorem dpAll_map {α : Type} {K : PySem.W.Frag} {H : Hp} {F : α → V} {G : α → PyData} : ∀ {l : List α}, (∀ x ∈ l, Dp K H (F x) (G x)) → DpAll K H (l.map F) (l.map G)
  | [], _ => .nil
  | x :: l, h => .cons (h x List.mem_cons_self) (dpAll_map fun y hy => h y (List.mem_cons_of_mem _ hy))
theorem dpL {K : PySem.W.Frag} {H : Hp} {a : Addr} {ns : List Int} (h : SqL K H a (ns.map V.int)) : Dp K H (.ref a) (.list (ns.map PyData.int)) := .lst h (dpAll_map fun x _ => .int x)
theorem dpT {K : PySem.W.Frag} {H : Hp} {a : Addr} {ns : List Int} (h : SqT K H a (ns.map V.int)) : Dp K H (.ref a) (.tuple (ns.map PyData.int)) := .tup h (dpAll_map fun x _ => .int x)
theorem lay_ints : ∀ ns : List Int, PyData.canLayAll0 (ns.map PyData.int) = true ∧ PyData.depthAll (ns.map PyData.int) = 0
  | [] => ⟨rfl, rfl⟩
  | n :: ns => by
    obtain ⟨h1, h2⟩ := lay_ints ns
    refine ⟨?_, ?_⟩
    · show (PyData.canLay0 (.int n) && PyData.canLayAll0 (ns.map PyData.int)) = true
      rw [h1]
      rfl
    · show max (PyData.depth (.int n)) (PyData.depthAll (ns.map PyData.int)) = 0
      rw [h2]
      rfl
theorem shL (ns : List Int) : SeqAt.shaped (.list (ns.map PyData.int)) = true := by
  obtain ⟨h1, h2⟩ := lay_ints ns
  show (PyData.canLayAll0 (ns.map PyData.int) && decide (PyData.depthAll (ns.map PyData.int) + 1 ≤ 64)) = true
  rw [h1, h2]
  rfl
theorem shT (ns : List Int) : SeqAt.shaped (.tuple (ns.map PyData.int)) = true := by
  obtain ⟨h1, h2⟩ := lay_ints ns
  show (PyData.canLayAll0 (ns.map PyData.int) && decide (PyData.depthAll (ns.map PyData.int) + 1 ≤ 64)) = true
  rw [h1, h2]
  rfl
theorem eqv_all : ∀ xs ys : List Int, PyData.eqvAll (xs.map PyData.int) (ys.map PyData.int) = decide (xs = ys)
  | [], [] => rfl
  | [], _ :: _ => rfl
  | _ :: _, [] => rfl
  | x :: xs, y :: ys => by
    show ((x == y) && PyData.eqvAll (xs.map PyData.int) (ys.map PyData.int)) = _
    rw [eqv_all xs ys]
    by_cases h : x = y
    · subst h
      by_cases h2 : xs = ys
      · subst h2; simp
      · simp [h2]
    · simp [h]
theorem eqvL (xs ys : List Int) : PyData.eqv (.list (xs.map PyData.int)) (.list (ys.map PyData.int)) = decide (xs = ys) := eqv_all xs ys
theorem eqvT (xs ys : List Int) : PyData.eqv (.tuple (xs.map PyData.int)) (.tuple (ys.map PyData.int)) = decide (xs = ys) := eqv_all xs ys
/-- == of data in an except suite -/
theorem op_eqDS {X : Cx} {a : Addr} {oe : Obj} {pn : List (Addr × Obj)} (hu : X.A.units + 64 < cLine) : OpR (X.suite a ((a, oe) :: pn)) (compareOp .Eq) (rEqD X.K) := op_eqD (X := X.suite a ((a, oe) :: pn)) hu
theorem op_neDS {X : Cx} {a : Addr} {oe : Obj} {pn : List (Addr × Obj)} (hu : X.A.units + 64 < cLine) : OpR (X.suite a ((a, oe) :: pn)) (compareOp .NotEq) (rNeD X.K) := op_neD (X := X.suite a ((a, oe) :: pn)) hu
/-! builtins in a try body: X the def's own context -/
theorem call_list_ofT {X : Cx} {pn : List (Addr × Obj)} {xe : Value → Shared → Prop} : CallR (X.tr pn xe) (.type "list") (fun xs H Q => ∃ (p : Addr) (ys : List V), xs = [V.ref p] ∧ (SqL X.K H p ys ∨ SqT X.K H p ys) ∧ ∀ (l : Addr), H l = none → Q (V.ref l) (upd H l (HO.lst ys))) := call_list_of (X := X.tr pn xe)
/-! in a comprehension's block: X the def's own context -/
section
variable {X : Cx} {s : Shared} {H : Hp} {sc : Scope} {ce : Env} {fp : List Addr}
theorem ix_listB : IxR (X.blk s H sc ce fp) (rIxL X.K) := ix_list (X := X.blk s H sc ce fp)
theorem ix_tupB : IxR (X.blk s H sc ce fp) (rIxT X.K) := ix_tup (X := X.blk s H sc ce fp)
end
end SI
set_option maxRecDepth 100000
set_option maxHeartbeats 4000000
/-! rules in a comprehension's block (B), in an except suite (S), in a try body (T): their readings name the def's own written part -/
namespace SI
open PySem PySem.Spec PyProof.Rows L2
section
variable {X : Cx} {s : Shared} {H : Hp} {sc : Scope} {ce : Env} {fp : List Addr}
theorem sl_listB : SlR (X.blk s H sc ce fp) (rSlL X.K) := sl_list (X := (X.blk s H sc ce fp))
theorem sl_tupAB : SlR (X.blk s H sc ce fp) (rSlA X.K) := sl_tupA (X := (X.blk s H sc ce fp))
theorem call_isiB : CallR (X.blk s H sc ce fp) (.builtin "isinstance") (rIsi X.K) := call_isi (X := (X.blk s H sc ce fp))
theorem op_catTB : OpR (X.blk s H sc ce fp) (binaryOp .Add) (rCatT X.K) := op_catT (X := (X.blk s H sc ce fp))
theorem call_list_ofB : CallR (X.blk s H sc ce fp) (.type "list") (fun xs H Q => ∃ (p : Addr) (ys : List V), xs = [V.ref p] ∧ (SqL X.K H p ys ∨ SqT X.K H p ys) ∧ ∀ (l : Addr), H l = none → Q (V.ref l) (upd H l (HO.lst ys))) := call_list_of (X := (X.blk s H sc ce fp))
theorem call_tuple_ofB : CallR (X.blk s H sc ce fp) (.type "tuple") (fun xs H Q => ∃ (p : Addr) (ys : List V), xs = [V.ref p] ∧ ((SqL X.K H p ys ∧ ∀ (l : Addr), H l = none → Q (V.ref l) (upd H l (HO.tup ys))) ∨ (SqT X.K H p ys ∧ Q (V.ref p) H))) := call_tuple_of (X := (X.blk s H sc ce fp))
theorem call_len_seqB : CallR (X.blk s H sc ce fp) (.builtin "len") (fun xs H Q => ∃ (p : Addr) (ys : List V), xs = [V.ref p] ∧ (SqL X.K H p ys ∨ SqT X.K H p ys) ∧ Q (V.int (ys.length : Nat)) H) := call_len_seq (X := (X.blk s H sc ce fp))
theorem op_eqDB (hu : X.A.units + 64 < cLine) : OpR (X.blk s H sc ce fp) (compareOp .Eq) (rEqD X.K) := op_eqD (X := (X.blk s H sc ce fp)) hu
theorem op_neDB (hu : X.A.units + 64 < cLine) : OpR (X.blk s H sc ce fp) (compareOp .NotEq) (rNeD X.K) := op_neD (X := (X.blk s H sc ce fp)) hu
theorem pe_fldB {e : Expr} {f : Str} {pos : Pos} {ta : TE} (he : PE (X.blk s H sc ce fp) e ta) (hb : attributeBase e f ((X.blk s H sc ce fp)).env (eval e ((X.blk s H sc ce fp)).env) = eval e ((X.blk s H sc ce fp)).env) : PE (X.blk s H sc ce fp) (.Attribute e f pos) (tFld X.K ta f) := pe_fld (X := (X.blk s H sc ce fp)) he hb
end
section
variable {X : Cx} {a : Addr} {oe : Obj} {pn : List (Addr × Obj)}
theorem ix_listS : IxR (X.suite a ((a, oe) :: pn)) (rIxL X.K) := ix_list (X := (X.suite a ((a, oe) :: pn)))
theorem ix_tupS : IxR (X.suite a ((a, oe) :: pn)) (rIxT X.K) := ix_tup (X := (X.suite a ((a, oe) :: pn)))
theorem sl_listS : SlR (X.suite a ((a, oe) :: pn)) (rSlL X.K) := sl_list (X := (X.suite a ((a, oe) :: pn)))
theorem sl_tupAS : SlR (X.suite a ((a, oe) :: pn)) (rSlA X.K) := sl_tupA (X := (X.suite a ((a, oe) :: pn)))
theorem call_isiS : CallR (X.suite a ((a, oe) :: pn)) (.builtin "isinstance") (rIsi X.K) := call_isi (X := (X.suite a ((a, oe) :: pn)))
theorem op_catTS : OpR (X.suite a ((a, oe) :: pn)) (binaryOp .Add) (rCatT X.K) := op_catT (X := (X.suite a ((a, oe) :: pn)))
theorem call_list_ofS : CallR (X.suite a ((a, oe) :: pn)) (.type "list") (fun xs H Q => ∃ (p : Addr) (ys : List V), xs = [V.ref p] ∧ (SqL X.K H p ys ∨ SqT X.K H p ys) ∧ ∀ (l : Addr), H l = none → Q (V.ref l) (upd H l (HO.lst ys))) := call_list_of (X := (X.suite a ((a, oe) :: pn)))
theorem call_tuple_ofS : CallR (X.suite a ((a, oe) :: pn)) (.type "tuple") (fun xs H Q => ∃ (p : Addr) (ys : List V), xs = [V.ref p] ∧ ((SqL X.K H p ys ∧ ∀ (l : Addr), H l = none → Q (V.ref l) (upd H l (HO.tup ys))) ∨ (SqT X.K H p ys ∧ Q (V.ref p) H))) := call_tuple_of (X := (X.suite a ((a, oe) :: pn)))
theorem call_len_seqS : CallR (X.suite a ((a, oe) :: pn)) (.builtin "len") (fun xs H Q => ∃ (p : Addr) (ys : List V), xs = [V.ref p] ∧ (SqL X.K H p ys ∨ SqT X.K H p ys) ∧ Q (V.int (ys.length : Nat)) H) := call_len_seq (X := (X.suite a ((a, oe) :: pn)))
theorem pe_fldS {e : Expr} {f : Str} {pos : Pos} {ta : TE} (he : PE (X.suite a ((a, oe) :: pn)) e ta) (hb : attributeBase e f ((X.suite a ((a, oe) :: pn))).env (eval e ((X.suite a ((a, oe) :: pn))).env) = eval e ((X.suite a ((a, oe) :: pn))).env) : PE (X.suite a ((a, oe) :: pn)) (.Attribute e f pos) (tFld X.K ta f) := pe_fld (X := (X.suite a ((a, oe) :: pn))) he hb
end
section
variable {X : Cx} {pn : List (Addr × Obj)} {xe : Value → Shared → Prop}
theorem ix_listT : IxR (X.tr pn xe) (rIxL X.K) := ix_list (X := (X.tr pn xe))
theorem ix_tupT : IxR (X.tr pn xe) (rIxT X.K) := ix_tup (X := (X.tr pn xe))
theorem sl_listT : SlR (X.tr pn xe) (rSlL X.K) := sl_list (X := (X.tr pn xe))
theorem sl_tupAT : SlR (X.tr pn xe) (rSlA X.K) := sl_tupA (X := (X.tr pn xe))
theorem call_isiT : CallR (X.tr pn xe) (.builtin "isinstance") (rIsi X.K) := call_isi (X := (X.tr pn xe))
theorem op_catTT : OpR (X.tr pn xe) (binaryOp .Add) (rCatT X.K) := op_catT (X := (X.tr pn xe))
theorem call_tuple_ofT : CallR (X.tr pn xe) (.type "tuple") (fun xs H Q => ∃ (p : Addr) (ys : List V), xs = [V.ref p] ∧ ((SqL X.K H p ys ∧ ∀ (l : Addr), H l = none → Q (V.ref l) (upd H l (HO.tup ys))) ∨ (SqT X.K H p ys ∧ Q (V.ref p) H))) := call_tuple_of (X := (X.tr pn xe))
theorem call_len_seqT : CallR (X.tr pn xe) (.builtin "len") (fun xs H Q => ∃ (p : Addr) (ys : List V), xs = [V.ref p] ∧ (SqL X.K H p ys ∨ SqT X.K H p ys) ∧ Q (V.int (ys.length : Nat)) H) := call_len_seq (X := (X.tr pn xe))
theorem op_eqDT (hu : X.A.units + 64 < cLine) : OpR (X.tr pn xe) (compareOp .Eq) (rEqD X.K) := op_eqD (X := (X.tr pn xe)) hu
theorem op_neDT (hu : X.A.units + 64 < cLine) : OpR (X.tr pn xe) (compareOp .NotEq) (rNeD X.K) := op_neD (X := (X.tr pn xe)) hu
theorem pe_fldT {e : Expr} {f : Str} {pos : Pos} {ta : TE} (he : PE (X.tr pn xe) e ta) (hb : attributeBase e f ((X.tr pn xe)).env (eval e ((X.tr pn xe)).env) = eval e ((X.tr pn xe)).env) : PE (X.tr pn xe) (.Attribute e f pos) (tFld X.K ta f) := pe_fld (X := (X.tr pn xe)) he hb
end
def swp {α : Type} : List α → List α
  | [x, y] => [y, x]
  | l => l
theorem swp_rel {zs : List V} {ws : List Value} (r : L2.Vals zs ws) : L2.Vals (swp zs) (swp ws) := by
  cases r with
  | nil => exact .nil
  | cons a r => cases r with
    | nil => exact .cons a .nil
    | cons b r => cases r with
      | nil => exact .cons b (.cons a .nil)
      | cons c r => exact .cons a (.cons b (.cons c r))
end SI
set_option maxRecDepth 100000
set_option maxHeartbeats 4000000
/-! from what k_is finds to what the walks take -/
namespace SI
open PySem PySem.Spec PyProof.Rows L2 NdefX
section
variable {P : Program} {w : World} {K : PySem.W.Frag} {mg : Str → Option Value} {base h : Heap}
abbrev BindOk (x qual : Str) (st : Stmt) (ps : List Str) : Prop := ∀ (kV doc pm : Value) (an : Option Addr) (cdv ct : Value) (us : List Value), us.length = ps.length →
  bindArgs (PySem.W.fnOf x qual (defArgs st) (defBody st) (defScope st) .none kV doc pm an cdv ct) ⟨us, []⟩ = pure (ps.zip us)
theorem def_at {x : Str} {st : Stmt} {ps : List Str} {f : Addr} {oc kV doc pm cdv ct : Value} {od an : Option Addr} {osl : Array (Option Value)} (X : K.In h) (G : h.Ns mainGlobals mg) (hb : BindOk x x st ps)
    (a : PySem.W.nsIn K mainGlobals x = some (some (.ref f))) (l : K.lookup f = some ⟨oc, od, .func (PySem.W.fnOf x x (defArgs st) (defBody st) (defScope st) .none kV doc pm an cdv ct), osl⟩)
    (c : PySem.W.codeIn K cdv x = true) (k : PySem.W.keepIn K (.ref f) = true) {R : Prop} (r : DefAt K mg x st ps → R) : R :=
  r ⟨f, _, fun_mk l c k, PySem.W.mg_of X G a, (fun_mk l c k).binds hb⟩
theorem cls_at {C : Addr} (pg : PySem.W.plainGet K C Str.empty = true) (hd : PySem.W.hasDictIn K C = true) (po : PySem.W.plainOver K C = true) (sa : PySem.W.findIn K (.ref C) "__setattr__" = some (some (.builtin "object.__setattr__")))
    {R : Prop} (r : Cls K C → R) : R := r ⟨pg, hd, po, sa⟩
theorem mak_at {x qual : Str} {C : Addr} {st : Stmt} {ps : List Str} {f : Addr} {oc kV doc pm cdv ct : Value} {od an : Option Addr} {osl : Array (Option Value)} (X : K.In h) (G : h.Ns mainGlobals mg) (hb : BindOk "__init__" qual st ps)
    (a : PySem.W.nsIn K mainGlobals x = some (some (.ref C))) (mk : PySem.W.makesIn K C = true) (i : PySem.W.findIn K (.ref C) "__init__" = some (some (.ref f))) (n : PySem.W.isFn K (.ref f) = true) (kc : PySem.W.keepIn K (.ref C) = true)
    (l : K.lookup f = some ⟨oc, od, .func (PySem.W.fnOf "__init__" qual (defArgs st) (defBody st) (defScope st) .none kV doc pm an cdv ct), osl⟩)
    (c : PySem.W.codeIn K cdv qual = true) (k : PySem.W.keepIn K (.ref f) = true) {R : Prop} (r : MakAt K mg x C qual st ps → R) : R :=
  r ⟨f, _, ⟨mk, i, n, kc⟩, fun_mk l c k, PySem.W.mg_of X G a, (fun_mk l c k).binds hb⟩
theorem met_at {m qual : Str} {C : Addr} {st : Stmt} {ps : List Str} {f : Addr} {oc kV doc pm cdv ct : Value} {od an : Option Addr} {osl : Array (Option Value)} (hC : Cls K C) (hb : BindOk m qual st ps)
    (i : PySem.W.findIn K (.ref C) m = some (some (.ref f))) (n : PySem.W.isFn K (.ref f) = true)
    (l : K.lookup f = some ⟨oc, od, .func (PySem.W.fnOf m qual (defArgs st) (defBody st) (defScope st) .none kV doc pm an cdv ct), osl⟩)
    (c : PySem.W.codeIn K cdv qual = true) (k : PySem.W.keepIn K (.ref f) = true) {R : Prop} (r : MetAt K C m qual st ps → R) : R :=
  r ⟨f, _, hC, ⟨i, n, k⟩, fun_mk l c k, (fun_mk l c k).binds hb⟩
/-- a class of errors: at its name, what isinstance and except read of it -/
theorem exc_at {x : Str} {C : Addr} {nm q : Str} {N : Addr} {bs bm : List Value} {sn : List Str} {sub : List Value} {ab : Bool} {col : Option Bool} {dd : Option Addr} {k0 k1 k2 k3 k5 : Option Value} (X : K.In h) (G : h.Ns mainGlobals mg)
    (a : PySem.W.nsIn K mainGlobals x = some (some (.ref C))) (l : K.lookup C = some (excClassObj nm q C N bs bm true sn sub ab col dd k0 k1 k2 k3 k5 "ValueError.__new__")) (rf : PySem.HandSPX.refsVE bm = true)
    (sa : PySem.W.findIn K (.ref C) "__setattr__" = some (some (.builtin "object.__setattr__"))) (exC : PySem.W.subIn K (.ref C) (.type "BaseException") = some true) (tyC : PySem.W.typeIn K (.ref C) = some (.type "type")) (kC : PySem.W.keepIn K (.ref C) = true)
    (ga : PySem.W.findIn K (.ref C) "__getattribute__" = some (some (.builtin "BaseException.__getattribute__"))) (gg : PySem.W.findIn K (.ref C) "__getattr__" = some none) (hd : PySem.W.hasDictIn K C = true)
    (ac : PySem.W.findIn K (.ref C) "__class__" = some (some (.builtin "object.__class__"))) (mo : PySem.W.mroIn K C (.type "object") = some true)
    {R : Prop} (r : mg x = some (.ref C) → OexC K C → ErrC K C → R) : R :=
  r (PySem.W.mg_of X G a) ⟨⟨nm, q, N, bs, bm, sn, sub, ab, col, dd, k0, k1, k2, k3, k5, l, rf⟩, sa, exC, tyC, kC⟩
    ⟨by unfold PySem.W.clsIn; rw [l] <;> rfl, ga, gg, exC, hd, ac, mo⟩
/-- what an own __init__ with super() is -/
theorem sup_at {C fI : Addr} {qual : Str} {st : Stmt} {e0 : Expr} {rest : List Stmt} {p0 p1 p2 p3 p4 : Pos} {oc : Value} {od : Option Addr} {kV doc pm : Value} {an : Option Addr} {ct : Value} {osl : Array (Option Value)} {cc cda : Addr}
      {q1 : Value} {q2 : Option Addr} {q3 : Array (Option Value)} {r1 : Value} {r2 : Option Addr} {vs : Array Value} {r3 : Array (Option Value)} {file : Str} {tf : Tok} (X : K.In h) (G : h.Ns mainGlobals mg) (O : OexC K C)
    (hbody : defBody st = .Expr (.Call (.Attribute (.Call (.Name "super" p0) [] [] p1) "__init__" p2) [e0] [] p3) p4 :: rest)
    (i : PySem.W.findIn K (.ref C) "__init__" = some (some (.ref fI))) (t : PySem.W.typeIn K (.ref fI) = some (.type "function"))
    (l : K.lookup fI = some ⟨oc, od, .func (PySem.W.fnX "__init__" qual (defArgs st) (defBody st) (defScope st) [("__class__", cc)] .none kV doc pm an (.ref cda) ct), osl⟩)
    (c : PySem.W.codeIn K (.ref cda) qual = true) (lc : K.lookup cda = some ⟨r1, r2, .fields vs, r3⟩) (hf : vs[2]? = some (.str file tf)) (hm : (P.main.file == file) = true) (lcc : K.lookup cc = some ⟨q1, q2, .cell (some (.ref C)), q3⟩)
    (self : PySem.W.mroIn K C (.ref C) = some true) (sup : PySem.W.ks_superIn K C C "__init__" = some (some (.builtin "ValueError.__init__"))) (sub : PySem.W.subIn K (.ref C) (.type "ValueError") = some true)
    (z : PySem.W.nsIn K mainGlobals "super" = some none) (any : PySem.W.nsIn K cStatics "thirdparty.any" = some none) (top : (P.main.scope.names.lookup ("super" : Str)).isSome = false)
    {R : Prop} (r : ∀ fd, SupF P K mg C fI qual (defArgs st) e0 rest (defScope st) p0 p1 p2 p3 p4 fd → PySem.W.findIn K (.ref C) "__init__" = some (some (.ref fI)) → PySem.W.typeIn K (.ref fI) = some (.type "function") → 
      (∃ (kV doc pm : Value) (an : Option Addr) (cc : Addr) (cdv ct : Value), fd = PySem.W.fnX "__init__" qual (defArgs st) (defBody st) (defScope st) [("__class__", cc)] .none kV doc pm an cdv ct) → R) : R :=
  r _ ⟨⟨oc, od, kV, doc, pm, an, ct, osl, cc, cda, q1, q2, q3, r1, r2, vs, r3, file, tf, by rw [hbody], l, c, lc, hf, hm, lcc⟩, O, self, sup, sub, PySem.W.mg_none_of X G z, any, top⟩ i t ⟨kV, doc, pm, an, cc, .ref cda, ct, rfl⟩
abbrev BindX (qual : Str) (st : Stmt) (ps : List Str) : Prop := ∀ (kV doc pm : Value) (an : Option Addr) (cc : Addr) (cdv ct : Value) (us : List Value), us.length = ps.length →
  bindArgs (PySem.W.fnX "__init__" qual (defArgs st) (defBody st) (defScope st) [("__class__", cc)] .none kV doc pm an cdv ct) ⟨us, []⟩ = pure (ps.zip us)
theorem bindX {qual : Str} {st : Stmt} {ps : List Str} {fd : FuncData} (hb : BindX qual st ps) (e : ∃ (kV doc pm : Value) (an : Option Addr) (cc : Addr) (cdv ct : Value), fd = PySem.W.fnX "__init__" qual (defArgs st) (defBody st) (defScope st) [("__class__", cc)] .none kV doc pm an cdv ct) : Binds K fd ps [] := by
  obtain ⟨kV, doc, pm, an, cc, cdv, ct, rfl⟩ := e
  exact .all (hb kV doc pm an cc cdv ct)
theorem xm_at {C D : Addr} {b : Bool} (e : ErrC K D) (o : OexC K D) (s : PySem.W.subIn K (.ref C) (.ref D) = some b) : PySem.W.exmOne K (.ref C) (.ref D) = some b := PySem.W.exm_ref e.exC e.hd o.tyC s
theorem kit_ref {C D : Addr} {b : Bool} (e : ErrC K D) (o : OexC K D) (n : C ≠ D) (s : PySem.W.subIn K (.ref C) (.ref D) = some b) : PySem.W.kitOne K (.ref C) (.ref D) = some b := by
  unfold PySem.W.kitOne
  rw [if_neg (by intro z; exact n (by have := eq_of_beq z; cases this; rfl))]
  show (if ((PySem.W.clsIn K D).isSome && PySem.W.typeIn K (.ref D) == some (.type "type")) = true then _ else none) = _
  rw [if_pos (by rw [e.cl, o.tyC] <;> rfl)]
  exact s
theorem kit_self {C : Addr} : PySem.W.kitOne K (.ref C) (.ref C) = some true := by
  unfold PySem.W.kitOne
  rw [if_pos (by simp)]
theorem kit_VE {C : Addr} (s : PySem.W.subIn K (.ref C) (.type "ValueError") = some true) : PySem.W.kitOne K (.ref C) (.type "ValueError") = some true := by
  unfold PySem.W.kitOne
  rw [if_neg (by intro z; have := eq_of_beq z; cases this)]
  show (if PySem.W.kitMeta "ValueError" = true then _ else none) = _
  rw [if_pos (by decide +kernel)]
  exact s
theorem int_at {x : Str} {i : Int} {t : Tok} (X : K.In h) (G : h.Ns mainGlobals mg) (a : PySem.W.nsIn K mainGlobals x = some (some (.int i t))) : ∃ t, mg x = some (.int i t) := ⟨t, PySem.W.mg_of X G a⟩
theorem int_is {x : Str} {i : Int} {t : Tok} (X : K.In h) (G : h.Ns mainGlobals mg) (a : PySem.W.nsIn K mainGlobals x = some (some (.int i t))) {R : Prop} (r : (∃ t, mg x = some (.int i t)) → R) : R := r ⟨t, PySem.W.mg_of X G a⟩
theorem int_as {x : Str} {i j : Int} (e : i = j) (h : ∃ t, mg x = some (.int i t)) : ∃ t, mg x = some (.int j t) := e ▸ h
theorem law_at {l : PySem.W.OpenLaw} {k : Nat} {fa : Addr} {x y : Str} {st : Stmt} {sp : Sp} {oc kV doc pm cdv ct : Value} {f : Addr} {od an : Option Addr} {osl : Array (Option Value)} (X : K.In h) (G : h.Ns mainGlobals mg) (hfa : mg x = some (.ref fa)) (hb : BindOk x x st [y])
    (hl : K.lookup f = some ⟨oc, od, .func (PySem.W.fnOf x x (defArgs st) (defBody st) (defScope st) .none kV doc pm an cdv ct), osl⟩) (a : PySem.W.nsIn K mainGlobals x = some (some (.ref f)))
    (c : ∀ base, Cd l.prog w K mg base k x st [y] sp) :
    ∃ fd : FuncData, (∀ (s : Shared) (v : Value), BindsTo s fd ⟨[v], []⟩ [(y, v)]) ∧ ∀ base : Heap, K.In base → base.Ns mainGlobals mg → FnOk l.prog w K mg base (L2.CX l.prog w) k fa fd [y] sp := by
  have e := hfa.symm.trans (PySem.W.mg_of X G a)
  cases e
  refine ⟨_, fun s v => .of_eq (hb kV doc pm an cdv ct [v] rfl), fun base _ _ => ?_⟩
  obtain ⟨f', fd', F, Fn, hm, b⟩ := (c base).ex
  have e2 := hm.symm.trans hfa
  cases e2
  obtain ⟨oc', od', kV', doc', pm', an', cdv', ct', osl', rfl, lk, hcd⟩ := Fn.ex
  have e3 := lk.symm.trans hl
  injection e3 with e3
  injection e3 with _ _ e3 _
  injection e3 with e3
  rw [← e3]
  exact F
end
theorem walkK {l : PySem.W.OpenLaw} {n k : Nat} {q : Program} {loose : List Str} {XP : (Str → Option Value) → Heap → Prop} {YP : World → Heap → Prop} {d : DefRec} {K : Params → PySem.W.Frag} {sp : PySem.W.Frag → Sp} {x : Str}
    (hn : l.most = some n) (hn2 : n ≤ sizeLine) (hdf : d.params.defaults = []) (hr : Room k callerA) (hsp : ∀ (K : PySem.W.Frag) (H : Hp) (a : Addr) (ns : List Int), ns.length ≤ n → SqL K H a (ns.map V.int) → sp K [.ref a] H (fun v _ => v = .bl true) fun _ _ _ => False)
    (hY : ∀ (w : World) (h : Heap), YP w h → (K w.params).In h)
    (F : ∀ (w : World) (mg : Str → Option Value) (fa : Addr) (h : Heap), (K w.params).In h → h.Ns mainGlobals mg → mg d.name = some (.ref fa) →
      ∃ fd : FuncData, (∀ (s : Shared) (u : Value), BindsTo s fd ⟨[u], []⟩ [(x, u)]) ∧
        ∀ base : Heap, (K w.params).In base → base.Ns mainGlobals mg → FnOk l.prog w (K w.params) mg base (L2.CX l.prog w) k fa fd [x] (sp (K w.params))) :
    PySem.W.WalkO q loose XP YP l.row.toRowW d [] (fun f vs => PySem.call f vs) :=
  L2.walk_of (CX := fun w => L2.CX l.prog w) (sp := fun w => sp (K w.params)) hn hn2 hdf hr hY F (fun w H a ns hl _ hS => hsp _ H a ns hl hS) fun w H s e s' h => by
    obtain ⟨_, _, _, _, _, _, _, _, _, _, _, _, hE⟩ := h
    exact hE
end SI
set_option maxRecDepth 100000
set_option maxHeartbeats 4000000
/-! comparisons by an own method of a class whose instances have a dict -/
namespace SI
open PySem PySem.Spec PyProof.Rows L2
/-- the type of a value, as the abstract heap tells it -/
inductive TyV (K : PySem.W.Frag) (H : Hp) : V → Value → Prop
  | non : TyV K H .non (.type "NoneType")
  | bl (b : Bool) : TyV K H (.bl b) (.type "bool")
  | int (i : Int) : TyV K H (.int i) (.type "int")
  | str (s : Str) : TyV K H (.str s) (.type "str")
  | tup {a : Addr} {xs : List V} (h : SqT K H a xs) : TyV K H (.ref a) (.type "tuple")
  | lst {a : Addr} {xs : List V} (h : SqL K H a xs) : TyV K H (.ref a) (.type "list")
  | ins {a C d : Addr} {fs : List (Str × V)} (h : H a = some (.ins C d fs)) : TyV K H (.ref a) (.ref C)
section
variable {X : Cx} {k j : Nat} {C : Addr} {sp : Sp}
theorem looks_ty {pins : List (Addr × Obj)} {σ : L2.St} {H : Hp} {s : Shared} {y : V} {u tb : Value} (I : Inv X pins σ H s) (r : RelV y u) (t : TyV X.K H y tb) : PySem.W.Looks (model X.prog X.w) s.heap (typeOf u) tb := by
  cases t with
  | non => cases (show u = Value.none from r); exact fun A Q E s1 _ h => by unfold typeOf; exact wpAny_pure h
  | bl b => cases (show u = Value.bool b from r); exact fun A Q E s1 _ h => by unfold typeOf; exact wpAny_pure h
  | int i => obtain ⟨t, rfl⟩ := (show ∃ t, u = Value.int i t from r); exact fun A Q E s1 _ h => by unfold typeOf; exact wpAny_pure h
  | str x => obtain ⟨t, rfl⟩ := (show ∃ t, u = Value.str x t from r); exact fun A Q E s1 _ h => by unfold typeOf; exact wpAny_pure h
  | tup h =>
    cases (show u = Value.ref _ from r)
    obtain ⟨its, r2, ⟨o, e, hc, n, hd⟩, z⟩ := I.tuple h
    exact hc ▸ (PySem.W.Looks.ld e).andThen .now
  | lst h =>
    cases (show u = Value.ref _ from r)
    obtain ⟨its, r2, ⟨o, n, e, hc, hd, hs⟩, z⟩ := I.list h
    exact hc ▸ (PySem.W.Looks.ld e).andThen .now
  | ins h =>
    cases (show u = Value.ref _ from r)
    obtain ⟨m, J, _⟩ := ins_get I.hok h
    obtain ⟨od, J, _⟩ := J.look
    exact J.type
theorem nf_sub {K : PySem.W.Frag} {tb : Value} (h : PySem.W.subIn K tb (.ref C) = some false) : PySem.W.notFirst K C tb = true := by
  unfold PySem.W.notFirst
  rw [h]
  simp
theorem nf_self {K : PySem.W.Frag} : PySem.W.notFirst K C (.ref C) = true := by simp [PySem.W.notFirst]
theorem kit_tyR {K : PySem.W.Frag} {n : String} {b : Bool} (hd : PySem.W.hasDictIn K C = true) (ht : PySem.W.typeIn K (.ref C) = some (.type "type")) (s : PySem.W.subIn K (.type n) (.ref C) = some b) : PySem.W.kitOne K (.type n) (.ref C) = some b := by
  obtain ⟨cd, hc, _⟩ := PySem.W.any_some hd
  unfold PySem.W.kitOne
  rw [if_neg (by intro z; have := eq_of_beq z; cases this)]
  show (if ((PySem.W.clsIn K C).isSome && PySem.W.typeIn K (.ref C) == some (.type "type")) = true then _ else none) = _
  rw [if_pos (by rw [hc, ht] <;> rfl)]
  exact s
/-- isinstance(e, (c1, c2, ..)), e the error that is handled -/
def rIsXT (K : PySem.W.Frag) (a : Addr) (cls : Value) (d : Option Addr) : List V → Hp → VK → Prop := fun xs H Q => ∃ (D tp : Addr) (cs : List V) (us : List Value) (b : Bool), cls = .ref D ∧ ErrC K D ∧ xs = [.ref a, .ref tp] ∧ H tp = some (.tup cs) ∧ Paired ClsV cs us ∧ PySem.W.kitAny K cls us = some b ∧
  (∀ dd, d = some dd → ∃ fs, H dd = some (.xd fs)) ∧ Q (.bl b) H
theorem call_isXT {a : Addr} {oe : Obj} {cls : Value} {d : Option Addr} (EK : ErrK X.K) (hp : (a, oe) ∈ X.pn) (hz : Zc cls d oe) (hf : ∃ vs, oe.data = .fields vs) : CallR X (.builtin "isinstance") (rIsXT X.K a cls d) := by
  intro pins s σ H xs us Q I r h
  obtain ⟨D, tp, cs, ws, b, ecls, C, rfl, hT, hcs, e, hd, q⟩ := h
  cases r with
  | cons rx rr =>
    cases rr with
    | cons rt rr =>
      cases rr
      cases rx
      cases rt
      subst ecls
      obtain ⟨_, its, rv, o, h1, h2, n, h3⟩ := (show ObjOk X.prog X.w H s.heap tp (.tup cs) from I.hok tp _ hT)
      have e3 := ClsV.all hcs rv
      subst e3
      obtain ⟨oc, odd, dt, sl⟩ := o
      simp only at h2 h3
      subst h2 h3
      obtain ⟨hget, _⟩ := I.pin (a, oe) (List.mem_append_left _ hp)
      obtain ⟨vs, hv⟩ := hf
      obtain ⟨od, J⟩ : ∃ od, PySem.W.InstAt s.heap a oe D od := by
        obtain ⟨oc, odi, oda, osl⟩ := oe
        obtain ⟨h1, h2⟩ := hz
        dsimp only at h1 h2 hv
        subst h1 h2 hv
        cases odi with
        | none => exact ⟨none, hget, rfl, rfl, trivial⟩
        | some dd =>
          obtain ⟨fs, hfs⟩ := hd dd rfl
          have hx : ObjOk X.prog X.w H s.heap dd (.xd fs) := I.hok dd _ hfs
          obtain ⟨mA, ⟨o, es, ep, ho, _⟩, _⟩ := hx
          exact ⟨some o, hget, rfl, rfl, ho⟩
      exact PySem.W.kia_tup (PySem.W.kitx_exc C.cl C.ga C.gg C.exC C.ac EK.hn EK.ht C.mo) I.kIn J h1 e (fun z => nomatch z) fun tk => ⟨.bl b, H, I.kept (t' := tk) fun _ _ z => z, rfl, q⟩
/-- x op y: an own method of x answers -/
def rOwnI (K : PySem.W.Frag) (C : Addr) (sp : Sp) : R2 := fun x y H Q => ∃ a dx fs tb, x = .ref a ∧ H a = some (.ins C dx fs) ∧ TyV K H y tb ∧ PySem.W.notFirst K C tb = true ∧ sp [x, y] H Q E0
theorem op_ownI {op : CmpOp} (hop : ∀ a b, compareOp op a b = richCompare op a b) (c : Mt X.prog X.w X.K X.mg X.base k C (cmpInfo op).2.1 sp []) (hr : Room j X.A) (hk : k ≤ j) : OpR X (compareOp op) (rOwnI X.K C sp) := by
  obtain ⟨f, fd, ps, ds, hc, hm, F, b, d⟩ := c.ex
  cases d
  intro pins s σ H x y v u Q I rx ry h
  obtain ⟨a, dx, fs, tb, rfl, ha, ht, hn, q⟩ := h
  cases (show v = Value.ref a from rx)
  obtain ⟨mA, J, _⟩ := ins_get I.hok ha
  obtain ⟨od, J, _⟩ := J.look
  obtain ⟨m, hF⟩ := I.fr
  rw [hop]
  refine PySem.W.cmp_K (op := op) (tb := tb) hr.units0 hF I.ok.mod.kin J (looks_ty I ry ht) hn hm.at_ hm.fn ?_
  refine wpAny_mono (run_fn (us := [.ref a, u]) (vs := [.ref a, y]) F (hr.mono hk) b .nil passL I (.cons rfl (.cons ry .nil)) q) (fun w s' z => ?_) fun _ _ x => x
  obtain ⟨z', H', I', rz, qz⟩ := z
  exact SlX.cmpback rz ⟨z', H', I', rz, qz⟩
end
end SI
set_option maxRecDepth 100000
set_option maxHeartbeats 4000000
/-! methods and classes called by keywords; a def in a suite that gets the error itself -/
namespace SI
open PySem PySem.Spec PyProof.Rows L2 NdefX
structure Mtd (P : Program) (w : World) (K : PySem.W.Frag) (mg : Str → Option Value) (base : Heap) (k : Nat) (C : Addr) (m qual : Str) (st : Stmt) (ps : List Str) (sp : Sp) : Prop where
  ex : ∃ (f : Addr) (fd : FuncData), Cls K C ∧ Meth K C m f ∧ FnOk P w K mg base (L2.CX P w) k f fd ps sp ∧ Fun K m qual st f fd ∧ Binds K fd ps []
structure Mkd (P : Program) (w : World) (K : PySem.W.Frag) (mg : Str → Option Value) (base : Heap) (k : Nat) (x : Str) (C : Addr) (qual : Str) (st : Stmt) (ps : List Str) (sp : Sp) : Prop where
  ex : ∃ (f : Addr) (fd : FuncData), Mk K C f ∧ FnOk P w K mg base (L2.CX P w) k f fd ps sp ∧ Fun K "__init__" qual st f fd ∧ mg x = some (.ref C) ∧ Binds K fd ps []
section
variable {P : Program} {w : World} {K : PySem.W.Frag} {mg : Str → Option Value} {base : Heap}
theorem Mtd.mt {k : Nat} {C : Addr} {m qual : Str} {st : Stmt} {ps : List Str} {sp : Sp} (c : Mtd P w K mg base k C m qual st ps sp) : Mt P w K mg base k C m sp [] := by
  obtain ⟨f, fd, hc, hm, F, _, b⟩ := c.ex
  exact ⟨f, fd, ps, [], hc, hm, F, b, .nil⟩
theorem Mkd.mkr {k : Nat} {x : Str} {C : Addr} {qual : Str} {st : Stmt} {ps : List Str} {sp : Sp} (c : Mkd P w K mg base k x C qual st ps sp) : Mkr P w K mg base k x C sp [] := by
  obtain ⟨f, fd, M, F, _, hm, b⟩ := c.ex
  exact ⟨f, fd, ps, [], M, F, hm, b, .nil⟩
theorem mtd_of {m qual : Str} {C : Addr} {st : Stmt} {N ps : List Str} {k : Nat} {sp : Sp} (D : MetAt K C m qual st ps) (S : FnScope N ps (defScope st)) (len : ∀ vs H Q E, sp vs H Q E → vs.length = ps.length)
    (hbody : ∀ (f : Addr) (cdv : Value) (A : Around) (outer : List Env) (s : Shared) (H : Hp) (vs : List V) (Q : VK) (E : XK), Room k (A.deeper (envOfC qual (defScope st) s.heap.objs.size f cdv)) → sp vs H Q E →
      ∃ t, PSs (cxOf (L2.CX P w) P w K mg base N qual (defScope st) f cdv A outer s H E) (defBody st) t ∧ t { nx := fun _ H' => Q .non H', rt := Q } (L2.start N vs) H) : Mtd P w K mg base (k + 1) C m qual st ps sp := by
  obtain ⟨f, fd, c, me, F, b⟩ := D.ex
  exact ⟨f, fd, c, me, F.okX S len (hbody f), F, b⟩
theorem mkd_of {x qual : Str} {C : Addr} {st : Stmt} {N ps : List Str} {k : Nat} {sp : Sp} (D : MakAt K mg x C qual st ps) (S : FnScope N ps (defScope st)) (len : ∀ vs H Q E, sp vs H Q E → vs.length = ps.length)
    (hbody : ∀ (f : Addr) (cdv : Value) (A : Around) (outer : List Env) (s : Shared) (H : Hp) (vs : List V) (Q : VK) (E : XK), Room k (A.deeper (envOfC qual (defScope st) s.heap.objs.size f cdv)) → sp vs H Q E →
      ∃ t, PSs (cxOf (L2.CX P w) P w K mg base N qual (defScope st) f cdv A outer s H E) (defBody st) t ∧ t { nx := fun _ H' => Q .non H', rt := Q } (L2.start N vs) H) : Mkd P w K mg base (k + 1) x C qual st ps sp := by
  obtain ⟨f, fd, M, F, hm, b⟩ := D.ex
  exact ⟨f, fd, M, F.okX S len (hbody f), F, hm, b⟩
end
theorem met_atX {K : PySem.W.Frag} {h : Heap} {x m qual : Str} {C : Addr} {st : Stmt} {ps : List Str} {f : Addr} {oc kV doc pm cdv ct : Value} {od an : Option Addr} {osl : Array (Option Value)} (_X : K.In h) (hb : BindOk m qual st ps)
    (_a : PySem.W.nsIn K mainGlobals x = some (some (.ref C))) (hC : Cls K C)
    (i : PySem.W.findIn K (.ref C) m = some (some (.ref f))) (n : PySem.W.isFn K (.ref f) = true)
    (l : K.lookup f = some ⟨oc, od, .func (PySem.W.fnOf m qual (defArgs st) (defBody st) (defScope st) .none kV doc pm an cdv ct), osl⟩)
    (c : PySem.W.codeIn K cdv qual = true) (k : PySem.W.keepIn K (.ref f) = true) {R : Prop} (r : MetAt K C m qual st ps → R) : R := met_at hC hb i n l c k r
/-- o.m(k = v, ..): ks the keywords in the call's order, g puts their values in the parameters' order -/
def tMethK (C : Addr) (m : Str) (n : Nat) (sp : Sp) (gV : List V → List V) (E : XK) (ta : TE) (tk : TA) : TE := fun σ H Q => ta σ H fun x H1 => ∃ a dx fs, x = .ref a ∧ H1 a = some (.ins C dx fs) ∧ fs.lookup m = none ∧
  tk σ H1 fun zs H2 => zs.length = n ∧ sp (x :: gV zs) H2 Q E
section
variable {X : Cx} {k j : Nat} {C : Addr} {x m qual : Str} {st : Stmt} {ps ks : List Str} {sp : Sp} {p pos apos : Pos} {e o : Expr} {es : List Expr} {kws : List Keyword} {ta : TE} {t tk : TA} {g : {α : Type} → List α → List α}
theorem pe_mtK0 {pl : Sem Bool} (c : Mtd X.prog X.w X.K X.mg X.base k C m qual st ps sp) (hr : Room j X.A) (hk : k ≤ j) (he : PE X o ta) (hkw : PK X kws tk)
    (hb : ∀ (kV doc pm : Value) (an : Option Addr) (cdv ct sv : Value) (ws : List Value), ws.length = ks.length → bindArgs (PySem.W.fnOf m qual (defArgs st) (defBody st) (defScope st) .none kV doc pm an cdv ct) ⟨[sv], ks.zip ws⟩ = pure (ps.zip (sv :: g ws)))
    (hrel : ∀ {zs : List V} {ws : List Value}, Vals zs ws → Vals (g zs) (g ws))
    (hall : (backToKw pos (keywordEach kws X.env)).all (·.1.isSome) = true := by rfl) (hks : (backToKw pos (keywordEach kws X.env)).filterMap (·.1) = ks := by rfl)
    (hpl : ((backTo pos (starEach [] X.env)).any (·.1) || (backToKw pos (keywordEach kws X.env)).any (·.1.isNone)) = false := by rfl)
    (ht : eval (.Call (.Attribute o m apos) [] kws pos) X.env = (do
      let ov ← eval o X.env
      standAt apos.atName
      let (f, first) ← holding [ov] (getMethod ov m pl)
      callWith pos f first (backTo pos (starEach [] X.env)) (backToKw pos (keywordEach kws X.env))) := by rfl) :
    PE X (.Call (.Attribute o m apos) [] kws pos) (tMethK C m ks.length sp g E0 ta tk) := by
  obtain ⟨f, fd, hc, hm, F, Fn, _⟩ := c.ex
  refine ⟨fun pins s σ H Q I h => PySem.W.methodCall_KW (pl := pl) (thn (he.run pins s σ H _ I h) fun u s1 ⟨x, H1, I1, rx, a, dx, fs, ex, ea, l, q⟩ => ?_) ht⟩
  subst ex
  obtain rfl : u = Value.ref a := rx
  refine getmeth_ok I1 ea hc hm l (PySem.W.callWith_KW0 (first := [.ref a]) (h₀ := X.base) I.ok.mod.kin hm.kp hall (thn (hkw.run pos pins s1 σ H1 _ I1 q) fun ws s2 ⟨zs, H2, I2, rz, l2, q2⟩ => ⟨I2.kIn, ?_⟩) hpl)
  rw [hks]
  obtain ⟨oc, od, kV, doc, pm, an, cdv, ct, osl, rfl, lk, hcd⟩ := Fn.ex
  have b : KBn X.K (PySem.W.fnOf m qual (defArgs st) (defBody st) (defScope st) .none kV doc pm an cdv ct) ps 1 ks (fun us ws => us ++ g ws) (fun vs zs => vs ++ g zs) :=
    ⟨fun s us ws _ l1 l2 => by
      match us, l1 with
      | [sv], _ => exact BindsTo.of_eq (hb kV doc pm an cdv ct sv ws l2), fun r1 r => r1.append (hrel r)⟩
  exact run_fnN (us := [.ref a]) (vs := [.ref a]) (F.mono hk) hr b passL I2 (.cons rfl .nil) rz rfl l2 q2
/-- C(k = v, ..) -/
theorem pe_mkK0 (c : Mkd X.prog X.w X.K X.mg X.base k x C qual st ps sp) (hr : Room j X.A) (hk : k + 1 ≤ j) (hg : Gl X x) (hkw : PK X kws tk)
    (hb : ∀ (kV doc pm : Value) (an : Option Addr) (cdv ct sv : Value) (ws : List Value), ws.length = ks.length → bindArgs (PySem.W.fnOf "__init__" qual (defArgs st) (defBody st) (defScope st) .none kV doc pm an cdv ct) ⟨[sv], ks.zip ws⟩ = pure (ps.zip (sv :: g ws)))
    (hrel : ∀ {zs : List V} {ws : List Value}, Vals zs ws → Vals (g zs) (g ws))
    (hall : (backToKw pos (keywordEach kws X.env)).all (·.1.isSome) = true := by rfl) (hks : (backToKw pos (keywordEach kws X.env)).filterMap (·.1) = ks := by rfl) (hdb : (x == ("__debug__" : Str)) = false := by decide)
    (hpl : ((backTo pos (starEach [] X.env)).any (·.1) || (backToKw pos (keywordEach kws X.env)).any (·.1.isNone)) = false := by rfl) :
    PE X (.Call (.Name x p) [] kws pos) (tMakeK C 0 ks.length sp (fun vs zs => vs ++ g zs) E0 tNil tk) := by
  obtain ⟨f, fd, M, F, Fn, hm, _⟩ := c.ex
  obtain ⟨oc, od, kV, doc, pm, an, cdv, ct, osl, rfl, lk, hcd⟩ := Fn.ex
  have b : KBn X.K (PySem.W.fnOf "__init__" qual (defArgs st) (defBody st) (defScope st) .none kV doc pm an cdv ct) ps 1 ks (fun us ws => us ++ g ws) (fun vs zs => vs ++ g zs) :=
    ⟨fun s us ws _ l1 l2 => by
      match us, l1 with
      | [sv], _ => exact BindsTo.of_eq (hb kV doc pm an cdv ct sv ws l2), fun r1 r => r1.append (hrel r)⟩
  exact pe_makeK0 M F (hr.mono hk) hg hm b passL hkw hall hks hdb hpl
/-- a def in a suite, that reads the error it is given -/
theorem pe_cWE {a : Addr} {oe : Obj} {cls : Value} {d : Option Addr} {pn : List (Addr × Obj)} {sp' : Addr → Value → Option Addr → Sp} {q : Pos} (hz : Zc cls d oe) (hf : ∃ vs, oe.data = .fields vs)
    (c : ClW X.prog X.w X.K X.mg X.base k x (fun p vs H Q E => ∃ cls d, Zc cls d p.2 ∧ (∃ vs, p.2.data = .fields vs) ∧ sp' p.1 cls d vs H Q E)) (hr : Room j X.A) (hk : k ≤ j) (hg : Gl X x) (ha : PA (X.suite a ((a, oe) :: pn)) (e :: es) t)
    (hdb : (x == ("__debug__" : Str)) = false := by decide) (he : starEach (e :: es) X.env = (false, eval e X.env) :: starEach es X.env := by rfl) (hpl : (backTo pos (starEach es X.env)).any (·.1) = false := by rfl) :
    PE (X.suite a ((a, oe) :: pn)) (.Call (.Name x q) (e :: es) [] pos) (tCallS (sp' a cls d) (fun _ => E0) t) := by
  obtain ⟨f, fd, ps, F, hm, kp, b⟩ := c.ex
  refine ⟨fun pins s σ H Q I h => wpAny_Call_Name_kw (ld_glob I hg hm ?_ hdb)⟩
  exact PySem.W.callWith_K (h₀ := X.base) I.ok.mod.kin kp (thn (ha.run pos pins s σ H _ I h) fun us s1 ⟨vs, H1, I1, r, q⟩ => ⟨I1.kIn, run_fnW (X := X.suite a ((a, oe) :: pn)) (E := fun _ => E0) (p := (a, oe)) F ((room_mark hr _).mono hk) List.mem_cons_self b passA0 I1 r ⟨cls, d, hz, hf, q⟩⟩) he hpl
end
end SI
set_option maxRecDepth 100000
set_option maxHeartbeats 4000000
/-! defs with defaults under their names -/
namespace SI
open PySem PySem.Spec PyProof.Rows L2 NdefX
structure DefD (K : PySem.W.Frag) (mg : Str → Option Value) (x : Str) (st : Stmt) (dvs : List V) : Prop where
  ex : ∃ (f : Addr) (fd : FuncData), FunD K x x (defArgs st) (defBody st) (defScope st) dvs [] f fd ∧ mg x = some (.ref f)
structure CdD (P : Program) (w : World) (K : PySem.W.Frag) (mg : Str → Option Value) (base : Heap) (k : Nat) (x : Str) (st : Stmt) (ps : List Str) (sp : Sp) (dvs : List V) : Prop where
  ex : ∃ (f : Addr) (fd : FuncData), FnOk P w K mg base (L2.CX P w) k f fd ps sp ∧ FunD K x x (defArgs st) (defBody st) (defScope st) dvs [] f fd ∧ mg x = some (.ref f)
section
variable {P : Program} {w : World} {K : PySem.W.Frag} {mg : Str → Option Value} {base h : Heap}
theorem cdd_of {x : Str} {st : Stmt} {N ps : List Str} {k : Nat} {sp : Sp} {dvs : List V} (D : DefD K mg x st dvs) (S : FnScope N ps (defScope st)) (len : ∀ vs H Q E, sp vs H Q E → vs.length = ps.length)
    (hbody : ∀ (f : Addr) (cdv : Value) (A : Around) (outer : List Env) (s : Shared) (H : Hp) (vs : List V) (Q : VK) (E : XK), Room k (A.deeper (envOfC x (defScope st) s.heap.objs.size f cdv)) → sp vs H Q E →
      ∃ t, PSs (cxOf (L2.CX P w) P w K mg base N x (defScope st) f cdv A outer s H E) (defBody st) t ∧ t { nx := fun _ H' => Q .non H', rt := Q } (L2.start N vs) H) : CdD P w K mg base (k + 1) x st ps sp dvs := by
  obtain ⟨f, fd, F, hm⟩ := D.ex
  exact ⟨f, fd, F.ok S len (hbody f), F, hm⟩
/-- called with all but the last dvs.length - j values -/
theorem CdD.cl {k : Nat} {x : Str} {st : Stmt} {ps : List Str} {sp : Sp} {dvs : List V} (c : CdD P w K mg base k x st ps sp dvs) (n j : Nat) (hd : dvs ≠ []) (hn : n + (dvs.length - j) = ps.length)
    (hb : ∀ (T : Addr) (kV doc pm : Value) (an : Option Addr) (cdv ct : Value) (us its : List Value), us.length = n → its.length = dvs.length →
      ∃ k, bindArgs (PySem.W.fnOf x x (defArgs st) (defBody st) (defScope st) (.ref T) kV doc pm an cdv ct) ⟨us, []⟩ = seqItems? (.ref T) >>= k ∧ k (some its.toArray) = pure (ps.zip (us ++ its.drop j))) : Cl P w K mg base k x sp (dvs.drop j) := by
  obtain ⟨f, fd, F, Fn, hm⟩ := c.ex
  obtain ⟨ds, hv, b⟩ := Fn.binds1 n j hd hn hb
  exact ⟨f, fd, ps, ds, F, hm, Fn.kp, b, hv⟩
theorem defd_at {x : Str} {st : Stmt} {dvs : List V} {f T : Addr} {oc kV doc pm cdv ct toc : Value} {od an tod : Option Addr} {osl tsl : Array (Option Value)} {its : List Value} {n : Nat} (X : K.In h) (G : h.Ns mainGlobals mg)
    (a : PySem.W.nsIn K mainGlobals x = some (some (.ref f))) (l : K.lookup f = some ⟨oc, od, .func (PySem.W.fnOf x x (defArgs st) (defBody st) (defScope st) (.ref T) kV doc pm an cdv ct), osl⟩)
    (c : PySem.W.codeIn K cdv x = true) (k : PySem.W.keepIn K (.ref f) = true) (t : K.lookup T = some ⟨toc, tod, .seq its.toArray n, tsl⟩) (hd : dvs ≠ []) (hv : Vals dvs its) {R : Prop} (r : DefD K mg x st dvs → R) : R :=
  r ⟨f, _, ⟨⟨oc, od, .ref T, kV, doc, pm, an, cdv, ct, osl, rfl, l, c, .inr ⟨hd, T, _, its, n, rfl, t, rfl, hv⟩, .inl rfl⟩, k⟩, PySem.W.mg_of X G a⟩
end
section
variable {X : Cx} {k j : Nat} {x : Str} {st : Stmt} {ps ks : List Str} {sp : Sp} {dvs : List V} {p pos : Pos} {kws : List Keyword} {tk : TA} {g : {α : Type} → List α → List α → List α}
/-- f(k = v, ..): g puts the defaults and the keywords' values in the parameters' order -/
theorem pe_cKD (c : CdD X.prog X.w X.K X.mg X.base k x st ps sp dvs) (hr : Room j X.A) (hk : k ≤ j) (hg : Gl X x) (hkw : PK X kws tk) (hd : dvs ≠ [])
    (hrel : ∀ {ds zs : List V} {its ws : List Value}, Vals ds its → Vals zs ws → Vals (g ds zs) (g its ws))
    (hb : ∀ (T : Addr) (kV doc pm : Value) (an : Option Addr) (cdv ct : Value) (us its ws : List Value), us.length = 0 → its.length = dvs.length → ws.length = ks.length →
      ∃ k, bindArgs (PySem.W.fnOf x x (defArgs st) (defBody st) (defScope st) (.ref T) kV doc pm an cdv ct) ⟨us, ks.zip ws⟩ = seqItems? (.ref T) >>= k ∧ k (some its.toArray) = pure (ps.zip (us ++ g its ws)))
    (hall : (backToKw pos (keywordEach kws X.env)).all (·.1.isSome) = true := by rfl) (hks : (backToKw pos (keywordEach kws X.env)).filterMap (·.1) = ks := by rfl)
    (hdb : (x == ("__debug__" : Str)) = false := by decide) (hpl : ((backTo pos (starEach [] X.env)).any (·.1) || (backToKw pos (keywordEach kws X.env)).any (·.1.isNone)) = false := by rfl) :
    PE X (.Call (.Name x p) [] kws pos) (tK0 ks.length sp (g dvs) tk) := by
  obtain ⟨f, fd, F, Fn, hm⟩ := c.ex
  obtain ⟨its, b⟩ := Fn.kbindsD 0 ks (fun vs ds zs => vs ++ g ds zs) hd (fun r1 r2 r3 => r1.append (hrel r2 r3)) hb
  refine ⟨fun pins s σ H Q I h => wpAny_Call_Name_kw (ld_glob I hg hm ?_ hdb)⟩
  refine PySem.W.callWith_KW0 (h₀ := X.base) I.ok.mod.kin Fn.kp hall (thn (hkw.run pos pins s σ H _ I h) fun ws s2 ⟨zs, H2, I2, rz, l2, q2⟩ => ⟨I2.kIn, ?_⟩) hpl
  rw [hks]
  exact run_fnN (us := []) (vs := []) (F.mono hk) hr b passL I2 .nil rz rfl l2 q2
end
end SI
set_option maxRecDepth 100000
set_option maxHeartbeats 4000000
/-! xs[i] op= e of a list -/
namespace SI
open PySem PySem.Spec PyProof.Rows L2
theorem get_list {X : Cx} : PGet X (fun o i H Q => ∃ (p : Addr) (xs : List V) (k : Int) (z : V), o = .ref p ∧ i = .int k ∧ 0 ≤ k ∧ SqL X.K H p xs ∧ atI xs k = some z ∧ Q z H) := by
  intro pins s σ H o i ov iv Q I rx ry h
  obtain ⟨p, xs, k, z, rfl, rfl, h0, hq, he, q⟩ := h
  cases rx
  obtain ⟨t, rfl⟩ := ry
  obtain ⟨its, r, pl, hz⟩ := I.list hq
  obtain ⟨j, h1, h2, h3, h4, h5⟩ := atI_get he
  obtain ⟨w, ew, rw'⟩ := r.get h2
  have hl := r.length
  have hn := line63
  have hj : k.toNat = j := by
    rw [seqIndex_of h0 h5] at h1
    exact Option.some.inj h1
  exact wpAny_getItem_list pl.isList h0 (by omega) (by rw [hj]; simpa using ew) ⟨z, H, I, rw', q⟩
end SI
set_option maxRecDepth 100000
set_option maxHeartbeats 4000000
/-! sorted(xs), xs a list of tuples of ints, any number of them -/
namespace SI
open PySem PySem.Spec PyProof.Rows L2 PySem.W
def encR (b : V × List Int) : PyData := .tuple (b.2.map .int)
/-- the order of rows -/
def leR (r t : List Int) : Bool := dataLe false (fun b : List Int => PyData.tuple (b.map .int)) r t
def srtR (rows : List (List Int)) : List (List Int) := rows.mergeSort leR
def srtP (bs : List (V × List Int)) : List (V × List Int) := bs.mergeSort (dataLe false encR)
theorem srtP_snd (bs : List (V × List Int)) : (srtP bs).map Prod.snd = srtR (bs.map Prod.snd) := by
  unfold srtP srtR
  exact sort_maps (r := dataLe false encR) (s := leR) Prod.snd fun _ _ _ _ => rfl
theorem srtP_perm (bs : List (V × List Int)) : (srtP bs).Perm bs := List.mergeSort_perm _ _
theorem srtR_perm (rows : List (List Int)) : (srtR rows).Perm rows := List.mergeSort_perm _ _
def RowIs (K : PySem.W.Frag) (H : Hp) (b : V × List Int) : Prop := ∃ t, b.1 = .ref t ∧ SqT K H t (b.2.map V.int)
theorem dp_ints {K : PySem.W.Frag} {H : Hp} : ∀ ns : List Int, DpAll K H (ns.map V.int) (ns.map PyData.int)
  | [] => .nil
  | n :: ns => .cons (.int n) (dp_ints ns)
/-- sorted(xs) -/
def rSortR (K : PySem.W.Frag) : List V → Hp → VK → Prop := fun vs H Q => ∃ (a : Addr) (bs : List (V × List Int)), vs = [.ref a] ∧ SqL K H a (bs.map Prod.fst) ∧ (∀ b ∈ bs, b.2 ≠ [] ∧ RowIs K H b) ∧
  ∀ p, H p = none → Q (.ref p) (upd H p (.lst ((srtP bs).map Prod.fst)))
theorem cr_sortR {X : Cx} (hu : X.A.units + 64 < cLine) : CallR X (.builtin "sorted") (rSortR X.K) := by
  intro pins s σ H vs us Q I r h
  obtain ⟨a, bs, rfl, hs, hb, q⟩ := h
  rw [Vals.ref1 r]
  obtain ⟨its, rv, hl, hz⟩ := I.list hs
  have hlen : its.length = bs.length := by rw [← rv.length, List.length_map]
  rw [List.length_map] at hz
  -- the values and their rows
  have pr : ∀ {vs : List Value} {cs : List (V × List Int)}, Vals (cs.map Prod.fst) vs → EachIs (fun v b => RelV b.1 v) vs cs := by
    intro vs cs
    induction cs generalizing vs with
    | nil => intro g; cases g; exact .nil
    | cons c cs ih =>
      intro g
      cases g with
      | cons g1 g2 => exact .cons g1 (ih g2)
  have bk : ∀ {vs : List Value} {cs : List (V × List Int)}, EachIs (fun v b => RelV b.1 v) vs cs → Vals (cs.map Prod.fst) vs := by
    intro vs cs g
    induction g with
    | nil => exact .nil
    | cons g1 _ ih => exact .cons g1 ih
  have rd : ∀ {vs : List Value} {cs : List (V × List Int)}, (∀ b ∈ cs, RowIs X.K H b) → EachIs (fun v b => RelV b.1 v) vs cs → EachIs (fun v b => ∃ as, Reads s.heap v (encR b) as) vs cs := by
    intro vs cs hc g
    induction g with
    | nil => exact .nil
    | @cons v b vs cs g1 g2 ih =>
      refine .cons ?_ (ih fun c hc' => hc c (List.mem_cons_of_mem _ hc'))
      obtain ⟨t, e, ht⟩ := hc b List.mem_cons_self
      rw [e] at g1
      exact Dp.reads I _ _ _ (.tup ht (dp_ints _)) g1
  have e1 := pr rv
  refine sorted_data (enc := encR) hl.isList e1 (rd (fun b hb' => (hb b hb').2) e1) ?_ ?_ hz (fun b _ => ?_) fun out ho hout => ?_
  · intro d hd d' hd'
    obtain ⟨b, _, rfl⟩ := List.mem_map.mp hd
    obtain ⟨b', _, rfl⟩ := List.mem_map.mp hd'
    show alike (.tuple _) (.tuple _) = true
    unfold alike
    exact alike_ints b.2 b'.2
  · refine .inl fun d hd => ?_
    obtain ⟨b, hb1, rfl⟩ := List.mem_map.mp hd
    have := (hb b hb1).1
    unfold encR
    cases e : b.2 with
    | nil => exact absurd e this
    | cons n ns => exact ⟨_, _, rfl⟩
  · show _ + 2 + (PyData.depthAll (b.2.map .int) + 1) < _
    rw [depth_ints]
    omega
  · obtain ⟨ep, he⟩ := PyProof.Rows.sortedAll_at s.heap its out.toArray
    have hl2 : ((srtP bs).map Prod.fst).length = bs.length := by rw [List.length_map, (srtP_perm bs).length_eq]
    have L := I.laid (a := s.heap.objs.size + 1) (o := .lst ((srtP bs).map Prod.fst)) (t' := s.toks) (fun _ _ => PyProof.Rows.sortedAll_old (vs := its) (out := out.toArray)) (Nat.le_succ _) ⟨by rw [hl2]; exact hz, out, ep, bk hout, he⟩
    exact ⟨.ref _, _, L, rfl, q _ (I.hok.fresh (Nat.le_succ _))⟩
end SI
set_option maxRecDepth 100000
set_option maxHeartbeats 4000000
/-! {k: v for .. in ..} whose keys may be tuples -/
namespace SI
open PySem PySem.Spec PyProof.Rows L2
section
variable {X : Cx}
/-- one entry of the new dict -/
theorem entryT {ps : List (Addr × Obj)} {σ : L2.St} {G G' : Hp} {z : Shared} {Er : Value → Shared → Prop} {D : Addr} {y v : V} {yv vv : Value} {R : Unit → Shared → Prop} (hu : X.A.units + 1 < cLine) (J : Inv X ps σ G z) (g : DPut G D y v G')
    (hy : RelV y yv) (hv : RelV v vv) (fin : ∀ z', Inv X ps σ G' z' → R () z') : wpAny (model X.prog X.w) X.A (dictSet D yv vv) R Er z := by
  rcases g with ⟨kvs, k, eD, rfl, hz, rfl⟩ | ⟨kvs, k, b, eD, rfl, eb, hz, rfl⟩
  · exact d_dictSet J eD hz hy hv fin
  · cases hy
    obtain ⟨hmax, hsys, tab, rel, there⟩ := dt_of J.hok eD
    have small : tab.length ≤ sizeLine := by rw [← Paired.length rel]; exact hmax
    have small' : (putK kvs k v).length ≤ sizeLine := Nat.le_trans (length_putK kvs k v) (by omega)
    refine wpAny_dictSet_heap (hsz := small) (show X.A.units < cLine by omega) (key_of J.hok eb) there fun hp st same => fin _ ?_
    obtain ⟨ob, ents, epoch, h1, h2, h3, h4, _, h5⟩ := st
    refine d_write J (by rw [eD]; trivial) same ⟨ob, h1⟩ ⟨small', hsys, _, ?_, ob, ents, epoch, h1, h2, h3, h4, h5⟩
    refine (rel.put k eb hv).keeps fun c zs ec => ?_
    have nc : c ≠ D := ne_of ec eD (by intro q; cases q)
    rw [upd_ne nc]
    exact ec
def tDcT (wi : TI) (g : TG) (tt : TT) (tk tv : TE) (vs : List Nat) : TE := fun σ H Q => wi σ H fun J H1 => ∀ D, H1 D = none → ∃ W : Nat → Nat → Hp → Prop, (∃ m, W 0 m (upd H1 D (.dT []))) ∧ ∀ i m G, W i m G →
  (J.stop i G ∧ Q (.ref D) G) ∨ (J.go i G ∧ ∃ N : Hp → Prop, (∀ G', N G' → ∃ m', m' < m ∧ W (i + 1) m' G') ∧ ∀ x G', J.yld i G x G' → g x (wipe σ vs) G' fun σ2 G2 => wipe σ2 vs = wipe σ vs ∧ tt σ2 G2 fun b G3 =>
    if b = true then tk σ2 G3 fun y G4 => tv σ2 G4 fun z G5 => ∃ G6, DPut G5 D y z G6 ∧ N G6 else N G3)
theorem pe_dcT {kx vx tg iter : Expr} {ifs : List Expr} {scope : Scope} {own : List (Str × Nat)} {pos : Pos} {wi : TI} {g : TG} {tt : TT} {tk tv : TE} (hu : X.A.units + 1 < cLine) (hc : X.calm = true) (hN : X.N.Nodup) (hi : PI X tg iter wi) (ok : BlkOk X.N X.env.scope scope own)
    (pg : ∀ (s : Shared) (H : Hp) (C : Addr) (cl : List (Str × Addr)) (fp : List Addr), PG (X.blk s H scope (compEnvC scope cl C X.env) fp) tg g)
    (pt : ∀ (s : Shared) (H : Hp) (C : Addr) (cl : List (Str × Addr)) (fp : List Addr), PTs (X.blk s H scope (compEnvC scope cl C X.env) fp) ifs tt)
    (pk : ∀ (s : Shared) (H : Hp) (C : Addr) (cl : List (Str × Addr)) (fp : List Addr), PE (X.blk s H scope (compEnvC scope cl C X.env) fp) kx tk)
    (pv : ∀ (s : Shared) (H : Hp) (C : Addr) (cl : List (Str × Addr)) (fp : List Addr), PE (X.blk s H scope (compEnvC scope cl C X.env) fp) vx tv)
    (hs : ∀ x, foldedSetIterable iter X.env x = pure x := by intro _; rfl) : PE X (.DictComp kx vx [⟨tg, iter, ifs, 0⟩] scope pos) (tDcT wi g tt tk tv (own.map (·.2))) := by
  constructor
  intro pins s σ H Q I h
  rw [arm_eval_DictComp]
  have known : ∀ y ∈ scope.names, y.2 = .free → ∃ c, X.env.cells.lookup y.1 = some c := by
    intro y hy e
    exact (ok.free y hy e).elim (fun k => I.ok.has _ (.inl k)) fun k => I.ok.has _ (.inr k)
  refine wpAny_comprehension_free (use := none) rfl hs (closure_ok known) ok.kind (fun y hy e => by rw [ok.uniq y hy, e]) ?_
  refine thn (hi.run pins s σ H _ I h) fun itb sA gA => thn gA fun itv sB gB => ?_
  obtain ⟨itA, fp, tn, J, HB, rfl, IB, tu, stB, fpB, q⟩ := gB
  refine wpAny_newObj_type (newEnv_comp ?_)
  -- D: where the new dict lies
  obtain ⟨D, hD⟩ : ∃ D, D = sB.heap.objs.size := ⟨_, rfl⟩
  have newD : HB D = none := IB.hok.fresh (Nat.le_of_eq hD.symm)
  rw [← hD]
  obtain ⟨W, ⟨m0, start⟩, turn⟩ := q D newD
  let mty : Obj := { cls := .type "dict", data := .dict #[] }
  obtain ⟨sC, hsC⟩ : ∃ z : Shared, z = { sB with heap := sB.heap.push mty } := ⟨_, rfl⟩
  have heC : sC.heap = sB.heap.push mty := congrArg Shared.heap hsC
  have IC : Inv X pins σ (upd HB D (.dT [])) sC := by
    have lay : ObjOk X.prog X.w (upd HB D (.dT [])) (sB.heap.push mty) D (.dT []) := by rw [hD]; exact dt_empty sB.heap IB.big
    rw [hsC]
    exact IB.laid (t' := sB.toks) (fun b o e => Heap.get?_push_of_some _ e) (Nat.le_of_eq hD.symm) lay
  have fpC : ∀ b ∈ fp, FpOk X pins (upd HB D (.dT [])) b ∧ b < sC.heap.objs.size := by
    intro b hb
    obtain ⟨o, e, _⟩ := tu.obj _ _ stB b hb
    have lt := Heap.lt_size e
    have ne : b ≠ D := by rw [hD]; exact Nat.ne_of_lt lt
    refine ⟨⟨?_, (fpB b hb).2⟩, ?_⟩
    · rw [upd_ne ne]; exact (fpB b hb).1
    · rw [heC, Heap.size_push]; exact Nat.lt_succ_of_lt lt
  have stC : tn 0 sC.heap := tu.keep _ _ _ stB fun b _ o e => by rw [heC]; exact Heap.get?_push_of_some _ e
  have blk0 := block_start IC ok hN fpC
  obtain ⟨HC, hHC⟩ : ∃ G, G = upd HB D (.dT []) := ⟨_, rfl⟩
  rw [← hHC] at IC fpC blk0 start
  obtain ⟨cen, hcen⟩ : ∃ e, e = compEnvC scope (cellsFrom (sC.heap.objs.size + 1) scope.names (cloFrom X.env.cells scope.names [])) sC.heap.objs.size X.env := ⟨_, rfl⟩
  have PGs := pg sC HC sC.heap.objs.size (cellsFrom (sC.heap.objs.size + 1) scope.names (cloFrom X.env.cells scope.names [])) fp
  have PTs_ := pt sC HC sC.heap.objs.size (cellsFrom (sC.heap.objs.size + 1) scope.names (cloFrom X.env.cells scope.names [])) fp
  have PKs := pk sC HC sC.heap.objs.size (cellsFrom (sC.heap.objs.size + 1) scope.names (cloFrom X.env.cells scope.names [])) fp
  have PVs := pv sC HC sC.heap.objs.size (cellsFrom (sC.heap.objs.size + 1) scope.names (cloFrom X.env.cells scope.names [])) fp
  rw [← hcen] at blk0 PGs PTs_ PKs PVs
  have locC : cen.locals = sC.heap.objs.size := by rw [hcen]; rfl
  obtain ⟨sD, hsD⟩ : ∃ z : Shared, z = { sC with heap := pushCells (sC.heap.push mty) scope.names } := ⟨_, rfl⟩
  have blk1 : Inv (X.blk sC HC scope cen fp) [] (wipe σ (own.map (·.2))) HC sD := by rw [hsD]; exact blk0
  have stD : tn 0 sD.heap := tu.keep _ _ _ stC fun b _ o e => by rw [hsD]; exact pushCells_keeps _ _ _ _ (Heap.get?_push_of_some _ e)
  have goal0 : ∀ {Qf : Value → Shared → Prop}, codeAny (model X.prog X.w) X.A (.compStart (.DictComp kx vx [⟨tg, iter, ifs, 0⟩] scope pos) 0 (.ref itA) (.ref D) cen) (compPost (model X.prog X.w) X.A X.xe none Qf (.ref D) sC.heap.objs.size) sD →
      codeAny (model X.prog X.w) X.A (.compStart (.DictComp kx vx [⟨tg, iter, ifs, 0⟩] scope pos) 0 (.ref itA) (.ref D) (compEnvC scope (cellsFrom (sC.heap.objs.size + 1) scope.names (cloFrom X.env.cells scope.names [])) sC.heap.objs.size X.env)) (compPost (model X.prog X.w) X.A X.xe none Qf (.ref D) sC.heap.objs.size) { sC with heap := pushCells (sC.heap.push mty) scope.names } := by
    intro Qf z
    rw [← hcen, ← hsD]
    exact z
  suffices key : codeAny (model X.prog X.w) X.A (.compStart (.DictComp kx vx [⟨tg, iter, ifs, 0⟩] scope pos) 0 (.ref itA) (.ref D) cen) (compPost (model X.prog X.w) X.A X.xe none (EP X pins σ Q) (.ref D) sC.heap.objs.size) sD by
    have key2 := goal0 key
    rw [hsC] at key2
    exact key2
  have unseen : ∀ b ∈ fp, HC b = none := fun b hb => (fpC b hb).1.1
  have stays : ∀ {σ1 : L2.St} {G : Hp} {z : Shared}, Inv (X.blk sC HC scope cen fp) [] σ1 G z → (∀ b ∈ fp, G b = none) → ∀ b ∈ fp, FpOk (X.blk sC HC scope cen fp) [] G b := by
    intro σ1 G z Iz nz b hb
    refine ⟨nz b hb, (Iz.ok.exf b hb).1, Iz.ok.exfs b hb, .inl hb, fun x c e => (Iz.ok.exf b hb).2 x c e, fun p hp => ?_⟩
    have : p ∈ ([] : List (Addr × Obj)) ++ [] := hp
    simp at this
  have walkAll : codeAny (model X.prog X.w) X.A (.compLoop (.DictComp kx vx [⟨tg, iter, ifs, 0⟩] scope pos) 0 (.ref itA) (.ref D) cen) (compPost (model X.prog X.w) X.A X.xe none (EP X pins σ Q) (.ref D) sC.heap.objs.size) sD := by
    refine compLoop_anyD (fun n z => ∃ i G, Inv (X.blk sC HC scope cen fp) [] (wipe σ (own.map (·.2))) G z ∧ tn i z.heap ∧ (∀ b ∈ fp, G b = none) ∧ W i n G) (fun n z hz => ?_) m0 ⟨0, HC, blk1, stD, unseen, start⟩
    obtain ⟨i, G, Iz, stz, nz, wz⟩ := hz
    rcases turn i n G wz with ⟨halt, res⟩ | ⟨more, Nx, down, each⟩
    · -- the end
      refine thnF (tu.done (X.blk sC HC scope cen fp) rfl rfl rfl hc i [] z _ G (fun _ _ => False) Iz (stays Iz nz) stz halt) fun r z2 gz => ?_
      obtain ⟨rfl, I2⟩ := gz
      have back : Inv X pins σ G z2 := IC.call' (ch := fp) I2.os I2.base I2.hok I2.bare fun b hb => by
        have f := (fpC b hb).1
        exact ⟨f.2.2.2.1, f.2.1, f.2.2.2.2.1, f.2.2.2.2.2⟩
      have gone : G sC.heap.objs.size = none := by rw [← locC]; exact I2.free
      obtain ⟨mm, hmm, _⟩ := I2.loc
      have hmm2 : z2.heap.Ns sC.heap.objs.size mm := by rw [← locC]; exact hmm
      obtain ⟨f0, f1, f2, f3, f4, f5⟩ := IC.fpOk (H' := G) (Nat.le_refl _) gone
      refine ⟨mm, hmm2, fun hx same => ⟨.ref D, G, ?_, rfl, res⟩⟩
      exact back.turned (t' := z2.toks) (fun b o hb e => (same.2 b hb).trans e) f0 f1 f3 f4 f5
    · -- one more
      refine thnF (tu.item (X.blk sC HC scope cen fp) rfl rfl rfl hc i [] z _ G (fun _ _ => False) Iz (stays Iz nz) stz more) fun r z2 gz => ?_
      obtain ⟨u, rfl, g2⟩ := gz
      refine thnF g2 fun _ z3 g3 => ?_
      obtain ⟨x, G3, I3, rx, yl, st3, n3⟩ := g3
      have held := I3.pinned (stays I3 n3) (tu.obj _ _ st3)
      refine thnF (PGs.run _ z3 _ G3 x u _ held rx (each x G3 yl)) fun _ z4 g4 => ?_
      obtain ⟨σ4, G4, I4, hw, q4⟩ := g4
      refine thnF (PTs_.run _ z4 σ4 G4 _ I4 q4) fun b z5 g5 => ?_
      obtain ⟨G5, I5, q5⟩ := g5
      have close : ∀ {z' : Shared} {G' : Hp}, Inv (X.blk sC HC scope cen fp) ([] ++ pinsAt fp z3.heap) σ4 G' z' → Nx G' → ∃ m, m < n ∧ ∃ i G, Inv (X.blk sC HC scope cen fp) [] (wipe σ (own.map (·.2))) G z' ∧ tn i z'.heap ∧ (∀ b ∈ fp, G b = none) ∧ W i m G := by
        intro z' G' I' nx
        obtain ⟨m', lt, w'⟩ := down G' nx
        have pin : ∀ b ∈ fp, ∀ o, z3.heap.get? b = some o → z'.heap.get? b = some o ∧ G' b = none := by
          intro b hb o e
          have := I'.pin (b, o) (List.mem_append_right _ (List.mem_append_right _ (mem_pinsAt hb e)))
          exact ⟨this.1, this.2.1⟩
        have len : (wipe σ (own.map (·.2))).length = σ4.length := by rw [← hw, wipe_length]
        refine ⟨m', lt, i + 1, G', (I'.unpinned (pins := [])).weak len (fun j v e => ?_), tu.keep _ _ _ st3 fun b hb o e => (pin b hb o e).1, fun b hb => ?_, w'⟩
        · rw [← hw] at e
          exact (wipe_some e).1
        · obtain ⟨o, e, _⟩ := tu.obj _ _ st3 b hb
          exact (pin b hb o e).2
      cases b with
      | false =>
        simp only [Bool.false_eq_true, if_false] at q5 ⊢
        exact close I5 q5
      | true =>
        simp only [if_true] at q5 ⊢
        refine thnF (PKs.run _ z5 σ4 G5 _ I5 q5) fun yv z6 g6 => ?_
        obtain ⟨y, G6, I6, ry, q6⟩ := g6
        refine thnF (PVs.run _ z6 σ4 G6 _ I6 q6) fun vv z7 g7 => ?_
        obtain ⟨v, G7, I7, rv, G8, put, nx⟩ := g7
        exact entryT (X := X.blk sC HC scope cen fp) hu I7 put ry rv fun z8 I8 => close I8 nx
  exact codeAny_compStart_dict walkAll (tu.self X.A 0 _ _ _ stD walkAll)
end
end SI
set_option maxRecDepth 100000
set_option maxHeartbeats 4000000
/-! what the webs want: a dict over enumerate, ways that are never gone, a class whose __init__ has a default -/
namespace SI
open PySem PySem.Spec PyProof.Rows L2
/-- a dict comprehension over enumerate(xs), xs a list -/
theorem dc_enumL {K : PySem.W.Frag} {a : Addr} {xs : List V} {g : TG} {tt : TT} {tk tv : TE} {vs : List Nat} {σ : L2.St} {H1 : Hp} {D : Addr} {Qd : Hp → Prop} (Pv : Nat → Hp → Prop) (h0 : Pv 0 (upd H1 D (.dT []))) (hl : ∀ i H, Pv i H → SqL K H a xs)
    (step : ∀ (i : Nat) (x : V) (T : Addr) (H : Hp), xs[i]? = some x → Pv i H → H T = none → g (.ref T) (wipe σ vs) (upd H T (.tup [.int (i : Nat), x])) fun σ2 H2 => wipe σ2 vs = wipe σ vs ∧ tt σ2 H2 fun b H3 =>
      if b = true then tk σ2 H3 fun y H4 => tv σ2 H4 fun z H5 => ∃ H6, DPut H5 D y z H6 ∧ Pv (i + 1) H6 else Pv (i + 1) H3) (fin : ∀ H, Pv xs.length H → Qd H) :
    ∃ W : Nat → Nat → Hp → Prop, (∃ m, W 0 m (upd H1 D (.dT []))) ∧ ∀ i m G, W i m G →
      ((Ite K a).stop i G ∧ Qd G) ∨ ((Ite K a).go i G ∧ ∃ N : Hp → Prop, (∀ G', N G' → ∃ m', m' < m ∧ W (i + 1) m' G') ∧ ∀ x G', (Ite K a).yld i G x G' → g x (wipe σ vs) G' fun σ2 G2 => wipe σ2 vs = wipe σ vs ∧ tt σ2 G2 fun b G3 =>
        if b = true then tk σ2 G3 fun y G4 => tv σ2 G4 fun z G5 => ∃ G6, DPut G5 D y z G6 ∧ N G6 else N G3) := by
  refine ⟨fun i m G => m = xs.length - i ∧ i ≤ xs.length ∧ Pv i G, ⟨xs.length, rfl, Nat.zero_le _, h0⟩, fun i m G w => ?_⟩
  obtain ⟨rfl, hi, p⟩ := w
  have q := hl i G p
  rcases Nat.lt_or_ge i xs.length with lt | ge
  · refine .inr ⟨⟨xs, _, q, List.getElem?_eq_getElem lt⟩, Pv (i + 1), fun G' p' => ⟨xs.length - (i + 1), by omega, rfl, lt, p'⟩, fun v G' y => ?_⟩
    obtain ⟨T, x', rfl, hT, rfl, f1⟩ := y
    exact step i x' T G (f1 xs q) p hT
  · obtain rfl : i = xs.length := by omega
    exact .inl ⟨⟨xs, q, Nat.le_refl _⟩, fin G p⟩
theorem pe_never {X : Cx} {e : Expr} : PE X e (fun _ _ _ => False) := ⟨fun _ _ _ _ _ _ h => h.elim⟩
/-- a class whose __init__ has defaults -/
structure MakD (K : PySem.W.Frag) (mg : Str → Option Value) (x : Str) (C : Addr) (qual : Str) (st : Stmt) (dvs : List V) : Prop where
  ex : ∃ (f : Addr) (fd : FuncData), Mk K C f ∧ FunD K "__init__" qual (defArgs st) (defBody st) (defScope st) dvs [] f fd ∧ mg x = some (.ref C)
structure MkD (P : Program) (w : World) (K : PySem.W.Frag) (mg : Str → Option Value) (base : Heap) (k : Nat) (x : Str) (C : Addr) (qual : Str) (st : Stmt) (ps : List Str) (sp : Sp) (dvs : List V) : Prop where
  ex : ∃ (f : Addr) (fd : FuncData), Mk K C f ∧ FnOk P w K mg base (L2.CX P w) k f fd ps sp ∧ FunD K "__init__" qual (defArgs st) (defBody st) (defScope st) dvs [] f fd ∧ mg x = some (.ref C)
section
variable {P : Program} {w : World} {K : PySem.W.Frag} {mg : Str → Option Value} {base h : Heap}
theorem mkdd_of {x qual : Str} {C : Addr} {st : Stmt} {N ps : List Str} {k : Nat} {sp : Sp} {dvs : List V} (D : MakD K mg x C qual st dvs) (S : FnScope N ps (defScope st)) (len : ∀ vs H Q E, sp vs H Q E → vs.length = ps.length)
    (hbody : ∀ (f : Addr) (cdv : Value) (A : Around) (outer : List Env) (s : Shared) (H : Hp) (vs : List V) (Q : VK) (E : XK), Room k (A.deeper (envOfC qual (defScope st) s.heap.objs.size f cdv)) → sp vs H Q E →
      ∃ t, PSs (cxOf (L2.CX P w) P w K mg base N qual (defScope st) f cdv A outer s H E) (defBody st) t ∧ t { nx := fun _ H' => Q .non H', rt := Q } (L2.start N vs) H) : MkD P w K mg base (k + 1) x C qual st ps sp dvs := by
  obtain ⟨f, fd, M, F, hm⟩ := D.ex
  exact ⟨f, fd, M, F.ok S len (hbody f), F, hm⟩
/-- called with all but the last dvs.length - j values -/
theorem MkD.mkr {k : Nat} {x qual : Str} {C : Addr} {st : Stmt} {ps : List Str} {sp : Sp} {dvs : List V} (c : MkD P w K mg base k x C qual st ps sp dvs) (n j : Nat) (hd : dvs ≠ []) (hn : n + (dvs.length - j) = ps.length)
    (hb : ∀ (T : Addr) (kV doc pm : Value) (an : Option Addr) (cdv ct : Value) (us its : List Value), us.length = n → its.length = dvs.length →
      ∃ k, bindArgs (PySem.W.fnOf "__init__" qual (defArgs st) (defBody st) (defScope st) (.ref T) kV doc pm an cdv ct) ⟨us, []⟩ = seqItems? (.ref T) >>= k ∧ k (some its.toArray) = pure (ps.zip (us ++ its.drop j))) : Mkr P w K mg base k x C sp (dvs.drop j) := by
  obtain ⟨f, fd, M, F, Fn, hm⟩ := c.ex
  obtain ⟨ds, hv, b⟩ := Fn.binds1 n j hd hn hb
  exact ⟨f, fd, ps, ds, M, F, hm, b, hv⟩
theorem makd_at {x qual : Str} {C : Addr} {st : Stmt} {dvs : List V} {f T : Addr} {oc kV doc pm cdv ct toc : Value} {od an tod : Option Addr} {osl tsl : Array (Option Value)} {its : List Value} {n : Nat} (X : K.In h) (G : h.Ns mainGlobals mg)
    (a : PySem.W.nsIn K mainGlobals x = some (some (.ref C))) (mk : PySem.W.makesIn K C = true) (i : PySem.W.findIn K (.ref C) "__init__" = some (some (.ref f))) (nf : PySem.W.isFn K (.ref f) = true) (kc : PySem.W.keepIn K (.ref C) = true)
    (l : K.lookup f = some ⟨oc, od, .func (PySem.W.fnOf "__init__" qual (defArgs st) (defBody st) (defScope st) (.ref T) kV doc pm an cdv ct), osl⟩) (c : PySem.W.codeIn K cdv qual = true) (k : PySem.W.keepIn K (.ref f) = true)
    (t : K.lookup T = some ⟨toc, tod, .seq its.toArray n, tsl⟩) (hd : dvs ≠ []) (hv : Vals dvs its) {R : Prop} (r : MakD K mg x C qual st dvs → R) : R :=
  r ⟨f, _, ⟨mk, i, nf, kc⟩, ⟨⟨oc, od, .ref T, kV, doc, pm, an, cdv, ct, osl, rfl, l, c, .inr ⟨hd, T, _, its, n, rfl, t, rfl, hv⟩, .inl rfl⟩, k⟩, PySem.W.mg_of X G a⟩
/-- the same for one default, an object of the program -/
theorem makd_at1 {x qual : Str} {C : Addr} {st : Stmt} {f T e : Addr} {oc kV doc pm cdv ct toc : Value} {od an tod : Option Addr} {osl tsl : Array (Option Value)} {n : Nat} (X : K.In h) (G : h.Ns mainGlobals mg)
    (a : PySem.W.nsIn K mainGlobals x = some (some (.ref C))) (mk : PySem.W.makesIn K C = true) (i : PySem.W.findIn K (.ref C) "__init__" = some (some (.ref f))) (nf : PySem.W.isFn K (.ref f) = true) (kc : PySem.W.keepIn K (.ref C) = true)
    (l : K.lookup f = some ⟨oc, od, .func (PySem.W.fnOf "__init__" qual (defArgs st) (defBody st) (defScope st) (.ref T) kV doc pm an cdv ct), osl⟩) (c : PySem.W.codeIn K cdv qual = true) (k : PySem.W.keepIn K (.ref f) = true)
    (t : K.lookup T = some ⟨toc, tod, .seq #[.ref e] n, tsl⟩) {R : Prop} (r : MakD K mg x C qual st [.ref e] → R) : R :=
  makd_at (dvs := [.ref e]) (its := [.ref e]) X G a mk i nf kc l c k t (List.cons_ne_nil _ _) (.cons rfl .nil) r
/-- an empty tuple of the program -/
theorem empty_at {e : Addr} {od : Option Addr} {n : Nat} {sl : Array (Option Value)} (l : K.lookup e = some ⟨.type "tuple", od, .seq #[] n, sl⟩) (H : Hp) : SqT K H e [] :=
  .inr ⟨_, #[], n, l, rfl, rfl, Nat.zero_le _, .nil⟩
end
end SI
set_option maxRecDepth 100000
set_option maxHeartbeats 4000000
/-! xs.extend(t), t a tuple -/
namespace PySem
open AutoSeq1
theorem extend_by_tuple (l : Addr) (items : Array Value) (n : Nat) (b : Addr) (more : Array Value) (n2 : Nat) (dd : Option Addr) (sl : Array (Option Value)) (h0 : ¬(!items.isEmpty && Builtin.List.listTooLong (items.size + more.size)) = true) (h1 : items.size ≤ sizeLine) (h2 : items.size + more.size ≤ sizeLine + 1) :
    Meets (Builtin.«list.extend» ⟨[.ref l, .ref b], []⟩) (fun _ R s => s.heap.get? l = some { cls := .type "list", dict := none, data := .seq items n, slots := #[] } ∧
      s.heap.get? b = some { cls := .type "tuple", dict := dd, data := .seq more n2, slots := sl } ∧ R (.ok (.ret Value.none)) { s with heap := s.heap.update l (Obj.mapSeq fun x => x ++ more), toks := s.toks }) := by
  refine .of_wp fun prog w A R s h => ?_
  obtain ⟨hp, g, d, tk, os⟩ := s
  obtain ⟨hl, hb, h⟩ := h
  have f1 := idx_int
  have f2 := sub_tuple_tuple
  have f3 := sub_list_list
  have f4 := sub_tuple_list
  have f5 := sub_list_tuple
  have room : (items ++ more).size ≤ sizeLine + 1 := by rw [Array.size_append]; exact h2
  wp_walk using (wpAny_updateSeq hl rfl (hz := h1) (_hz' := room)), wpAny_loadPart' hl, wpAny_loadPart' hb
  exact ⟨_, rfl, h⟩
end PySem
namespace SI
open PySem PySem.Spec PyProof.Rows L2
def rExtT : V → List V → Hp → VK → Prop := fun x vs H Q => ∃ l b xs zs, x = .ref l ∧ vs = [.ref b] ∧ H l = some (.lst xs) ∧ H b = some (.tup zs) ∧ xs.length + zs.length ≤ sizeLine ∧ Q .non (upd H l (.lst (xs ++ zs)))
theorem mt_extendT {X : Cx} : MtM X "list.extend" rExtT := by
  intro pins s σ H x vs v us Q I rx rv h
  obtain ⟨l, b, xs, zs, rfl, rfl, hH, hB, hz, q⟩ := h
  cases rx
  obtain ⟨u, rfl, ru⟩ := rv.one
  cases ru
  obtain ⟨z, its, n, r, hl, e⟩ := I.lstM hH
  obtain ⟨its2, r2, ⟨⟨oc, od, oda, osl⟩, e2, ec, n2, ed⟩, z2⟩ := I.tuple (SqT.of hB)
  have ec2 : oc = .type "tuple" := ec
  have ed2 : oda = .seq its2.toArray n2 := ed
  subst ec2 ed2
  have hl2 := r2.length
  have small : its.toArray.size + its2.toArray.size ≤ sizeLine := by rw [List.size_toArray, List.size_toArray]; omega
  have room : ¬ (!its.toArray.isEmpty && Builtin.List.listTooLong (its.toArray.size + its2.toArray.size)) = true := by
    rw [notLongL small, Bool.and_false]
    intro q; cases q
  refine call_meets F.slot_list_extend ⟨_, e, rfl⟩ F.entry_list_extend (F.args_list_extend_2 _ _) (extend_by_tuple l its.toArray n b its2.toArray n2 od osl room (by rw [List.size_toArray]; omega) (by omega)) ⟨e, e2, ?_⟩
  refine ⟨.non, _, I.lset (its' := its ++ its2) hH e (by simp) (r.append r2) ?_, rfl, q⟩
  rw [List.length_append]
  omega
end SI
set_option maxRecDepth 100000
set_option maxHeartbeats 4000000
/-! rows of three ints: arrows, pairs -/
namespace SI
open PySem PySem.Spec PyProof.Rows L2
abbrev Ar := Int × Int × Int
def rowA (a : Ar) : List Int := [a.1, a.2.1, a.2.2]
def vA (a : Ar) : List V := [.int a.1, .int a.2.1, .int a.2.2]
theorem vA_row (a : Ar) : (rowA a).map V.int = vA a := rfl
def leA (a b : Ar) : Bool := leR (rowA a) (rowA b)
def srtA (as : List Ar) : List Ar := as.mergeSort leA
def srtB (bs : List (V × Ar)) : List (V × Ar) := bs.mergeSort fun b c => leA b.2 c.2
theorem srtB_snd (bs : List (V × Ar)) : (srtB bs).map Prod.snd = srtA (bs.map Prod.snd) := PySem.W.sort_maps (r := fun b c : V × Ar => leA b.2 c.2) (s := leA) Prod.snd fun _ _ _ _ => rfl
theorem srtB_perm (bs : List (V × Ar)) : (srtB bs).Perm bs := List.mergeSort_perm _ _
theorem srtA_perm (as : List Ar) : (srtA as).Perm as := List.mergeSort_perm _ _
/-- each of the values is a tuple of three ints -/
def T3 (H : Hp) (bs : List (V × Ar)) : Prop := ∀ b ∈ bs, ∃ t, b.1 = .ref t ∧ H t = some (.tup (vA b.2))
theorem T3.same {H H' : Hp} {bs : List (V × Ar)} (s : ∀ b o, H b = some (HO.tup o) → H' b = some (.tup o)) (h : T3 H bs) : T3 H' bs := fun b hb => by
  obtain ⟨t, e, ht⟩ := h b hb
  exact ⟨t, e, s _ _ ht⟩
theorem T3.nil {H : Hp} : T3 H [] := fun b hb => by cases hb
theorem T3.snoc {H : Hp} {bs : List (V × Ar)} {t : Addr} {a : Ar} (h : T3 H bs) (ht : H t = some (.tup (vA a))) : T3 H (bs ++ [(.ref t, a)]) := fun b hb => by
  rcases List.mem_append.mp hb with hb | hb
  · exact h b hb
  · rw [List.mem_singleton] at hb
    subst hb
    exact ⟨t, rfl, ht⟩
theorem T3.perm {H : Hp} {bs cs : List (V × Ar)} (h : T3 H bs) (p : cs.Perm bs) : T3 H cs := fun b hb => h b (p.mem_iff.mp hb)
theorem T3.at {H : Hp} {bs : List (V × Ar)} {i : Nat} {v : V} (h : T3 H bs) (e : (bs.map Prod.fst)[i]? = some v) : ∃ t a, v = .ref t ∧ H t = some (.tup (vA a)) ∧ bs[i]? = some (.ref t, a) := by
  rw [List.getElem?_map] at e
  cases eb : bs[i]? with
  | none => rw [eb] at e; cases e
  | some b =>
    rw [eb] at e
    cases e
    obtain ⟨t, e2, ht⟩ := h b (List.mem_of_getElem? eb)
    exact ⟨t, b.2, e2, ht, by rw [← e2]⟩
def rSort3 (K : PySem.W.Frag) : List V → Hp → VK → Prop := fun vs H Q => ∃ (a : Addr) (bs : List (V × Ar)), vs = [.ref a] ∧ SqL K H a (bs.map Prod.fst) ∧ T3 H bs ∧
  ∀ p, H p = none → Q (.ref p) (upd H p (.lst ((srtB bs).map Prod.fst)))
theorem cr_sort3 {X : Cx} (hu : X.A.units + 64 < cLine) : CallR X (.builtin "sorted") (rSort3 X.K) := by
  intro pins s σ H vs us Q I r h
  obtain ⟨a, bs, rfl, hs, hb, q⟩ := h
  refine cr_sortR hu pins s σ H _ us Q I r ⟨a, bs.map fun b => (b.1, rowA b.2), rfl, ?_, fun c hc => ?_, fun p hp => ?_⟩
  · rw [List.map_map]
    exact hs
  · obtain ⟨b, hb1, rfl⟩ := List.mem_map.mp hc
    obtain ⟨t, e, ht⟩ := hb b hb1
    exact ⟨by unfold rowA; exact List.cons_ne_nil _ _, t, e, SqT.of ht⟩
  · have e : (srtP (bs.map fun b => (b.1, rowA b.2))).map Prod.fst = (srtB bs).map Prod.fst := by
      have e2 : (srtB bs).map (fun b => (b.1, rowA b.2)) = srtP (bs.map fun b => (b.1, rowA b.2)) := PySem.W.sort_maps (r := fun b c : V × Ar => leA b.2 c.2) (s := PySem.W.dataLe false encR) (fun b => (b.1, rowA b.2)) fun _ _ _ _ => rfl
      rw [← e2, List.map_map]
      rfl
    rw [e]
    exact q p hp
/-- an item of a list, a tuple, within a block -/
theorem ix_seqB {X : Cx} {s : Shared} {H : Hp} {sc : Scope} {ce : Env} {fp : List Addr} : IxR (X.blk s H sc ce fp) (rIx X.K) := ix_seq (X := X.blk s H sc ce fp)
end SI
set_option maxRecDepth 100000
set_option maxHeartbeats 4000000
namespace K12
open PySem L2 SI
def top (i : Nat) : Stmt := PySem.Challenge.pw_pebblesreach_k12_tree_greedy.main.body.getD i (.Pass ⟨0, 0, 0, 0⟩)
abbrev sCheckCounts : Stmt := top 22
abbrev sCheckEntries : Stmt := top 23
abbrev sPebblesInit : Stmt := inClass (top 25) 0
abbrev sCheckFlow : Stmt := top 28
abbrev sFlowInit : Stmt := inClass (top 30) 0
abbrev sIsArrow : Stmt := top 35
abbrev sCheckedPrices : Stmt := top 36
abbrev sCheckPairs : Stmt := top 38
abbrev sCheckMove : Stmt := top 39
abbrev sWebInit : Stmt := inClass (top 40) 0
abbrev sWebTaken : Stmt := inClass (top 40) 1
abbrev sWebHead : Stmt := inClass (top 40) 2
abbrev sCheckWidth : Stmt := top 42
abbrev sCheckBalance : Stmt := top 44
abbrev sPayMove : Stmt := top 45
abbrev sAfter : Stmt := top 46
abbrev sCheckEdges : Stmt := top 52
abbrev sTreeInit : Stmt := inClass (top 53) 0
abbrev sTreeChildren : Stmt := inClass (top 53) 1
abbrev sCheckTreeWidth : Stmt := top 15
abbrev sTreeUps : Stmt := top 16
abbrev sTreeMost : Stmt := top 17
abbrev sTreeWeb : Stmt := top 55
abbrev sUpsFlow : Stmt := top 56
abbrev sLPool : Stmt := top 58
abbrev sLDraw : Stmt := top 59
abbrev sLSame : Stmt := top 60
abbrev sLFault : Stmt := top 61
abbrev sLRaised : Stmt := top 62
abbrev sLRows : Stmt := top 63
abbrev sLArrows : Stmt := top 64
abbrev sLCounts : Stmt := top 65
abbrev sLUps : Stmt := top 66
abbrev sLMostUp : Stmt := top 67
abbrev sLFlowRow : Stmt := top 68
abbrev sLEnds : Stmt := top 69
abbrev sLIsFlow : Stmt := top 70
abbrev sLWebRight : Stmt := top 71
abbrev sLPushed : Stmt := top 72
abbrev sLAnyRow : Stmt := top 73
abbrev sLWidths : Stmt := top 74
abbrev sLaw : Stmt := top 75
abbrev sBadCountInit : Stmt := inClass (top 3) 0
abbrev sNotPebblesInit : Stmt := inClass (top 4) 0
abbrev sNoNodeInit : Stmt := inClass (top 5) 0
abbrev sWrongWidthInit : Stmt := inClass (top 7) 0
abbrev sBadParentInit : Stmt := inClass (top 48) 0
abbrev sBadPriceInit : Stmt := inClass (top 49) 0
structure Txt (P : Program) (w : World) (K : PySem.W.Frag) (mg : Str → Option Value) (base : Heap) (Ad1 Ad2 Ad3 Ad4 Ad5 Ad6 Ad7 Ad9 Ad10 Ad11 Ad12 Ad13 Ad14 Ad20 : Addr) : Prop where
  b_len : mg "len" = none
  b_int : mg "int" = none
  b_tuple : mg "tuple" = none
  b_list : mg "list" = none
  b_range : mg "range" = none
  b_isinstance : mg "isinstance" = none
  b_ValueError : mg "ValueError" = none
  b_enumerate : mg "enumerate" = none
  b_max : mg "max" = none
  b_min : mg "min" = none
  b_sum : mg "sum" = none
  b_str : mg "str" = none
  b_sorted : mg "sorted" = none
  b_set : mg "set" = none
  b_bool : mg "bool" = none
  c_MOST_PRICE : ∃ t, mg "MOST_PRICE" = some (.int 31 t)
  c_LEAST_PRICE : ∃ t, mg "LEAST_PRICE" = some (.int 2 t)
  c_MOST_TREE_NODES : ∃ t, mg "MOST_TREE_NODES" = some (.int 60 t)
  c_MOST_ARROWS : ∃ t, mg "MOST_ARROWS" = some (.int 400 t)
  c_MOST_PAIRS : ∃ t, mg "MOST_PAIRS" = some (.int 60 t)
  c_MOST_MOVES : ∃ t, mg "MOST_MOVES" = some (.int 460 t)
  c_MOST : ∃ t, mg "MOST" = some (.int (10 ^ 120) t)
  c_MOST_NODES : ∃ t, mg "MOST_NODES" = some (.int 64 t)
  rBadCount : Rs P w K mg base "BadCount" Ad2 (mk2 "what" "many" fun v => ∃ t : Str, v = .str t ∧ t.length ≤ 1000)
  rNotPebbles : Rs P w K mg base "NotPebbles" Ad3 (mk1 "at")
  rNoNode : Rs P w K mg base "NoNode" Ad4 (mk1 "node")
  rWrongWidth : Rs P w K mg base "WrongWidth" Ad6 (mk2 "have" "need" fun _ => True)
  rBadParent : Rs P w K mg base "BadParent" Ad9 (mk1 "at")
  rBadPrice : Rs P w K mg base "BadPrice" Ad10 (mk1 "at")
  m_Tree : MakAt K mg "Tree" Ad11 "Tree.__init__" sTreeInit ["self", "parents", "prices"]
  lTree : Cls K Ad11
  nTree_nodes : NoAttr K Ad11 "nodes"
  nTree_parents : NoAttr K Ad11 "parents"
  nTree_prices : NoAttr K Ad11 "prices"
  m_Pebbles : MakAt K mg "Pebbles" Ad12 "Pebbles.__init__" sPebblesInit ["self", "counts"]
  lPebbles : Cls K Ad12
  nPebbles_counts : NoAttr K Ad12 "counts"
  nPebbles_nodes : NoAttr K Ad12 "nodes"
  nPebbles_size : NoAttr K Ad12 "size"
  m_Flow : MakAt K mg "Flow" Ad13 "Flow.__init__" sFlowInit ["self", "counts"]
  lFlow : Cls K Ad13
  nFlow_counts : NoAttr K Ad13 "counts"
  nFlow_total : NoAttr K Ad13 "total"
  m_Web : MakD K mg "Web" Ad14 "Web.__init__" sWebInit [.ref Ad20]
  lWeb : Cls K Ad14
  nWeb_nodes : NoAttr K Ad14 "nodes"
  nWeb_arrows : NoAttr K Ad14 "arrows"
  nWeb_pairs : NoAttr K Ad14 "pairs"
  nWeb_move_count : NoAttr K Ad14 "move_count"
  nWeb__bundles : NoAttr K Ad14 "_bundles"
  nWeb__heads : NoAttr K Ad14 "_heads"
  nWeb__numbers : NoAttr K Ad14 "_numbers"
  d_check_counts : DefAt K mg "check_counts" sCheckCounts ["many"]
  d_check_entries : DefAt K mg "check_entries" sCheckEntries ["counts"]
  d_check_flow : DefAt K mg "check_flow" sCheckFlow ["web", "flow"]
  d_is_arrow : DefAt K mg "is_arrow" sIsArrow ["nodes", "tail", "head", "price"]
  d_checked_prices : DefAt K mg "checked_prices" sCheckedPrices ["nodes", "arrows"]
  d_check_pairs : DefAt K mg "check_pairs" sCheckPairs ["prices", "pairs"]
  d_check_move : DefAt K mg "check_move" sCheckMove ["web", "k"]
  d_Web_taken : MetAt K Ad14 "taken" "Web.taken" sWebTaken ["self", "k"]
  d_Web_head : MetAt K Ad14 "head" "Web.head" sWebHead ["self", "k"]
  d_check_width : DefAt K mg "check_width" sCheckWidth ["web", "placing"]
  d_check_balance : DefAt K mg "check_balance" sCheckBalance ["web", "placing", "flow"]
  d_pay_move : DefAt K mg "pay_move" sPayMove ["web", "entries", "k", "count"]
  d_after : DefAt K mg "after" sAfter ["web", "placing", "flow"]
  d_check_edges : DefAt K mg "check_edges" sCheckEdges ["parents", "prices"]
  d_Tree_children : MetAt K Ad11 "children" "Tree.children" sTreeChildren ["self", "node"]
  d_check_tree_width : DefAt K mg "check_tree_width" sCheckTreeWidth ["tree", "placing"]
  d_tree_ups : DefAt K mg "tree_ups" sTreeUps ["tree", "placing"]
  d_tree_most : DefAt K mg "tree_most" sTreeMost ["tree", "placing"]
  d_tree_web : DefD K mg "tree_web" sTreeWeb [.bl false]
  d_ups_flow : DefD K mg "ups_flow" sUpsFlow [.bl false]
  d__law_pool : DefAt K mg "_law_pool" sLPool ["script"]
  d__law_draw : DefAt K mg "_law_draw" sLDraw ["pool", "size"]
  d__law_same : DefAt K mg "_law_same" sLSame ["told", "due"]
  d__law_fault : DefAt K mg "_law_fault" sLFault ["e"]
  d__law_raised : DefAt K mg "_law_raised" sLRaised ["deed", "tree", "one", "both"]
  d__law_rows : DefAt K mg "_law_rows" sLRows ["pool"]
  d__law_arrows : DefAt K mg "_law_arrows" sLArrows ["parents", "prices", "both"]
  d__law_counts : DefAt K mg "_law_counts" sLCounts ["pool", "parents"]
  d__law_ups : DefAt K mg "_law_ups" sLUps ["parents", "prices", "counts"]
  d__law_most_up : DefAt K mg "_law_most_up" sLMostUp ["parents", "counts", "ups"]
  d__law_flow_row : DefAt K mg "_law_flow_row" sLFlowRow ["arrows", "ups"]
  d__law_ends : DefAt K mg "_law_ends" sLEnds ["arrows", "counts", "row"]
  d__law_is_flow : DefAt K mg "_law_is_flow" sLIsFlow ["told", "row"]
  d__law_web_right : DefAt K mg "_law_web_right" sLWebRight ["tree", "parents", "prices", "both"]
  d__law_pushed : DefAt K mg "_law_pushed" sLPushed ["tree", "parents", "prices", "counts"]
  d__law_any_row : DefAt K mg "_law_any_row" sLAnyRow ["pool", "tree", "parents", "prices", "both"]
  d__law_widths : DefAt K mg "_law_widths" sLWidths ["tree", "counts"]
  d_law : DefAt K mg "law" sLaw ["script"]
  gPebbleError : mg "PebbleError" = some (.ref Ad1)
  gBadCount : mg "BadCount" = some (.ref Ad2)
  gNotPebbles : mg "NotPebbles" = some (.ref Ad3)
  gNoNode : mg "NoNode" = some (.ref Ad4)
  gUnlikeWidths : mg "UnlikeWidths" = some (.ref Ad5)
  gWrongWidth : mg "WrongWidth" = some (.ref Ad6)
  gNotPayable : mg "NotPayable" = some (.ref Ad7)
  gBadParent : mg "BadParent" = some (.ref Ad9)
  gBadPrice : mg "BadPrice" = some (.ref Ad10)
  gTree : mg "Tree" = some (.ref Ad11)
  gPebbles : mg "Pebbles" = some (.ref Ad12)
  gFlow : mg "Flow" = some (.ref Ad13)
  gWeb : mg "Web" = some (.ref Ad14)
  ek : ErrK K
  eNotPebbles : ErrC K Ad3
  fNotPebbles_at : PySem.W.findIn K (.ref Ad3) "at" = some none
  xNotPebbles_PebbleError : PySem.W.exmOne K (.ref Ad3) (.ref Ad1) = some true
  tNotPebbles_NotPebbles : PySem.W.kitOne K (.ref Ad3) (.ref Ad3) = some true
  tNotPebbles_WrongWidth : PySem.W.kitOne K (.ref Ad3) (.ref Ad6) = some false
  tNotPebbles_BadCount : PySem.W.kitOne K (.ref Ad3) (.ref Ad2) = some false
  tNotPebbles_NoNode : PySem.W.kitOne K (.ref Ad3) (.ref Ad4) = some false
  tNotPebbles_NotPayable : PySem.W.kitOne K (.ref Ad3) (.ref Ad7) = some false
  tNotPebbles_UnlikeWidths : PySem.W.kitOne K (.ref Ad3) (.ref Ad5) = some false
  tNotPebbles_ValueError : PySem.W.kitOne K (.ref Ad3) (.type "ValueError") = some true
  eWrongWidth : ErrC K Ad6
  fWrongWidth_have : PySem.W.findIn K (.ref Ad6) "have" = some none
  fWrongWidth_need : PySem.W.findIn K (.ref Ad6) "need" = some none
  xWrongWidth_PebbleError : PySem.W.exmOne K (.ref Ad6) (.ref Ad1) = some true
  tWrongWidth_NotPebbles : PySem.W.kitOne K (.ref Ad6) (.ref Ad3) = some false
  tWrongWidth_WrongWidth : PySem.W.kitOne K (.ref Ad6) (.ref Ad6) = some true
  tWrongWidth_BadCount : PySem.W.kitOne K (.ref Ad6) (.ref Ad2) = some false
  tWrongWidth_NoNode : PySem.W.kitOne K (.ref Ad6) (.ref Ad4) = some false
  tWrongWidth_NotPayable : PySem.W.kitOne K (.ref Ad6) (.ref Ad7) = some false
  tWrongWidth_UnlikeWidths : PySem.W.kitOne K (.ref Ad6) (.ref Ad5) = some false
  tWrongWidth_ValueError : PySem.W.kitOne K (.ref Ad6) (.type "ValueError") = some true
  iTree : SlX.SIsi K Ad11
  iPebbles : SlX.SIsi K Ad12
  iFlow : SlX.SIsi K Ad13
  iWeb : SlX.SIsi K Ad14
  oE : ∀ H, SqT K H Ad20 []
end K12
set_option maxRecDepth 100000
set_option maxHeartbeats 4000000
set_option exponentiation.threshold 20000
namespace K12
open PySem L2 SI
/-- all but the object at W stays -/
def But (W : Addr) (H H' : Hp) : Prop := ∀ b o, b ≠ W → H b = some o → H' b = some o
theorem But.trans {W : Addr} {H H' H'' : Hp} (s : But W H H') (s' : But W H' H'') : But W H H'' := fun b o n e => s' b o n (s b o n e)
theorem But.of {W : Addr} {H H' : Hp} (s : Same H H') : But W H H' := fun b o _ e => s b o e
theorem But.upd {W : Addr} {H : Hp} {o : HO} : But W H (L2.upd H W o) := fun b u n e => by rw [upd_ne n]; exact e
theorem cdiv_small {n : Int} (h0 : 0 < n) (h1 : n ≤ 10 ^ 130) : CDivW 0 n := ⟨h0, by
  have e : n.natAbs < 2 ^ 500 := by
    have : (10 : Int) ^ 130 < 2 ^ 500 := by decide +kernel
    omega
  exact Nat.lt_of_lt_of_le (PySem.Flt.log2_lt_of (by decide) e) (by decide)⟩
theorem cmul_small {i j : Int} (h0 : i.natAbs < 2 ^ 10000) (h1 : j.natAbs < 2 ^ 10000) : CMulW i j := wide_mul h0 h1 (by decide) (by decide) (by decide)
theorem abs_small {n : Int} (h0 : -(10 ^ 200) ≤ n) (h1 : n ≤ 10 ^ 200) : n.natAbs < 2 ^ 10000 := by
  have h : (10 : Int) ^ 200 < 2 ^ 700 := by decide +kernel
  have h2 : (2 : Nat) ^ 700 ≤ 2 ^ 10000 := Nat.pow_le_pow_right (by decide) (by decide)
  refine Nat.lt_of_lt_of_le ?_ h2
  omega
/-- the pool of the law's draws; b more and it is still small -/
def PoolB (H : Hp) (p : Addr) (b : Nat) : Prop := ∃ (z : Int) (ns : List Int), H p = some (.lst ((z :: ns).map V.int)) ∧ 0 ≤ z ∧ z ≤ 1000003 + b ∧ ns.length ≤ 64
@[irreducible] def spDraw : Sp := fun vs H Q _ => ∃ (p : Addr) (n : Int) (b : Nat), vs = [.ref p, .int n] ∧ PoolB H p b ∧ b ≤ 10 ^ 100 ∧ CDivW 0 n ∧ ∀ d H', But p H H' → PoolB H' p (b + 1) → 0 ≤ d → d < n → Q (.int d) H'
theorem draw_of {H : Hp} {p : Addr} {n : Int} {b : Nat} {Q : VK} {E : XK} (hp : PoolB H p b) (hb : b ≤ 10 ^ 100) (h0 : 0 < n) (h1 : n ≤ 10 ^ 130) (k : ∀ d H', But p H H' → PoolB H' p (b + 1) → 0 ≤ d → d < n → Q (.int d) H') : spDraw [.ref p, .int n] H Q E := by
  unfold spDraw
  exact ⟨p, n, b, rfl, hp, hb, cdiv_small h0 h1, k⟩
section
variable {P : Program} {w : World} {K : PySem.W.Frag} {mg : Str → Option Value} {base : Heap} {Ad1 Ad2 Ad3 Ad4 Ad5 Ad6 Ad7 Ad9 Ad10 Ad11 Ad12 Ad13 Ad14 Ad20 : Addr}
theorem scLDraw : FnScope ["pool", "size", "cell", "rest"] ["pool", "size"] (defScope sLDraw) := ⟨rfl, rfl, rfl, by decide +kernel, rfl, by decide +kernel, by decide +kernel⟩
theorem ok_LDraw (T : Txt P w K mg base Ad1 Ad2 Ad3 Ad4 Ad5 Ad6 Ad7 Ad9 Ad10 Ad11 Ad12 Ad13 Ad14 Ad20) : Cl P w K mg base 1 "_law_draw" spDraw [] := by
  refine cl_of T.d__law_draw scLDraw (fun vs H Q E h => ?_) fun f cdv A outer s H vs Q E hr h => ?_
  · unfold spDraw at h
    obtain ⟨p, n, b, rfl, _⟩ := h
    rfl
  · unfold spDraw at h
    obtain ⟨p, n, b, rfl, ⟨z, ns, hp, z0, z1, hl⟩, hb, hn, k⟩ := h
    refine ⟨_, (C8.pss_cut (ps_if (pt_cmpR op_eq (pe_callB call_len_seq (by rfl) T.b_len (by decide +kernel) (pa_cons (pv 0) pa_nil)) pe_int (nomark _))
    (pss_cons (ps_asg (pe_op op_add (pe_ix ix_list (pv 0) pe_int (fun _ _ => rfl)) pe_int) (pg_sub (pv 0) pe_int set_list))
    (pss_one (ps_expr (pe_bm PySem.F.plainAttrs_list PySem.F.slot_list_append PySem.F.type_list_append mt_append (pv 0) (pa_cons (pe_op op_mulW (pe_op op_pow pe_int pe_int) (pe_op op_add (pe_op op_pow pe_int pe_int) (pe_ix ix_list (pv 0) pe_int (fun _ _ => rfl)))) pa_nil)))))
    pss_nil)
  (pss_cons (ps_set (i := 2) scLDraw.nd rfl (by first | exact Or.inl rfl | exact Or.inr rfl) (pe_bm0 PySem.F.plainAttrs_list PySem.F.slot_list_pop PySem.F.type_list_pop mt_pop (pv 0)))
  (pss_cons (ps_set (i := 3) scLDraw.nd rfl (by first | exact Or.inl rfl | exact Or.inr rfl) (pe_op op_fdivW (pv 2) (pv 1)))
  (C8.pss_cut (ps_if (PW.pt (pw_or (pt_cmpR op_gt (pv 3) pe_int (nomark _)) (pw_or1 (pt_cmpR op_lt (pv 3) (pe_un un_neg pe_int) (nomark _)))))
    (pss_one (ps_expr (pe_bm PySem.F.plainAttrs_list PySem.F.slot_list_append PySem.F.type_list_append mt_append (pv 0) (pa_cons (pv 3) pa_nil))))
    pss_nil)
  (pss_one (ps_ret (pe_op op_mod (pe_callTy call_intI (by rfl) T.b_int (by decide +kernel) (pa_cons (pv 2) pa_nil)) (pv 1)))))))), ?_⟩
    have hn0 : 0 < n := hn.1
    refine ⟨fun σ' H' => ∃ (z' : Int) (ms : List Int) (y : Int), σ' = [some (.ref p), some (.int n), none, none] ∧ But p H H' ∧ H' p = some (.lst ((z' :: (ms ++ [y])).map V.int)) ∧ 0 ≤ z' ∧ z' ≤ 1000003 + (b + 1 : Nat) ∧ ms.length ≤ 63, ?_, ?_⟩
    · refine ⟨_, rfl, p, _, rfl, .inl (SqL.of hp), rfl, _, rfl, ?_⟩
      cases ns with
      | nil =>
        refine iteT ?_
        refine ⟨_, rfl, p, _, _, _, rfl, rfl, SqL.of hp, atI0, _, _, rfl, rfl, _, rfl, p, _, _, 0, rfl, rfl, hp, rfl, ?_⟩
        refine ⟨_, rfl, .inl ⟨rfl, _, SqL.of upd_same⟩, _, _, rfl, rfl, ⟨by decide, by decide, by decide⟩, _, _, rfl, rfl, ⟨by decide, by decide, by decide⟩, _, rfl, p, _, _, _, rfl, rfl, SqL.of upd_same, atI0, _, _, rfl, rfl, _, _, rfl, rfl, ?_, p, _, _, rfl, rfl, upd_same, by show 1 < sizeLine; decide, ?_⟩
        · refine cmul_small (abs_small (by decide +kernel) (by decide +kernel)) (abs_small ?_ ?_)
          · have : (0 : Int) ≤ 41 ^ Int.toNat 38 := by decide +kernel
            omega
          · have : (41 : Int) ^ Int.toNat 38 ≤ 10 ^ 190 := by decide +kernel
            omega
        · refine ⟨z + 1, [], 37 ^ Int.toNat 40 * (41 ^ Int.toNat 38 + (z + 1)), rfl, But.upd.trans But.upd, by rw [upd_same]; rfl, by omega, by omega, by decide⟩
      | cons y r =>
        refine ifI (fun c => absurd c (by simp only [List.length_map, List.length_cons]; omega)) fun _ => ?_
        have e := List.dropLast_concat_getLast (l := y :: r) (by simp)
        refine ⟨z, (y :: r).dropLast, (y :: r).getLast (by simp), rfl, fun b o _ e => e, by rw [e]; exact hp, z0, by omega, by rw [List.length_dropLast]; omega⟩
    rintro _ H1 ⟨z', ms, y, rfl, b1, hp1, z0', z1', hms⟩
    refine ⟨_, rfl, .inl ⟨rfl, _, SqL.of hp1⟩, p, _, .int y, rfl, rfl, hp1, ?_, ?_⟩
    · rw [List.map_cons, List.map_append, List.length_cons, List.length_append, List.length_map]
      simp
    have ed : ((z' :: (ms ++ [y])).map V.int).dropLast = (z' :: ms).map V.int := by
      rw [← List.map_dropLast]
      congr 1
      rw [← List.cons_append, List.dropLast_concat]
    rw [ed]
    have hp2 : upd H1 p (.lst ((z' :: ms).map V.int)) p = some (.lst ((z' :: ms).map V.int)) := upd_same
    have b2 : But p H (upd H1 p (.lst ((z' :: ms).map V.int))) := b1.trans But.upd
    generalize upd H1 p (.lst ((z' :: ms).map V.int)) = H2 at hp2 b2 ⊢
    refine ⟨_, rfl, _, rfl, _, _, rfl, rfl, hn, ?_⟩
    refine ⟨fun σ' H' => ∃ ks : List Int, σ' = [some (.ref p), some (.int n), some (.int y), some (.int (y / n))] ∧ But p H H' ∧ H' p = some (.lst ((z' :: ks).map V.int)) ∧ ks.length ≤ 64, ?_, ?_⟩
    · have add : tVar 0 [some (.ref p), some (.int n), some (.int y), some (.int (y / n))] H2 (fun x H3 => x = .ref p ∧ H3 = H2) := ⟨_, rfl, rfl, rfl⟩
      refine ⟨_, rfl, _, _, rfl, rfl, _, rfl, ifD (fun _ => ?_) fun _ => ?_⟩
      · refine ⟨_, rfl, .inl ⟨rfl, _, SqL.of hp2⟩, _, rfl, p, _, _, rfl, rfl, hp2, by simp only [List.length_map, List.length_cons]; exact sz_lt (by omega), ?_⟩
        exact ⟨ms ++ [y / n], rfl, b2.trans But.upd, by rw [upd_same, ← List.cons_append, List.map_append] <;> rfl, by simp; omega⟩
      · refine ⟨_, rfl, _, rfl, _, _, rfl, rfl, _, rfl, ifD (fun _ => ?_) fun _ => ?_⟩
        · refine ⟨_, rfl, .inl ⟨rfl, _, SqL.of hp2⟩, _, rfl, p, _, _, rfl, rfl, hp2, by simp only [List.length_map, List.length_cons]; exact sz_lt (by omega), ?_⟩
          exact ⟨ms ++ [y / n], rfl, b2.trans But.upd, by rw [upd_same, ← List.cons_append, List.map_append] <;> rfl, by simp; omega⟩
        · exact ⟨ms, rfl, b2, hp2, by omega⟩
    rintro _ H3 ⟨ks, rfl, b3, hp3, hks⟩
    refine ⟨_, rfl, _, rfl, _, rfl, _, _, rfl, rfl, hn0, ?_⟩
    exact k _ H3 b3 ⟨z', ks, hp3, z0', z1', hks⟩ (Int.emod_nonneg _ (by omega)) (Int.emod_lt_of_pos _ hn0)
end
end K12
set_option maxRecDepth 100000
set_option maxHeartbeats 4000000
namespace K12
open PySem L2 SI
/-- equal data of depth at most d -/
inductive Da (H : Hp) : Nat → V → V → Prop where
  | int (d : Nat) (i : Int) : Da H d (.int i) (.int i)
  | str (d : Nat) (s : Str) (h : SeqAt.shaped (.str s) = true) : Da H d (.str s) (.str s)
  | tup (d : Nat) (a b : Addr) (xs ys : List V) (ha : H a = some (.tup xs)) (hb : H b = some (.tup ys)) (hl : xs.length = ys.length) (hz : ys.length ≤ 100000) (h : ∀ (i : Nat) x y, xs[i]? = some x → ys[i]? = some y → Da H d x y) : Da H (d + 1) (.ref a) (.ref b)
@[irreducible] def spSame (d : Nat) : Sp := fun vs H Q _ => ∃ v u : V, vs = [v, u] ∧ Da H d v u ∧ Q (.bl true) H
theorem same_of {d : Nat} {H : Hp} {v u : V} {Q : VK} {E : XK} (h : Da H d v u) (k : Q (.bl true) H) : spSame d [v, u] H Q E := by
  unfold spSame
  exact ⟨v, u, rfl, h, k⟩
section
variable {P : Program} {w : World} {K : PySem.W.Frag} {mg : Str → Option Value} {base : Heap} {Ad1 Ad2 Ad3 Ad4 Ad5 Ad6 Ad7 Ad9 Ad10 Ad11 Ad12 Ad13 Ad14 Ad20 : Addr}
theorem kNt : PySem.W.kitOne K (.type "NoneType") (.type "tuple") = some false := kit_ty (by decide +kernel)
theorem kit_t : PySem.W.kitOne K (.type "int") (.type "tuple") = some false := kit_ty (by decide +kernel)
theorem kst : PySem.W.kitOne K (.type "str") (.type "tuple") = some false := kit_ty (by decide +kernel)
theorem ktt : PySem.W.kitOne K (.type "tuple") (.type "tuple") = some true := kit_ty (by decide +kernel)
theorem kis : PySem.W.kitOne K (.type "int") (.type "str") = some false := kit_ty (by decide +kernel)
theorem kss : PySem.W.kitOne K (.type "str") (.type "str") = some true := kit_ty (by decide +kernel)
theorem kii : PySem.W.kitOne K (.type "int") (.type "int") = some true := kit_ty (by decide +kernel)
theorem kib : PySem.W.kitOne K (.type "int") (.type "bool") = some false := kit_ty (by decide +kernel)
theorem kbb : PySem.W.kitOne K (.type "bool") (.type "bool") = some true := kit_ty (by decide +kernel)
theorem no_same (T : Txt P w K mg base Ad1 Ad2 Ad3 Ad4 Ad5 Ad6 Ad7 Ad9 Ad10 Ad11 Ad12 Ad13 Ad14 Ad20) : Cl P w K mg base 0 "_law_same" (fun _ _ _ _ => False) [] := by
  obtain ⟨f, fd, F, hm, b⟩ := T.d__law_same.ex
  exact ⟨f, fd, _, [], ⟨fun vs H Q E h => h.elim, fun A outer s H args us vs Q E hr h1 h2 h3 h => h.elim⟩, hm, F.kp, b, .nil⟩
theorem scLSame : FnScope ["told", "due", "k"] ["told", "due"] (defScope sLSame) := ⟨rfl, rfl, rfl, by decide +kernel, rfl, by decide +kernel, by decide +kernel⟩
theorem step_same (T : Txt P w K mg base Ad1 Ad2 Ad3 Ad4 Ad5 Ad6 Ad7 Ad9 Ad10 Ad11 Ad12 Ad13 Ad14 Ad20) {j d : Nat} {sp' : Sp} (c_LSame : Cl P w K mg base j "_law_same" sp' []) (hs : ∀ {e : Nat} {H : Hp} {v u : V} {Q : VK} {E : XK}, e + 1 = d → Da H e v u → Q (.bl true) H → sp' [v, u] H Q E) : Cl P w K mg base (j + 1) "_law_same" (spSame d) [] := by
  refine cl_of T.d__law_same scLSame (fun vs H Q E h => ?_) fun f cdv A outer s H vs Q E hr h => ?_
  · unfold spSame at h
    obtain ⟨v, u, rfl, _⟩ := h
    rfl
  · unfold spSame at h
    obtain ⟨v, u, rfl, hd, k⟩ := h
    refine ⟨_, (pss_cons (ps_if (pt_val (pe_callB call_isi (by rfl) T.b_isinstance (by decide +kernel) (pa_cons (pv 1) (pa_cons (pe_bltn (v := .ty "tuple") (u := .type "tuple") (by rfl) T.b_tuple (by decide +kernel) rfl) pa_nil))))
    (pss_cons (ps_if (PW.pt (pw_or (pt_not (pt_val (pe_callB call_isi (by rfl) T.b_isinstance (by decide +kernel) (pa_cons (pv 0) (pa_cons (pe_bltn (v := .ty "tuple") (u := .type "tuple") (by rfl) T.b_tuple (by decide +kernel) rfl) pa_nil))))) (pw_or1 (pt_cmpR op_ne (pe_callB call_len_seq (by rfl) T.b_len (by decide +kernel) (pa_cons (pv 0) pa_nil)) (pe_callB call_len_seq (by rfl) T.b_len (by decide +kernel) (pa_cons (pv 1) pa_nil)) (nomark _)))))
      (pss_one (ps_ret pe_bl))
      pss_nil)
    (pss_cons (ps_for (passes_of rfl) rfl (pi_range1 (by rfl) T.b_range (pa_cons (pe_callB call_len_seq (by rfl) T.b_len (by decide +kernel) (pa_cons (pv 1) pa_nil)) pa_nil)) (pg_name (i := 2) scLSame.nd rfl (by first | exact Or.inl rfl | exact Or.inr rfl))
      (pss_one (ps_if (pt_not (pt_val (pe_c c_LSame hr (Nat.le_refl _) rfl (pa_cons (pe_ix ix_tup (pv 0) (pv 2) (fun _ _ => rfl)) (pa_cons (pe_ix ix_tup (pv 1) (pv 2) (fun _ _ => rfl)) pa_nil)))))
        (pss_one (ps_ret pe_bl))
        pss_nil)))
    (pss_one (ps_ret pe_bl))))
    pss_nil)
  (pss_cons (ps_if (pt_cmpR op_isN (pv 1) pe_non (nomark _))
    (pss_one (ps_ret (pe_cmpR op_isN (pv 0) pe_non (nomark _))))
    pss_nil)
  (pss_cons (ps_if (pt_val (pe_callB call_isi (by rfl) T.b_isinstance (by decide +kernel) (pa_cons (pv 1) (pa_cons (pe_bltn (v := .ty "str") (u := .type "str") (by rfl) T.b_str (by decide +kernel) rfl) pa_nil))))
    (pss_one (ps_ret (pe_and (pe_callB call_isi (by rfl) T.b_isinstance (by decide +kernel) (pa_cons (pv 0) (pa_cons (pe_bltn (v := .ty "str") (u := .type "str") (by rfl) T.b_str (by decide +kernel) rfl) pa_nil))) (pe_one (pe_cmpR (op_eqD hr.units) (pv 0) (pv 1) (nomark _))))))
    pss_nil)
  (pss_one (ps_ret (pe_and (pe_callB call_isi (by rfl) T.b_isinstance (by decide +kernel) (pa_cons (pv 0) (pa_cons (pe_bltn (v := .ty "int") (u := .type "int") (by rfl) T.b_int (by decide +kernel) rfl) pa_nil))) (pe_and (pe_not (pe_callB call_isi (by rfl) T.b_isinstance (by decide +kernel) (pa_cons (pv 0) (pa_cons (pe_bltn (v := .ty "bool") (u := .type "bool") (by rfl) T.b_bool (by decide +kernel) rfl) pa_nil)))) (pe_one (pe_cmpR (op_eqD hr.units) (pv 0) (pv 1) (nomark _)))))))))), ?_⟩
    cases hd with
    | int _ i =>
      refine ⟨_, rfl, _, _, _, _, _, rfl, .ty "tuple", .base (.int _), kit_t, _, rfl, iteF ?_⟩
      refine ⟨_, rfl, rfl, _, rfl, ifD (fun z => by cases z) fun _ => ?_⟩
      refine ⟨_, rfl, _, _, _, _, _, rfl, .ty "str", .base (.int _), kis, _, rfl, iteF ?_⟩
      refine ⟨_, rfl, _, _, _, _, _, rfl, .ty "int", .base (.int _), kii, _, rfl, iteT ?_⟩
      refine ⟨_, rfl, _, _, _, _, _, rfl, .ty "bool", .base (.int _), kib, _, rfl, _, rfl, iteT ?_⟩
      refine ⟨_, rfl, _, rfl, .int i, .int i, .int _, .int _, rfl, rfl, ?_⟩
      rw [show PyData.eqv (.int i) (.int i) = true by show (i == i) = true; simp]
      exact k
    | str _ s0 hsh =>
      refine ⟨_, rfl, _, _, _, _, _, rfl, .ty "tuple", .base (.str _), kst, _, rfl, iteF ?_⟩
      refine ⟨_, rfl, rfl, _, rfl, ifD (fun z => by cases z) fun _ => ?_⟩
      refine ⟨_, rfl, _, _, _, _, _, rfl, .ty "str", .base (.str _), kss, _, rfl, iteT ?_⟩
      refine ⟨_, rfl, _, _, _, _, _, rfl, .ty "str", .base (.str _), kss, _, rfl, iteT ?_⟩
      refine ⟨_, rfl, _, rfl, .str s0, .str s0, .str _, .str _, hsh, hsh, ?_⟩
      rw [show PyData.eqv (.str s0) (.str s0) = true by show (s0 == s0) = true; simp]
      exact k
    | tup e a b xs ys ha hb hl hz hx =>
      refine ⟨_, rfl, _, _, _, _, _, rfl, .ty "tuple", .base (.tup hb), ktt, _, rfl, iteT ?_⟩
      refine ⟨_, rfl, _, _, _, _, _, rfl, .ty "tuple", .base (.tup ha), ktt, _, rfl, iteF ?_⟩
      refine ⟨_, rfl, a, _, rfl, .inr (SqT.of ha), _, rfl, b, _, rfl, .inr (SqT.of hb), rfl, _, rfl, ifIN (fun c => absurd (by rw [hl]) c) fun _ => ?_⟩
      refine ⟨_, rfl, b, _, rfl, .inr (SqT.of hb), _, rfl, by omega, by omega, ?_⟩
      rw [Int.toNat_natCast]
      refine for_range (lo := 0) (n := ys.length) (fun i σ H' => ∃ v2 : Option V, σ = [some (.ref a), some (.ref b), v2] ∧ H' = H)
        ⟨none, rfl, rfl⟩ (fun i σ H' hi h => ?_) fun σ H' h => ?_
      · obtain ⟨v2, rfl, rfl⟩ := h
        obtain ⟨y, hy⟩ : ∃ y, ys[i]? = some y := ⟨_, List.getElem?_eq_getElem hi⟩
        obtain ⟨x, hxx⟩ : ∃ x, xs[i]? = some x := ⟨_, List.getElem?_eq_getElem (by rw [hl]; exact hi)⟩
        rw [Int.zero_add]
        refine ⟨_, rfl, _, rfl, a, _, _, _, rfl, rfl, SqT.of ha, atI_nat hxx, _, rfl, _, rfl, b, _, _, _, rfl, rfl, SqT.of hb, atI_nat hy, ?_⟩
        exact hs rfl (hx i x y hxx hy) ⟨_, rfl, ifF rfl ⟨_, rfl, rfl⟩⟩
      · obtain ⟨v2, rfl, rfl⟩ := h
        exact k
theorem ok_LSame (T : Txt P w K mg base Ad1 Ad2 Ad3 Ad4 Ad5 Ad6 Ad7 Ad9 Ad10 Ad11 Ad12 Ad13 Ad14 Ad20) : ∀ d, Cl P w K mg base (d + 1) "_law_same" (spSame d) []
  | 0 => step_same T (no_same T) fun h => by omega
  | d + 1 => step_same T (ok_LSame T d) fun h hd k => by
    obtain rfl := Nat.succ.inj h
    exact same_of hd k
end
end K12
set_option maxRecDepth 100000
set_option maxHeartbeats 4000000
namespace K12
open PySem L2 SI
local macro_rules | `(tactic| walk_at "lk") => `(tactic| first | exact lk_hit | exact lk_nil | (refine lk_next (by decide +kernel) ?_; walk_at "lk"))
def okE (i : Nat) (p q : Int) : Prop := 0 ≤ p ∧ p ≤ i ∧ 2 ≤ q ∧ q ≤ 31
def okTo (ps qs : List Int) (n : Nat) : Prop := ∀ (i : Nat) p q, i < n → ps[i]? = some p → qs[i]? = some q → okE i p q
/-- the first wrong edge: its parent, or its price -/
def badPar (ps qs : List Int) (i : Nat) : Prop := okTo ps qs i ∧ ∃ p, ps[i]? = some p ∧ (p < 0 ∨ (i : Int) < p)
def badPri (ps qs : List Int) (i : Nat) : Prop := okTo ps qs i ∧ (∃ p, ps[i]? = some p ∧ 0 ≤ p ∧ p ≤ i) ∧ ∃ q, qs[i]? = some q ∧ (q < 2 ∨ 31 < q)
def spEdges (K : PySem.W.Frag) (CP CQ : Addr) : Sp := fun vs H Q E => ∃ (a b : Addr) (ps qs : List Int), vs = [.ref a, .ref b] ∧ SqT K H a (ps.map V.int) ∧ SqT K H b (qs.map V.int) ∧ qs.length = ps.length ∧
  (okTo ps qs ps.length → ∀ H', Same H H' → Q .non H') ∧
  (∀ i, badPar ps qs i → ∀ d H', Same H H' → H' d = none → E (.ref CP) (some d) (upd H' d (.xd [("at", .int (i : Nat))]))) ∧
  (∀ i, badPri ps qs i → ∀ d H', Same H H' → H' d = none → E (.ref CQ) (some d) (upd H' d (.xd [("at", .int (i : Nat))])))
section
variable {P : Program} {w : World} {K : PySem.W.Frag} {mg : Str → Option Value} {base : Heap} {Ad1 Ad2 Ad3 Ad4 Ad5 Ad6 Ad7 Ad9 Ad10 Ad11 Ad12 Ad13 Ad14 Ad20 : Addr}
theorem scCheckEdges : FnScope ["parents", "prices", "at", "parent"] ["parents", "prices"] (defScope sCheckEdges) := ⟨rfl, rfl, rfl, by decide +kernel, rfl, by decide +kernel, by decide +kernel⟩
theorem ok_CheckEdges (T : Txt P w K mg base Ad1 Ad2 Ad3 Ad4 Ad5 Ad6 Ad7 Ad9 Ad10 Ad11 Ad12 Ad13 Ad14 Ad20) : Cl P w K mg base 3 "check_edges" (spEdges K Ad9 Ad10) [] := by
  refine cl_of T.d_check_edges scCheckEdges (fun vs H Q E h => ?_) fun f cdv A outer s H vs Q E hr h => ?_
  · obtain ⟨a, b, ps, qs, rfl, _⟩ := h
    rfl
  · obtain ⟨a, b, ps, qs, rfl, ha, hb, hl, k1, k2, k3⟩ := h
    refine ⟨_, (pss_one (ps_for (passes_of rfl) rfl (pi_enumT (by rfl) T.b_enumerate (pa_cons (pv 0) pa_nil)) (pg_tup rfl (pgs_cons (pg_name (i := 2) scCheckEdges.nd rfl (by first | exact Or.inl rfl | exact Or.inr rfl)) (pgs_cons (pg_name (i := 3) scCheckEdges.nd rfl (by first | exact Or.inl rfl | exact Or.inr rfl)) pgs_nil)))
    (pss_cons (ps_if (PW.pt (pw_or (pt_cmpR op_lt (pv 3) pe_int (nomark _)) (pw_or1 (pt_cmpR op_gt (pv 3) (pv 2) (nomark _)))))
      (pss_one (ps_raise rfl (takes_of rfl rfl rfl rfl) (pmk_rs T.rBadParent hr (by decide) rfl (pa_cons (pv 2) pa_nil))))
      pss_nil)
    (pss_one (ps_if (PW.pt (pw_or (pt_cmpR op_lt (pe_ix ix_tup (pv 1) (pv 2) (fun _ _ => rfl)) (pe_const rfl T.c_LEAST_PRICE) (nomark _)) (pw_or1 (pt_cmpR op_gt (pe_ix ix_tup (pv 1) (pv 2) (fun _ _ => rfl)) (pe_const rfl T.c_MOST_PRICE) (nomark _)))))
      (pss_one (ps_raise rfl (takes_of rfl rfl rfl rfl) (pmk_rs T.rBadPrice hr (by decide) rfl (pa_cons (pv 2) pa_nil))))
      pss_nil))))), ?_⟩
    refine ⟨_, rfl, a, _, rfl, ha, for_enumT (K := K) (a := a) (xs := ps.map V.int) (fun i σ H' => ∃ v1 v2 : Option V, σ = [some (.ref a), some (.ref b), v1, v2] ∧ Same H H' ∧ okTo ps qs i)
      ⟨none, none, rfl, Same.refl H, fun j p q hj => absurd hj (Nat.not_lt_zero _)⟩ (fun i σ H' h => by obtain ⟨_, _, _, sh, _⟩ := h; exact smT sh ha) (fun i x Tq σ H' hx h hT => ?_) fun σ H' h => ?_⟩
    · obtain ⟨v1, v2, rfl, sh, hok⟩ := h
      obtain ⟨p, hp, rfl⟩ := ints_at hx
      have hi : i < ps.length := (List.getElem?_eq_some_iff.mp hp).1
      obtain ⟨q, hq⟩ : ∃ q, qs[i]? = some q := ⟨_, List.getElem?_eq_getElem (by omega)⟩
      refine ⟨Tq, _, rfl, .inl (.inl upd_same), rfl, ?_⟩
      have st : Same H (upd H' Tq (.tup [.int (i : Nat), .int p])) := smN sh hT
      have hb2 := smT st hb
      refine ⟨_, _, rfl, _, _, rfl, rfl, _, rfl, _, _, rfl, rfl, _, rfl, ?_⟩
      refine ifD (fun c => ?_) fun c => ?_
      · exact ⟨_, rfl, _, ⟨_, rfl, rfl⟩, fun d hd => k2 i ⟨hok, p, hp, .inl c⟩ d _ st hd⟩
      refine ⟨_, rfl, _, rfl, _, _, rfl, rfl, _, rfl, ?_⟩
      refine ifD (fun c' => ?_) fun c' => ?_
      · exact ⟨_, rfl, _, ⟨_, rfl, rfl⟩, fun d hd => k2 i ⟨hok, p, hp, .inr c'⟩ d _ st hd⟩
      have okp : ∃ p, ps[i]? = some p ∧ 0 ≤ p ∧ p ≤ i := ⟨p, hp, by omega, by omega⟩
      refine ⟨_, rfl, _, rfl, b, _, _, _, rfl, rfl, hb2, atI_nat (at_ints hq), _, _, rfl, rfl, _, rfl, ?_⟩
      refine ifD (fun c2 => ?_) fun c2 => ?_
      · exact ⟨_, rfl, _, ⟨_, rfl, rfl⟩, fun d hd => k3 i ⟨hok, okp, q, hq, .inl c2⟩ d _ st hd⟩
      refine ⟨_, rfl, _, rfl, b, _, _, _, rfl, rfl, hb2, atI_nat (at_ints hq), _, _, rfl, rfl, _, rfl, ?_⟩
      refine ifD (fun c3 => ?_) fun c3 => ?_
      · exact ⟨_, rfl, _, ⟨_, rfl, rfl⟩, fun d hd => k3 i ⟨hok, okp, q, hq, .inr c3⟩ d _ st hd⟩
      refine ⟨_, _, rfl, st, fun j p' q' hj hp' hq' => ?_⟩
      by_cases e : j < i
      · exact hok j p' q' e hp' hq'
      · obtain rfl : j = i := by omega
        rw [hp] at hp'
        rw [hq] at hq'
        cases hp'
        cases hq'
        exact ⟨by omega, by omega, by omega, by omega⟩
    · obtain ⟨v1, v2, rfl, sh, hok⟩ := h
      rw [List.length_map] at hok
      exact k1 hok H' sh
/-- a tree at its address -/
def treeF (n : Int) (a b : Addr) : List (Str × V) := [("nodes", .int n), ("parents", .ref a), ("prices", .ref b)]
def TreeAt (C : Addr) (H : Hp) (t : Addr) (ps qs : List Int) : Prop := ∃ dx a b, H t = some (.ins C dx (treeF (ps.length + 1) a b)) ∧ H a = some (.tup (ps.map V.int)) ∧ H b = some (.tup (qs.map V.int))
def okT (ps qs : List Int) : Prop := ps.length ≤ 59 ∧ qs.length = ps.length ∧ okTo ps qs ps.length
/-- what Tree(parents, prices) raises -/
inductive BadT (Ad2 Ad6 Ad9 Ad10 : Addr) (ps qs : List Int) : Addr → List (Str × V) → Prop where
  | many (h : 59 < ps.length) : BadT Ad2 Ad6 Ad9 Ad10 ps qs Ad2 [("many", .int (ps.length + 1)), ("what", .str "nodes")]
  | width (h : ps.length ≤ 59) (h2 : qs.length ≠ ps.length) : BadT Ad2 Ad6 Ad9 Ad10 ps qs Ad6 [("need", .int (ps.length : Nat)), ("have", .int (qs.length : Nat))]
  | par (h : ps.length ≤ 59) (h2 : qs.length = ps.length) (i : Nat) (h3 : badPar ps qs i) : BadT Ad2 Ad6 Ad9 Ad10 ps qs Ad9 [("at", .int (i : Nat))]
  | pri (h : ps.length ≤ 59) (h2 : qs.length = ps.length) (i : Nat) (h3 : badPri ps qs i) : BadT Ad2 Ad6 Ad9 Ad10 ps qs Ad10 [("at", .int (i : Nat))]
abbrev RowR (K : PySem.W.Frag) (H : Hp) (a : Addr) (ps : List Int) : Prop := SqL K H a (ps.map V.int) ∨ H a = some (.tup (ps.map V.int))
def spTree (K : PySem.W.Frag) (Ad2 Ad6 Ad9 Ad10 C : Addr) : Sp := fun vs H Q E => ∃ (p dx a b : Addr) (ps qs : List Int), vs = [.ref p, .ref a, .ref b] ∧ H p = some (.ins C dx []) ∧ RowR K H a ps ∧ RowR K H b qs ∧
  (okT ps qs → ∀ H', (∀ b o, b ≠ p → H b = some o → H' b = some o) → TreeAt C H' p ps qs → Q .non H') ∧
  (∀ x fs, BadT Ad2 Ad6 Ad9 Ad10 ps qs x fs → ∀ d H', Same H H' → H' d = none → E (.ref x) (some d) (upd H' d (.xd fs)))
/-- tuple(row), whatever the row is -/
@[irreducible] def rTupR (K : PySem.W.Frag) : List V → Hp → VK → Prop := fun xs H Q => ∃ (p : Addr) (ys : List V), xs = [V.ref p] ∧ ((SqL K H p ys ∧ ∀ (l : Addr), H l = none → Q (V.ref l) (upd H l (HO.tup ys))) ∨ (SqT K H p ys ∧ Q (V.ref p) H))
theorem call_tupR {X : Cx} : CallR X (.type "tuple") (rTupR X.K) := by
  intro pins s σ H xs us Q I r h
  unfold rTupR at h
  exact call_tuple_of pins s σ H xs us Q I r h
theorem tup_of {K : PySem.W.Frag} {H : Hp} {a : Addr} {ps : List Int} {Q : VK} (h : RowR K H a ps) (k : ∀ q H', Same H H' → H' q = some (.tup (ps.map V.int)) → Q (.ref q) H') : rTupR K [V.ref a] H Q := by
  unfold rTupR
  rcases h with h | h
  · exact ⟨a, _, rfl, .inl ⟨h, fun l hl => k l _ (sm0 hl) upd_same⟩⟩
  · exact ⟨a, _, rfl, .inr ⟨SqT.of h, k a H (Same.refl H) h⟩⟩
theorem RowR.same {K : PySem.W.Frag} {H H' : Hp} {a : Addr} {ps : List Int} (s : Same H H') : RowR K H a ps → RowR K H' a ps
  | .inl h => .inl (s.seq h)
  | .inr h => .inr (s _ _ h)
theorem scTreeInit : FnScope ["self", "parents", "prices", "kept_parents", "kept_prices", "nodes"] ["self", "parents", "prices"] (defScope sTreeInit) := ⟨rfl, rfl, rfl, by decide +kernel, rfl, by decide +kernel, by decide +kernel⟩
theorem ok_Tree (T : Txt P w K mg base Ad1 Ad2 Ad3 Ad4 Ad5 Ad6 Ad7 Ad9 Ad10 Ad11 Ad12 Ad13 Ad14 Ad20) : Mkd P w K mg base 4 "Tree" Ad11 "Tree.__init__" sTreeInit ["self", "parents", "prices"] (spTree K Ad2 Ad6 Ad9 Ad10 Ad11) := by
  have c_CheckEdges := ok_CheckEdges T
  refine mkd_of T.m_Tree scTreeInit (fun vs H Q E h => ?_) fun f cdv A outer s H vs Q E hr h => ?_
  · obtain ⟨p, dx, a, b, ps, qs, rfl, _⟩ := h
    rfl
  · obtain ⟨p, dx, a, b, ps, qs, rfl, hp, ha, hb, k1, k2⟩ := h
    refine ⟨_, (pss_cons (ps_set (i := 3) scTreeInit.nd rfl (by first | exact Or.inl rfl | exact Or.inr rfl) (pe_callTy call_tupR (by rfl) T.b_tuple (by decide +kernel) (pa_cons (pv 1) pa_nil)))
  (pss_cons (ps_set (i := 4) scTreeInit.nd rfl (by first | exact Or.inl rfl | exact Or.inr rfl) (pe_callTy call_tupR (by rfl) T.b_tuple (by decide +kernel) (pa_cons (pv 2) pa_nil)))
  (pss_cons (ps_set (i := 5) scTreeInit.nd rfl (by first | exact Or.inl rfl | exact Or.inr rfl) (pe_op op_add (pe_callB call_len_seq (by rfl) T.b_len (by decide +kernel) (pa_cons (pv 3) pa_nil)) pe_int))
  (pss_cons (ps_if (pt_cmpR op_gt (pv 5) (pe_const rfl T.c_MOST_TREE_NODES) (nomark _))
    (pss_one (ps_raise rfl (takes_of rfl rfl rfl rfl) (pmk_rs T.rBadCount hr (by decide) rfl (pa_cons pe_str (pa_cons (pv 5) pa_nil)))))
    pss_nil)
  (pss_cons (ps_if (pt_cmpR op_ne (pe_callB call_len_seq (by rfl) T.b_len (by decide +kernel) (pa_cons (pv 4) pa_nil)) (pe_callB call_len_seq (by rfl) T.b_len (by decide +kernel) (pa_cons (pv 3) pa_nil)) (nomark _))
    (pss_one (ps_raise rfl (takes_of rfl rfl rfl rfl) (pmk_rs T.rWrongWidth hr (by decide) rfl (pa_cons (pe_callB call_len_seq (by rfl) T.b_len (by decide +kernel) (pa_cons (pv 4) pa_nil)) (pa_cons (pe_callB call_len_seq (by rfl) T.b_len (by decide +kernel) (pa_cons (pv 3) pa_nil)) pa_nil)))))
    pss_nil)
  (pss_cons (ps_expr (pe_cX (takes_of rfl rfl rfl rfl) c_CheckEdges hr (by decide) rfl (pa_cons (pv 3) (pa_cons (pv 4) pa_nil))))
  (pss_cons (ps_fld (pv 0) (pv 5) rfl)
  (pss_cons (ps_fld (pv 0) (pv 3) rfl)
  (pss_one (ps_fld (pv 0) (pv 4) rfl)))))))))), ?_⟩
    refine ⟨_, rfl, tup_of ha fun q1 H1 s1 hq1 => ?_⟩
    refine ⟨_, rfl, tup_of (hb.same s1) fun q2 H2 s2 hq2 => ?_⟩
    have s02 := s1.trans s2
    have hq1' := s2 _ _ hq1
    refine ⟨_, rfl, q1, _, rfl, .inr (SqT.of hq1'), _, _, rfl, rfl, ?_⟩
    refine ⟨_, rfl, _, _, rfl, rfl, _, rfl, ?_⟩
    have elp : (((ps.map V.int).length : Nat) : Int) = (ps.length : Nat) := by rw [List.length_map]
    refine ifD (fun c => ?_) fun c => ?_
    · refine ⟨_, rfl, _, ⟨_, _, rfl, ⟨_, rfl, by decide +kernel⟩, rfl⟩, fun d hd => ?_⟩
      have c1 : (60 : Int) < ((ps.map V.int).length : Nat) + 1 := c
      rw [elp] at c1
      have := k2 _ _ (.many (by omega)) d H2 s02 hd
      rw [elp]
      exact this
    have c1 : ¬ (60 : Int) < ((ps.map V.int).length : Nat) + 1 := c
    rw [elp] at c1
    refine ⟨_, rfl, q2, _, rfl, .inr (SqT.of hq2), _, rfl, q1, _, rfl, .inr (SqT.of hq1'), rfl, _, rfl, ?_⟩
    refine ifIN (fun c2 => ?_) fun c2 => ?_
    · refine ⟨_, rfl, q2, _, rfl, .inr (SqT.of hq2), _, rfl, q1, _, rfl, .inr (SqT.of hq1'), _, ⟨_, _, rfl, trivial, rfl⟩, fun d hd => ?_⟩
      rw [List.length_map, List.length_map] at c2
      have := k2 _ _ (.width (by omega) (by omega)) d H2 s02 hd
      rw [List.length_map, List.length_map]
      exact this
    rw [List.length_map, List.length_map] at c2
    have c3 : qs.length = ps.length := by omega
    refine ⟨_, rfl, _, rfl, q1, q2, ps, qs, rfl, SqT.of hq1', SqT.of hq2, c3, fun hok H3 s3 => ?_, fun i hi d H3 s3 hd => k2 _ _ (.par (by omega) c3 i hi) d H3 (s02.trans s3) hd, fun i hi d H3 s3 hd => k2 _ _ (.pri (by omega) c3 i hi) d H3 (s02.trans s3) hd⟩
    have s03 := s02.trans s3
    have hp3 := s03 _ _ hp
    have n1 : q1 ≠ p := ne_of (s3 _ _ hq1') hp3 (by intro z; cases z)
    have n2 : q2 ≠ p := ne_of (s3 _ _ hq2) hp3 (by intro z; cases z)
    refine ⟨_, rfl, _, rfl, p, Ad11, dx, _, rfl, hp3, T.lTree, T.nTree_nodes, (by decide), ?_⟩
    refine ⟨_, rfl, _, rfl, p, Ad11, dx, _, rfl, upd_same, T.lTree, T.nTree_parents, (by show 1 < 1000; decide), ?_⟩
    refine ⟨_, rfl, _, rfl, p, Ad11, dx, _, rfl, upd_same, T.lTree, T.nTree_prices, (by show 2 < 1000; decide), ?_⟩
    rw [upd_upd, upd_upd]
    refine k1 ⟨by omega, c3, hok⟩ _ (fun b o nb e => ?_) ⟨dx, q1, q2, ?_, ?_, ?_⟩
    · rw [upd_ne nb]
      exact s03 _ _ e
    · rw [upd_same, List.length_map, putF_new (f := "nodes") (by walk_at "lk"), putF_new (f := "parents") (by walk_at "lk"), putF_new (f := "prices") (by walk_at "lk")]
      rfl
    · rw [upd_ne n1]; exact s3 _ _ hq1'
    · rw [upd_ne n2]; exact s3 _ _ hq2
end
end K12
set_option maxRecDepth 100000
set_option maxHeartbeats 4000000
namespace K12
open PySem L2 SI
local macro_rules | `(tactic| walk_at "lk") => `(tactic| first | exact lk_hit | exact lk_nil | (refine lk_next (by decide +kernel) ?_; walk_at "lk"))
theorem TreeAt.same {C t : Addr} {H H' : Hp} {ps qs : List Int} (s : Same H H') (h : TreeAt C H t ps qs) : TreeAt C H' t ps qs := by
  obtain ⟨dx, a, b, h1, h2, h3⟩ := h
  exact ⟨dx, a, b, s _ _ h1, s _ _ h2, s _ _ h3⟩
theorem pow31 : ∀ k : Nat, (1 : Int) ≤ 31 ^ k
  | 0 => by decide
  | k + 1 => by rw [Int.pow_succ]; have := pow31 k; omega
theorem pow31_le {a b : Nat} (h : a ≤ b) : (31 : Int) ^ a ≤ 31 ^ b := by
  obtain ⟨k, rfl⟩ : ∃ k, b = a + k := ⟨b - a, by omega⟩
  rw [Int.pow_add]
  have h1 := pow31 a
  have h2 := pow31 k
  have := Int.mul_le_mul_of_nonneg_left h2 (show 0 ≤ (31 : Int) ^ a by omega)
  omega
section
theorem rep_one {n : Nat} {v : V} : (List.replicate n [v]).flatten = List.replicate n v := by
  induction n with
  | zero => rfl
  | succ k ih => rw [List.replicate_succ, List.flatten_cons, ih]; rfl
end
/-- the children of v among the first i edges -/
def kids (ps : List Int) (v : Int) : Nat → List Int
  | 0 => []
  | i + 1 => kids ps v i ++ (if ps[i]? = some v then [((i : Nat) : Int) + 1] else [])
theorem kids_len (ps : List Int) (v : Int) : ∀ i, (kids ps v i).length ≤ i
  | 0 => Nat.le_refl _
  | i + 1 => by
    have := kids_len ps v i
    show (kids ps v i ++ _).length ≤ _
    rw [List.length_append]
    split <;> simp <;> omega
def spChildren (CN C : Addr) : Sp := fun vs H Q E => ∃ (t : Addr) (ps qs : List Int) (v : Int), vs = [.ref t, .int v] ∧ TreeAt C H t ps qs ∧ ps.length ≤ 59 ∧
  (0 ≤ v → v < ps.length + 1 → ∀ q H', Same H H' → H' q = some (.tup ((kids ps v ps.length).map V.int)) → Q (.ref q) H') ∧
  ((v < 0 ∨ (ps.length : Int) + 1 ≤ v) → ∀ d, H d = none → E (.ref CN) (some d) (upd H d (.xd [("node", .int v)])))
section
variable {P : Program} {w : World} {K : PySem.W.Frag} {mg : Str → Option Value} {base : Heap} {Ad1 Ad2 Ad3 Ad4 Ad5 Ad6 Ad7 Ad9 Ad10 Ad11 Ad12 Ad13 Ad14 Ad20 : Addr}
theorem scTreeChildren : FnScope ["self", "node", "at", "parent"] ["self", "node"] (defScope sTreeChildren) := ⟨rfl, rfl, rfl, by decide +kernel, rfl, by decide +kernel, by decide +kernel⟩
theorem ok_Children (T : Txt P w K mg base Ad1 Ad2 Ad3 Ad4 Ad5 Ad6 Ad7 Ad9 Ad10 Ad11 Ad12 Ad13 Ad14 Ad20) : Mtd P w K mg base 3 Ad11 "children" "Tree.children" sTreeChildren ["self", "node"] (spChildren Ad4 Ad11) := by
  refine mtd_of T.d_Tree_children scTreeChildren (fun vs H Q E h => ?_) fun f cdv A outer s H vs Q E hr h => ?_
  · obtain ⟨t, ps, qs, v, rfl, _⟩ := h
    rfl
  · obtain ⟨t, ps, qs, v, rfl, ⟨dx, a, b, ht, ha, hb⟩, hl, k1, k2⟩ := h
    refine ⟨_, (pss_cons (ps_if (PW.pt (pw_or (pt_cmpR op_lt (pv 1) pe_int (nomark _)) (pw_or1 (pt_cmpR op_ge (pv 1) (pe_fld (pv 0) rfl) (nomark _)))))
    (pss_one (ps_raise rfl (takes_of rfl rfl rfl rfl) (pmk_rs T.rNoNode hr (by decide) rfl (pa_cons (pv 1) pa_nil))))
    pss_nil)
  (pss_one (ps_ret (pe_callTy call_tupR (by rfl) T.b_tuple (by decide +kernel) (pa_cons (pe_lc (own := [(("at" : Str), 2), (("parent" : Str), 3)]) (g := gTup K 2 (gCons (gName 2) (gCons (gName 3) gNil))) (by rfl) scTreeChildren.nd (pi_enumT (by rfl) T.b_enumerate (pa_cons (pe_fld (pv 0) rfl) pa_nil)) (blkOk_by (own := [(("at" : Str), 2), (("parent" : Str), 3)]) (N := ["self", "node", "at", "parent"]) (sc := defScope sTreeChildren) (by decide +kernel)) (fun _ _ _ _ _ => (pg_tup rfl (pgs_cons (pg_name (i := 2) scTreeChildren.nd rfl (by first | exact Or.inl rfl | exact Or.inr rfl)) (pgs_cons (pg_name (i := 3) scTreeChildren.nd rfl (by first | exact Or.inl rfl | exact Or.inr rfl)) pgs_nil)))) (fun _ _ _ _ _ => (pts_one (pt_cmpR op_eq (pv 3) (pv 1) (nomark _)))) (fun _ _ _ _ _ => (pe_op op_add (pv 2) pe_int))) pa_nil))))), ?_⟩
    have l1 : (treeF (ps.length + 1) a b).lookup ("nodes" : Str) = some (V.int (ps.length + 1)) := by walk_at "lk"
    have l2 : (treeF (ps.length + 1) a b).lookup ("parents" : Str) = some (V.ref a) := by walk_at "lk"
    refine ⟨_, rfl, _, _, rfl, rfl, _, rfl, ?_⟩
    refine ifD (fun c => ?_) fun c => ?_
    · exact ⟨_, rfl, _, ⟨_, rfl, rfl⟩, fun d hd => k2 (.inl c) d hd⟩
    refine ⟨_, rfl, _, rfl, t, Ad11, dx, _, _, rfl, ht, T.lTree, T.nTree_nodes, l1, _, _, rfl, rfl, _, rfl, ?_⟩
    refine ifD (fun c' => ?_) fun c' => ?_
    · exact ⟨_, rfl, _, ⟨_, rfl, rfl⟩, fun d hd => k2 (.inr c') d hd⟩
    refine ⟨_, rfl, t, Ad11, dx, _, _, rfl, ht, T.lTree, T.nTree_parents, l2, a, _, rfl, SqT.of ha, fun D hD => ?_⟩
    refine lc_enumT (K := K) (a := a) (xs := ps.map V.int) (fun i H' => i ≤ ps.length ∧ Same H H' ∧ H' D = some (.lst ((kids ps v i).map V.int)))
      ⟨Nat.zero_le _, sm0 hD, upd_same⟩ (fun i H' z => smT z.2.1 (SqT.of ha)) (fun i x Tq H' hx z hT => ?_) fun H' z => ?_
    · obtain ⟨hi, sh, hacc⟩ := z
      obtain ⟨p, hp, rfl⟩ := ints_at hx
      have hil : i < ps.length := (List.getElem?_eq_some_iff.mp hp).1
      have st : Same H (upd H' Tq (.tup [.int (i : Nat), .int p])) := smN sh hT
      have hacc2 := atN (q := Tq) (o := .tup [.int (i : Nat), .int p]) hacc hT
      refine ⟨Tq, _, rfl, .inl (.inl upd_same), rfl, ?_⟩
      refine ⟨_, _, rfl, _, _, rfl, rfl, rfl, _, rfl, _, rfl, rfl, _, rfl, ?_⟩
      refine ifI (fun c => ?_) fun c => ?_
      · refine ⟨_, rfl, _, _, rfl, rfl, _, hacc2, ?_, hil, smM st hD, ?_⟩
        · rw [List.length_map]
          exact sz_lt (by have := kids_len ps v i; omega)
        · rw [upd_same]
          show _ = some (HO.lst ((kids ps v i ++ _).map V.int))
          rw [hp, if_pos (by rw [c]), List.map_append]
          rfl
      · refine ⟨hil, st, ?_⟩
        show _ = some (HO.lst ((kids ps v i ++ _).map V.int))
        rw [hp, if_neg (fun e => c (Option.some.inj e)), List.append_nil]
        exact hacc2
    · obtain ⟨hi, sh, hacc⟩ := z
      rw [List.length_map] at hacc
      refine tup_of (.inl (SqL.of hacc)) fun q H2 s2 hq => ?_
      exact k1 (by omega) (by omega) q H2 (sh.trans s2) hq
end
end K12
set_option maxRecDepth 100000
set_option maxHeartbeats 4000000
namespace K12
open PySem PySem.Spec PyProof.Rows L2 SI
local macro_rules | `(tactic| walk_at "lk") => `(tactic| first | exact lk_hit | exact lk_nil | (refine lk_next (by decide +kernel) ?_; walk_at "lk"))
theorem PoolB.up {H : Hp} {p : Addr} {b c : Nat} (h : PoolB H p b) (hc : b ≤ c) : PoolB H p c := by
  obtain ⟨z, ns, h1, h2, h3, h4⟩ := h
  exact ⟨z, ns, h1, h2, by omega, h4⟩
theorem PoolB.ne {H : Hp} {p l : Addr} {b : Nat} (h : PoolB H p b) (hl : H l = none) : l ≠ p := by
  obtain ⟨z, ns, h1, _⟩ := h
  exact (ne_of_none h1 hl).symm
theorem PoolB.new {H : Hp} {p l : Addr} {b : Nat} {o : HO} (h : PoolB H p b) (hl : H l = none) : PoolB (upd H l o) p b := by
  have n := h.ne hl
  obtain ⟨z, ns, h1, h2⟩ := h
  exact ⟨z, ns, by rw [upd_ne n.symm]; exact h1, h2⟩
theorem PoolB.same {H H' : Hp} {p : Addr} {b : Nat} (h : PoolB H p b) (s : Same H H') : PoolB H' p b := by
  obtain ⟨z, ns, h1, h2⟩ := h
  exact ⟨z, ns, s _ _ h1, h2⟩
theorem PoolB.put {H : Hp} {p a : Addr} {b : Nat} {o : HO} (h : PoolB H p b) (n : a ≠ p) : PoolB (upd H a o) p b := by
  obtain ⟨z, ns, h1, h2⟩ := h
  exact ⟨z, ns, by rw [upd_ne n.symm]; exact h1, h2⟩
theorem But.free {p a : Addr} {H H' : Hp} (s : But p H H') (n : a ≠ p) (h : H' a = none) : H a = none := by
  cases e : H a with
  | none => rfl
  | some o => rw [s a o n e] at h; cases h
theorem pick {L : List Int} {d : Int} (h0 : 0 ≤ d) (h1 : d < L.length) : ∃ z, z ∈ L ∧ atI (L.map V.int) d = some (.int z) := by
  have h : d.toNat < L.length := by omega
  exact ⟨L[d.toNat], List.getElem_mem h, at_of (j := d.toNat) (by omega) (at_ints (List.getElem?_eq_getElem h))⟩
theorem okTo_snoc {ps qs : List Int} {i : Nat} {d r : Int} (h1 : ps.length = i) (h2 : qs.length = i) (h : okTo ps qs i) (e : okE i d r) : okTo (ps ++ [d]) (qs ++ [r]) (i + 1) := by
  intro j p q hj hp hq
  by_cases c : j < i
  · rw [List.getElem?_append_left (by omega)] at hp hq
    exact h j p q c hp hq
  · obtain rfl : j = i := by omega
    rw [List.getElem?_append_right (by omega), h1, Nat.sub_self] at hp
    rw [List.getElem?_append_right (by omega), h2, Nat.sub_self] at hq
    cases hp
    cases hq
    exact e
theorem big6 {b : Nat} (h : b ≤ 10 ^ 7) : b ≤ 10 ^ 100 := Nat.le_trans h (Nat.pow_le_pow_right (by decide) (by decide))
/-! equal data -/
section
variable {H : Hp} {a b : Addr} {d : Nat}
theorem da_map {α : Type} {F : α → V} {xs : List α} (ha : H a = some (.tup (xs.map F))) (hb : H b = some (.tup (xs.map F))) (hz : xs.length ≤ 100000) (h : ∀ x ∈ xs, Da H d (F x) (F x)) : Da H (d + 1) (.ref a) (.ref b) :=
  .tup d a b _ _ ha hb rfl (by rw [List.length_map]; exact hz) fun i x y h1 h2 => by
    rw [h1] at h2
    cases h2
    rw [List.getElem?_map] at h1
    cases e : xs[i]? with
    | none => rw [e] at h1; cases h1
    | some z => rw [e] at h1; cases h1; exact h z (List.mem_of_getElem? e)
theorem da_ints {ns : List Int} (ha : H a = some (.tup (ns.map V.int))) (hb : H b = some (.tup (ns.map V.int))) (hz : ns.length ≤ 100000) : Da H (d + 1) (.ref a) (.ref b) := da_map ha hb hz fun x _ => .int d x
theorem da_one {x y : V} (ha : H a = some (.tup [x])) (hb : H b = some (.tup [y])) (h : Da H d x y) : Da H (d + 1) (.ref a) (.ref b) := .tup d a b _ _ ha hb rfl (by show 1 ≤ 100000; decide) fun i u v h1 h2 => by
  cases i with
  | zero => cases h1; cases h2; exact h
  | succ i => simp at h1
theorem da_two {x y x' y' : V} (ha : H a = some (.tup [x, x'])) (hb : H b = some (.tup [y, y'])) (h : Da H d x y) (h' : Da H d x' y') : Da H (d + 1) (.ref a) (.ref b) := .tup d a b _ _ ha hb rfl (by show 2 ≤ 100000; decide) fun i u v h1 h2 => by
  cases i with
  | zero => cases h1; cases h2; exact h
  | succ i => cases i with
    | zero => cases h1; cases h2; exact h'
    | succ i => simp at h1
theorem da_str {s t : Str} {n m : V} (hs : s = t) (hsh : SeqAt.shaped (.str t) = true) (h : Da H d n m) (ha : H a = some (.tup [.str s, n])) (hb : H b = some (.tup [.str t, m])) : Da H (d + 1) (.ref a) (.ref b) := by
  subst hs
  exact da_two ha hb (.str d _ hsh) h
end
theorem TreeAt.but {C p t : Addr} {H H' : Hp} {ps qs : List Int} {b : Nat} (h : TreeAt C H t ps qs) (hp : PoolB H p b) (s : But p H H') : TreeAt C H' t ps qs := by
  obtain ⟨z, ns, hp, _⟩ := hp
  obtain ⟨dx, a, b, h1, h2, h3⟩ := h
  exact ⟨dx, a, b, s _ _ (ne_of h1 hp (by intro z; cases z)) h1, s _ _ (ne_of h2 hp (by intro z; cases z)) h2, s _ _ (ne_of h3 hp (by intro z; cases z)) h3⟩
theorem no_bad {ps qs : List Int} (ok : okT ps qs) {Ad2 Ad6 Ad9 Ad10 x : Addr} {fs : List (Str × V)} (h : BadT Ad2 Ad6 Ad9 Ad10 ps qs x fs) : False := by
  cases h with
  | many h => have := ok.1; omega
  | width h h2 => exact h2 ok.2.1
  | par h h2 i h3 =>
    obtain ⟨_, p, hp, c⟩ := h3
    have hi := (List.getElem?_eq_some_iff.mp hp).1
    obtain ⟨q, hq⟩ : ∃ q, qs[i]? = some q := ⟨_, List.getElem?_eq_getElem (by omega)⟩
    have := ok.2.2 i p q hi hp hq
    have := this.1
    have := (ok.2.2 i p q hi hp hq).2.1
    omega
  | pri h h2 i h3 =>
    obtain ⟨_, ⟨p, hp, _⟩, q, hq, c⟩ := h3
    have hi := (List.getElem?_eq_some_iff.mp hp).1
    have := (ok.2.2 i p q hi hp hq).2.2
    have h1 := this.1
    have h2 := this.2
    omega
/-- Tree(a, b) of good rows -/
theorem mk_ok {K : PySem.W.Frag} {Ad2 Ad6 Ad9 Ad10 C : Addr} {H1 : Hp} {a b x dx : Addr} {ps qs : List Int} {Q : VK} {E : XK} (hx : H1 x = none) (hdx : H1 dx = none) (ok : okT ps qs) (ha : RowR K H1 a ps) (hb : RowR K H1 b qs)
    (k : ∀ H', Same H1 H' → TreeAt C H' x ps qs → Q .non H') : spTree K Ad2 Ad6 Ad9 Ad10 C (.ref x :: ([.ref a, .ref b] ++ [])) (upd (upd H1 dx (.own x)) x (.ins C dx [])) Q E := by
  have s0 : Same H1 (upd (upd H1 dx (.own x)) x (.ins C dx [])) := smM (sm0 hdx) hx
  exact ⟨x, dx, a, b, ps, qs, rfl, upd_same, ha.same s0, hb.same s0, fun _ H' hb' ht => k H' (fun c o e => hb' c o (ne_of_none e hx) (s0 _ _ e)) ht, fun y fs hbad => (no_bad ok hbad).elim⟩
def pw (qs : List Int) (v : Nat) : Int := qs.getD (v - 1) 1
theorem pw_of {qs : List Int} {v : Nat} {x : Int} (h : qs[v]? = some x) : pw qs (v + 1) = x := by unfold pw; rw [Nat.add_sub_cancel, List.getD_eq_getElem?_getD, h]; rfl
section
variable {ps qs : List Int}
theorem pw_ok {ps qs : List Int} (ok : okT ps qs) {u : Nat} (h1 : 1 ≤ u) (h2 : u ≤ ps.length) : 2 ≤ pw qs u ∧ pw qs u ≤ 31 := by
  obtain ⟨p, hp⟩ : ∃ p, ps[u - 1]? = some p := ⟨_, List.getElem?_eq_getElem (by omega)⟩
  obtain ⟨q, hq⟩ : ∃ q, qs[u - 1]? = some q := ⟨_, List.getElem?_eq_getElem (by have := ok.2.1; omega)⟩
  have := (ok.2.2 (u - 1) p q (by omega) hp hq).2.2
  have e := pw_of hq
  rw [show u - 1 + 1 = u by omega] at e
  rw [e]
  exact this
end
def parOk (A : List Int) : Prop := ∀ (i : Nat) p, A[i]? = some p → 0 ≤ p ∧ p ≤ i
theorem okT.par {ps qs : List Int} (ok : okT ps qs) : parOk ps := fun i p hp => by
  obtain ⟨q, hq⟩ : ∃ q, qs[i]? = some q := ⟨_, List.getElem?_eq_getElem (by have := (List.getElem?_eq_some_iff.mp hp).1; have := ok.2.1; omega)⟩
  have := ok.2.2 i p q (List.getElem?_eq_some_iff.mp hp).1 hp hq
  exact ⟨this.1, this.2.1⟩
def par (ps : List Int) (i : Nat) : Nat := (ps.getD i 0).toNat
section
variable {ps qs : List Int}
theorem getD_set {h : List Int} {p v : Nat} {x : Int} (hp : p < h.length) : (h.set p x).getD v 0 = if p = v then x else h.getD v 0 := by
  rw [List.getD_eq_getElem?_getD, List.getElem?_set]
  by_cases c : p = v
  · subst c
    rw [if_pos rfl, if_pos rfl, if_pos hp]; rfl
  · rw [if_neg c, if_neg c, List.getD_eq_getElem?_getD]
theorem par_of {i : Nat} {p : Nat} (h : ps[i]? = some (p : Int)) : par ps i = p := by
  unfold par
  rw [List.getD_eq_getElem?_getD, h]
  rfl
theorem par_lt (ok : okT ps qs) {i : Nat} (hi : i < ps.length) : ps[i]? = some ((par ps i : Nat) : Int) ∧ par ps i ≤ i := by
  obtain ⟨p, hp⟩ : ∃ p, ps[i]? = some p := ⟨_, List.getElem?_eq_getElem hi⟩
  have := ok.par i p hp
  obtain ⟨pn, rfl⟩ : ∃ pn : Nat, p = (pn : Int) := ⟨p.toNat, by omega⟩
  rw [par_of hp]
  exact ⟨hp, by omega⟩
end
def tMonoE (t : TE) : TE := fun σ H Q => ∃ Q' : VK, t σ H Q' ∧ ∀ v H1, Q' v H1 → Q v H1
theorem pe_mono {X : Cx} {e : Expr} {t : TE} (h : PE X e t) : PE X e (tMonoE t) := ⟨fun pins s σ H Q I ⟨Q', q, m⟩ => thn (h.run pins s σ H Q' I q) fun u s1 ⟨v, H1, I1, r1, q1⟩ => ⟨v, H1, I1, r1, m v H1 q1⟩⟩
def tMonoT (t : TT) : TT := fun σ H Q => ∃ Q' : Bool → Hp → Prop, t σ H Q' ∧ ∀ b H1, Q' b H1 → Q b H1
theorem pt_mono {X : Cx} {e : Expr} {t : TT} (h : PT X e t) : PT X e (tMonoT t) := ⟨fun pins s σ H Q I ⟨Q', q, m⟩ => thn (h.run pins s σ H Q' I q) fun b s1 ⟨H1, I1, q1⟩ => ⟨H1, I1, m b H1 q1⟩⟩
end K12
set_option maxRecDepth 100000
set_option maxHeartbeats 4000000
namespace K12
open PySem PySem.Spec PyProof.Rows L2 SI
local macro_rules | `(tactic| walk_at "lk") => `(tactic| first | exact lk_hit | exact lk_nil | (refine lk_next (by decide +kernel) ?_; walk_at "lk"))
/-! webs -/
def keyL (t h : Int) : List Key := [.inl t, .inl h]
def okA (n : Int) (a : Ar) : Prop := 0 ≤ a.1 ∧ a.1 < n ∧ 0 ≤ a.2.1 ∧ a.2.1 < n ∧ a.1 ≠ a.2.1 ∧ 2 ≤ a.2.2 ∧ a.2.2 ≤ 31
/-- arrows of a web of n nodes -/
structure okW (n : Int) (as : List Ar) : Prop where
  lo : 1 ≤ n
  hi : n ≤ 64
  len : as.length ≤ 400
  arr : ∀ a ∈ as, okA n a
  key : as.Pairwise fun a b => ¬ (a.1 = b.1 ∧ a.2.1 = b.2.1)
def bundV (H : Hp) (cs : List V) (as : List Ar) : Prop := cs.length = as.length ∧ ∀ (i : Nat) c a, cs[i]? = some c → as[i]? = some a → ∃ r r', c = .ref r ∧ H r = some (.tup [.ref r']) ∧ H r' = some (.tup [.int a.1, .int a.2.2])
def webF (n : Int) (A Bp : Addr) (m : Int) (Bu He Nu : Addr) : List (Str × V) := [("nodes", .int n), ("arrows", .ref A), ("pairs", .ref Bp), ("move_count", .int m), ("_bundles", .ref Bu), ("_heads", .ref He), ("_numbers", .ref Nu)]
/-- a web without pairs at its address -/
def WebAt (C : Addr) (H : Hp) (w : Addr) (n : Int) (as : List Ar) : Prop := ∃ (dx A Bp Bu He Nu : Addr) (bs : List (V × Ar)) (cs : List V),
  H w = some (.ins C dx (webF n A Bp (as.length : Nat) Bu He Nu)) ∧ H A = some (.tup (bs.map Prod.fst)) ∧ T3 H bs ∧ bs.map Prod.snd = as ∧ H Bp = some (.tup []) ∧
  H Bu = some (.tup cs) ∧ bundV H cs as ∧ H He = some (.tup (as.map fun a => V.int a.2.1)) ∧ ∃ kvs, H Nu = some (.dT kvs)
def isT (o : HO) : Prop := (∃ xs, o = .tup xs) ∨ (∃ C dx fs, o = .ins C dx fs) ∨ ∃ kvs, o = .dT kvs
theorem bundV.same {H H' : Hp} {cs : List V} {as : List Ar} (s : ∀ b o, H b = some (HO.tup o) → H' b = some (.tup o)) (h : bundV H cs as) : bundV H' cs as :=
  ⟨h.1, fun i c a e1 e2 => by obtain ⟨r, r', e, h1, h2⟩ := h.2 i c a e1 e2; exact ⟨r, r', e, s _ _ h1, s _ _ h2⟩⟩
theorem WebAt.keep {C w : Addr} {H H' : Hp} {n : Int} {as : List Ar} (s : ∀ b o, isT o → H b = some o → H' b = some o) (h : WebAt C H w n as) : WebAt C H' w n as := by
  obtain ⟨dx, A, Bp, Bu, He, Nu, bs, cs, h1, h2, h3, h4, h5, h6, h7, h8, kvs, h9⟩ := h
  have t : ∀ b o, H b = some (HO.tup o) → H' b = some (.tup o) := fun b o e => s b _ (.inl ⟨o, rfl⟩) e
  exact ⟨dx, A, Bp, Bu, He, Nu, bs, cs, s _ _ (.inr (.inl ⟨_, _, _, rfl⟩)) h1, t _ _ h2, h3.same t, h4, t _ _ h5, t _ _ h6, h7.same t, t _ _ h8, kvs, s _ _ (.inr (.inr ⟨_, rfl⟩)) h9⟩
theorem WebAt.same {C w : Addr} {H H' : Hp} {n : Int} {as : List Ar} (s : Same H H') (h : WebAt C H w n as) : WebAt C H' w n as := h.keep fun b o _ e => s b o e
def spArr : Sp := fun vs H Q _ => ∃ (n : Int) (a : Ar), vs = [.int n, .int a.1, .int a.2.1, .int a.2.2] ∧ okA n a ∧ Q (.bl true) H
def spPrc (K : PySem.W.Frag) : Sp := fun vs H Q _ => ∃ (n : Int) (a : Addr) (bs : List (V × Ar)), vs = [.int n, .ref a] ∧ SqL K H a (bs.map Prod.fst) ∧ T3 H bs ∧ okW n (bs.map Prod.snd) ∧ ∀ d H', Same H H' → Q (.ref d) H'
def spPairs (K : PySem.W.Frag) : Sp := fun vs H Q _ => ∃ d b : Addr, vs = [.ref d, .ref b] ∧ SqT K H b [] ∧ ∀ H', Same H H' → Q .non H'
def spWeb (K : PySem.W.Frag) (C : Addr) : Sp := fun vs H Q _ => ∃ (p dx : Addr) (n : Int) (a b : Addr) (bs : List (V × Ar)), vs = [.ref p, .int n, .ref a, .ref b] ∧ H p = some (.ins C dx []) ∧ H a = some (.lst (bs.map Prod.fst)) ∧ T3 H bs ∧ (∀ H, SqT K H b []) ∧ okW n (bs.map Prod.snd) ∧
  ∀ H', (∀ b o, b ≠ p → H b = some o → H' b = some o) → WebAt C H' p n (srtA (bs.map Prod.snd)) → Q .non H'
section
variable {P : Program} {w : World} {K : PySem.W.Frag} {mg : Str → Option Value} {base : Heap} {Ad1 Ad2 Ad3 Ad4 Ad5 Ad6 Ad7 Ad9 Ad10 Ad11 Ad12 Ad13 Ad14 Ad20 : Addr}
theorem scIsArrow : FnScope ["nodes", "tail", "head", "price"] ["nodes", "tail", "head", "price"] (defScope sIsArrow) := ⟨rfl, rfl, rfl, by decide +kernel, rfl, by decide +kernel, by decide +kernel⟩
theorem ok_IsArrow (T : Txt P w K mg base Ad1 Ad2 Ad3 Ad4 Ad5 Ad6 Ad7 Ad9 Ad10 Ad11 Ad12 Ad13 Ad14 Ad20) : Cl P w K mg base 1 "is_arrow" spArr [] := by
  refine cl_of T.d_is_arrow scIsArrow (fun vs H Q E h => ?_) fun f cdv A outer s H vs Q E hr h => ?_
  · obtain ⟨n, a, rfl, _⟩ := h
    rfl
  · obtain ⟨n, ⟨t, h, p⟩, rfl, ⟨h1, h2, h3, h4, h5, h6, h7⟩, k⟩ := h
    dsimp only at h1 h2 h3 h4 h5 h6 h7
    refine ⟨_, (pss_cons (ps_if (PW.pt (pw_or (pt_not (pt_chain op_le op_lt pe_int (pv 1) (pv 0))) (pw_or1 (pt_not (pt_chain op_le op_lt pe_int (pv 2) (pv 0))))))
    (pss_one (ps_ret pe_bl))
    pss_nil)
  (pss_one (ps_ret (pe_and (pe_cmpR op_ne (pv 1) (pv 2) (nomark _)) (pe_one (pe_chain op_le op_le (pe_const rfl T.c_LEAST_PRICE) (pv 3) (pe_const rfl T.c_MOST_PRICE))))))), ?_⟩
    refine ⟨_, rfl, _, _, rfl, rfl, _, rfl, ifT (decide_eq_true h1) ⟨_, rfl, _, _, rfl, rfl, _, rfl, ifF (by simp [h2]) ?_⟩⟩
    refine ⟨_, rfl, _, _, rfl, rfl, _, rfl, ifT (decide_eq_true h3) ⟨_, rfl, _, _, rfl, rfl, _, rfl, ifF (by simp [h4]) ?_⟩⟩
    refine ⟨_, rfl, _, rfl, rfl, _, rfl, ifIN (fun _ => ?_) fun z => absurd z h5⟩
    refine ⟨_, rfl, _, _, rfl, rfl, _, rfl, ifT (decide_eq_true h6) ⟨_, _, rfl, rfl, ?_⟩⟩
    show Q (.bl (decide (p ≤ 31))) H
    rw [decide_eq_true h7]
    exact k
theorem scCheckedPrices : FnScope ["nodes", "arrows", "prices", "at", "tail", "head", "price"] ["nodes", "arrows"] (defScope sCheckedPrices) := ⟨rfl, rfl, rfl, by decide +kernel, rfl, by decide +kernel, by decide +kernel⟩
theorem ok_CheckedPrices (T : Txt P w K mg base Ad1 Ad2 Ad3 Ad4 Ad5 Ad6 Ad7 Ad9 Ad10 Ad11 Ad12 Ad13 Ad14 Ad20) : Cl P w K mg base 2 "checked_prices" (spPrc K) [] := by
  have c_IsArrow := ok_IsArrow T
  refine cl_of T.d_checked_prices scCheckedPrices (fun vs H Q E h => ?_) fun f cdv A outer s H vs Q E hr h => ?_
  · obtain ⟨n, a, bs, rfl, _⟩ := h
    rfl
  · obtain ⟨n, a, bs, rfl, ha, h3, ok, k⟩ := h
    refine ⟨_, (pss_cons (ps_set (i := 2) scCheckedPrices.nd rfl (by first | exact Or.inl rfl | exact Or.inr rfl) pe_dnewT)
  (pss_cons (ps_for (passes_of rfl) rfl (pi_enum (by rfl) T.b_enumerate (pa_cons (pv 1) pa_nil)) (pg_tup rfl (pgs_cons (pg_name (i := 3) scCheckedPrices.nd rfl (by first | exact Or.inl rfl | exact Or.inr rfl)) (pgs_cons (pg_tup rfl (pgs_cons (pg_name (i := 4) scCheckedPrices.nd rfl (by first | exact Or.inl rfl | exact Or.inr rfl)) (pgs_cons (pg_name (i := 5) scCheckedPrices.nd rfl (by first | exact Or.inl rfl | exact Or.inr rfl)) (pgs_cons (pg_name (i := 6) scCheckedPrices.nd rfl (by first | exact Or.inl rfl | exact Or.inr rfl)) pgs_nil)))) pgs_nil)))
    (pss_cons (ps_if (pt_not (pt_val (pe_c c_IsArrow hr (by decide) rfl (pa_cons (pv 0) (pa_cons (pv 4) (pa_cons (pv 5) (pa_cons (pv 6) pa_nil)))))))
      (pss_one ps_never)
      pss_nil)
    (pss_cons (ps_if (pt_cmp (pc_din (Nat.lt_of_le_of_lt (Nat.add_le_add_left (by decide : 1 ≤ 64) _) hr.units) (pe_tup (pa_cons (pv 4) (pa_cons (pv 5) pa_nil))) (pv 2)))
      (pss_one ps_never)
      pss_nil)
    (pss_one (ps_dput (Nat.lt_of_le_of_lt (Nat.add_le_add_left (by decide : 1 ≤ 64) _) hr.units) (pv 2) (pe_tup (pa_cons (pv 4) (pa_cons (pv 5) pa_nil))) (pv 6) (by rfl))))))
  (pss_one (ps_ret (pv 2))))), ?_⟩
    refine fun D hD => ?_
    have s1 : Same H (upd H D (.dT [])) := sm0 hD
    have ha1 := s1.seq ha
    refine ⟨_, rfl, a, _, rfl, ha1, for_enumL (K := K) (a := a) (xs := bs.map Prod.fst) (fun i σ H' => ∃ (v3 v4 v5 v6 : Option V) (kvs : List (List Key × V)), σ = [some (.int n), some (.ref a), some (.ref D), v3, v4, v5, v6] ∧ Same H H' ∧ H' D = some (.dT kvs) ∧ kvs.length ≤ i ∧ ∀ t h, (∀ j b, j < i → bs[j]? = some b → ¬ (b.2.1 = t ∧ b.2.2.1 = h)) → valV kvs (keyL t h) = none)
      ⟨none, none, none, none, [], rfl, s1, upd_same, Nat.le_refl _, fun _ _ _ => rfl⟩ (fun i σ H' h => by obtain ⟨_, _, _, _, _, _, sh, _⟩ := h; exact sh.seq ha) (fun i x Tq σ H' hx h hT => ?_) fun σ H' h => ?_⟩
    · obtain ⟨v3, v4, v5, v6, kvs, rfl, sh, hd, hlen, hfree⟩ := h
      have T3' := h3.same (fun b o e => sh b _ e)
      obtain ⟨t, ar, rfl, ht, hbi⟩ := T3'.at hx
      have hmem : ar ∈ bs.map Prod.snd := List.mem_map.mpr ⟨_, List.mem_of_getElem? hbi, rfl⟩
      have hok := ok.arr ar hmem
      have st : Same H (upd H' Tq (.tup [.int (i : Nat), .ref t])) := smN sh hT
      have ht2 := atN (q := Tq) (o := .tup [.int (i : Nat), .ref t]) ht hT
      have hd2 := atN (q := Tq) (o := .tup [.int (i : Nat), .ref t]) hd hT
      refine ⟨Tq, _, rfl, .inl (.inl upd_same), rfl, ?_⟩
      refine ⟨_, _, rfl, _, _, rfl, t, _, rfl, .inl (.inl ht2), rfl, _, _, rfl, _, _, rfl, _, _, rfl, rfl, rfl, ?_⟩
      refine ⟨_, rfl, _, rfl, _, rfl, _, rfl, n, ar, rfl, hok, _, rfl, ifF rfl ?_⟩
      refine ⟨_, rfl, _, rfl, by show 2 ≤ sizeLine; decide, fun q hq => ?_⟩
      have hd3 := atN (q := q) (o := .tup [.int ar.1, .int ar.2.1]) hd2 hq
      have s3 := smN (o := .tup [.int ar.1, .int ar.2.1]) st hq
      have hno : valV kvs (keyL ar.1 ar.2.1) = none := hfree _ _ fun j b hj hb e => by
        have hlt := (List.getElem?_eq_some_iff.mp hbi).1
        have hpw := List.pairwise_iff_getElem.mp ok.key j i (by rw [List.length_map]; omega) (by rw [List.length_map]; exact hlt) hj
        rw [List.getElem_map, List.getElem_map] at hpw
        obtain ⟨_, e1⟩ := List.getElem?_eq_some_iff.mp hb
        obtain ⟨_, e2⟩ := List.getElem?_eq_some_iff.mp hbi
        rw [e1, e2] at hpw
        exact hpw e
      refine ⟨_, rfl, D, _, rfl, DGet.t (k := keyL ar.1 ar.2.1) hd3 upd_same, _, rfl, ifF (by rw [hno]; rfl) ?_⟩
      have hlt := (List.getElem?_eq_some_iff.mp hbi).1
      have h400 := ok.len
      rw [List.length_map] at h400
      refine ⟨_, rfl, _, rfl, _, rfl, _, rfl, by show 2 ≤ sizeLine; decide, fun q2 hq2 => ?_⟩
      have hd4 := atN (q := q2) (o := .tup [.int ar.1, .int ar.2.1]) hd3 hq2
      have s4 := smN (o := .tup [.int ar.1, .int ar.2.1]) s3 hq2
      refine ⟨D, _, rfl, DPut.t (k := keyL ar.1 ar.2.1) hd4 upd_same (sz_lt (by omega)), ?_⟩
      refine ⟨_, _, _, _, putK kvs (keyL ar.1 ar.2.1) (.int ar.2.2), rfl, smM s4 hD, upd_same, Nat.le_trans (length_putK _ _ _) (by omega), fun t' h' hfr => ?_⟩
      rw [valV_put]
      by_cases c : keyL t' h' = keyL ar.1 ar.2.1
      · refine absurd ?_ (hfr i _ (Nat.lt_succ_self i) hbi)
        unfold keyL at c
        simp only [List.cons.injEq, Sum.inl.injEq, and_true] at c
        exact ⟨c.1.symm, c.2.symm⟩
      · rw [if_neg c]
        exact hfree t' h' fun j b hj hb => hfr j b (by omega) hb
    · obtain ⟨v3, v4, v5, v6, kvs, rfl, sh, _⟩ := h
      exact ⟨_, rfl, k D H' sh⟩
theorem scCheckPairs : FnScope ["prices", "pairs", "earlier", "at", "left", "right", "head"] ["prices", "pairs"] (defScope sCheckPairs) := ⟨rfl, rfl, rfl, by decide +kernel, rfl, by decide +kernel, by decide +kernel⟩
theorem ok_CheckPairs (T : Txt P w K mg base Ad1 Ad2 Ad3 Ad4 Ad5 Ad6 Ad7 Ad9 Ad10 Ad11 Ad12 Ad13 Ad14 Ad20) : Cl P w K mg base 2 "check_pairs" (spPairs K) [] := by
  refine cl_of T.d_check_pairs scCheckPairs (fun vs H Q E h => ?_) fun f cdv A outer s H vs Q E hr h => ?_
  · obtain ⟨d, b, rfl, _⟩ := h
    rfl
  · obtain ⟨d, b, rfl, hb, k⟩ := h
    refine ⟨_, (pss_cons (ps_set (i := 2) scCheckPairs.nd rfl (by first | exact Or.inl rfl | exact Or.inr rfl) (pe_callTy0 cr_set0 (by rfl) T.b_set (by decide +kernel)))
  (pss_one (ps_for (passes_of rfl) rfl (pi_enumT (by rfl) T.b_enumerate (pa_cons (pv 1) pa_nil)) (pg_tup rfl (pgs_cons (pg_name (i := 3) scCheckPairs.nd rfl (by first | exact Or.inl rfl | exact Or.inr rfl)) (pgs_cons (pg_tup rfl (pgs_cons (pg_name (i := 4) scCheckPairs.nd rfl (by first | exact Or.inl rfl | exact Or.inr rfl)) (pgs_cons (pg_name (i := 5) scCheckPairs.nd rfl (by first | exact Or.inl rfl | exact Or.inr rfl)) (pgs_cons (pg_name (i := 6) scCheckPairs.nd rfl (by first | exact Or.inl rfl | exact Or.inr rfl)) pgs_nil)))) pgs_nil)))
    pss_never))), ?_⟩
    refine ⟨rfl, fun p hp => ?_⟩
    have s1 := fun o => sm0 (o := o) hp
    refine ⟨_, rfl, b, _, rfl, smT (s1 _) hb, for_enumT (K := K) (a := b) (xs := []) (fun i σ H' => Same H H') (s1 _) (fun i σ H' h => smT h hb) (fun i x Tq σ H' hx h hT => by simp at hx) fun σ H' h => k H' h⟩
end
end K12
set_option maxRecDepth 100000
set_option maxHeartbeats 4000000
namespace K12
open PySem PySem.Spec PyProof.Rows L2 SI
local macro_rules | `(tactic| walk_at "lk") => `(tactic| first | exact lk_hit | exact lk_nil | (refine lk_next (by decide +kernel) ?_; walk_at "lk"))
theorem But.tup {p x C dx : Addr} {fs : List (Str × V)} {H H' : Hp} {xs : List V} (s : But p H H') (hp : H p = some (.ins C dx fs)) (h : H x = some (.tup xs)) : H' x = some (.tup xs) := s _ _ (ne_of h hp (by intro z; cases z)) h
theorem But.lst {p x C dx : Addr} {fs : List (Str × V)} {H H' : Hp} {xs : List V} (s : But p H H') (hp : H p = some (.ins C dx fs)) (h : H x = some (.lst xs)) : H' x = some (.lst xs) := s _ _ (ne_of h hp (by intro z; cases z)) h
def joinV (H : Hp) (js : List V) (as : List Ar) : Prop := js.length = as.length ∧ ∀ (i : Nat) c a, js[i]? = some c → as[i]? = some a → ∃ r, c = .ref r ∧ H r = some (.tup [.int a.1, .int a.2.1])
theorem joinV.same {H H' : Hp} {js : List V} {as : List Ar} (s : ∀ b o, H b = some (HO.tup o) → H' b = some (.tup o)) (h : joinV H js as) : joinV H' js as :=
  ⟨h.1, fun i c a e1 e2 => by obtain ⟨r, e, h1⟩ := h.2 i c a e1 e2; exact ⟨r, e, s _ _ h1⟩⟩
theorem snoc_at {α : Type} {l : List α} {x : α} {i : Nat} {y : α} (h : (l ++ [x])[i]? = some y) : (i < l.length ∧ l[i]? = some y) ∨ (i = l.length ∧ y = x) := by
  rcases Nat.lt_or_ge i l.length with c | c
  · rw [List.getElem?_append_left c] at h
    exact .inl ⟨c, h⟩
  · rw [List.getElem?_append_right c] at h
    cases e : i - l.length with
    | zero => rw [e] at h; cases h; exact .inr ⟨by omega, rfl⟩
    | succ j => rw [e] at h; simp at h
theorem joinV.snoc {H : Hp} {js : List V} {as : List Ar} {r : Addr} {a : Ar} (h : joinV H js as) (hr : H r = some (.tup [.int a.1, .int a.2.1])) : joinV H (js ++ [.ref r]) (as ++ [a]) := by
  refine ⟨by simp [h.1], fun i c b e1 e2 => ?_⟩
  rcases snoc_at e1 with ⟨l1, e1⟩ | ⟨l1, rfl⟩
  · rcases snoc_at e2 with ⟨_, e2⟩ | ⟨l2, rfl⟩
    · exact h.2 i c b e1 e2
    · have := h.1; omega
  · rcases snoc_at e2 with ⟨l2, e2⟩ | ⟨_, rfl⟩
    · have := h.1; omega
    · exact ⟨r, rfl, hr⟩
theorem bundV.snoc {H : Hp} {cs : List V} {as : List Ar} {r r' : Addr} {a : Ar} (h : bundV H cs as) (hr : H r = some (.tup [.ref r'])) (hr' : H r' = some (.tup [.int a.1, .int a.2.2])) : bundV H (cs ++ [.ref r]) (as ++ [a]) := by
  refine ⟨by simp [h.1], fun i c b e1 e2 => ?_⟩
  rcases snoc_at e1 with ⟨l1, e1⟩ | ⟨l1, rfl⟩
  · rcases snoc_at e2 with ⟨_, e2⟩ | ⟨l2, rfl⟩
    · exact h.2 i c b e1 e2
    · have := h.1; omega
  · rcases snoc_at e2 with ⟨l2, e2⟩ | ⟨_, rfl⟩
    · have := h.1; omega
    · exact ⟨r, r', rfl, hr, hr'⟩
theorem take_at {α : Type} {l : List α} {i : Nat} {x : α} (h : l[i]? = some x) : l.take (i + 1) = l.take i ++ [x] := by rw [List.take_succ, h]; rfl
section
variable {P : Program} {w : World} {K : PySem.W.Frag} {mg : Str → Option Value} {base : Heap} {Ad1 Ad2 Ad3 Ad4 Ad5 Ad6 Ad7 Ad9 Ad10 Ad11 Ad12 Ad13 Ad14 Ad20 : Addr}
theorem scWebInit : FnScope ["self", "nodes", "arrows", "pairs", "prices", "arrow", "pair", "bundles", "tail", "_", "price", "left", "right", "joins", "head", "join", "k"] ["self", "nodes", "arrows", "pairs"] (defScope sWebInit) := ⟨rfl, rfl, rfl, by decide +kernel, rfl, by decide +kernel, by decide +kernel⟩
theorem ok_Web (T : Txt P w K mg base Ad1 Ad2 Ad3 Ad4 Ad5 Ad6 Ad7 Ad9 Ad10 Ad11 Ad12 Ad13 Ad14 Ad20) : MkD P w K mg base 4 "Web" Ad14 "Web.__init__" sWebInit ["self", "nodes", "arrows", "pairs"] (spWeb K Ad14) [.ref Ad20] := by
  have c_CheckedPrices := ok_CheckedPrices T
  have c_CheckPairs := ok_CheckPairs T
  refine mkdd_of T.m_Web scWebInit (fun vs H Q E h => ?_) fun f cdv A outer s H vs Q E hr h => ?_
  · obtain ⟨p, dx, n, a, b, bs, rfl, _⟩ := h
    rfl
  · obtain ⟨p, dx, n, a, b, bs, rfl, hp, ha, h3, hb, ok, k⟩ := h
    refine ⟨_, (pss_cons (ps_if (PW.pt (pw_or (pt_cmpR op_lt (pv 1) pe_int (nomark _)) (pw_or1 (pt_cmpR op_gt (pv 1) (pe_const rfl T.c_MOST_NODES) (nomark _)))))
    (pss_one ps_never)
    pss_nil)
  (pss_cons (ps_if (pt_cmpR op_gt (pe_callB call_len_seq (by rfl) T.b_len (by decide +kernel) (pa_cons (pv 2) pa_nil)) (pe_const rfl T.c_MOST_ARROWS) (nomark _))
    (pss_one ps_never)
    pss_nil)
  (pss_cons (ps_if (pt_cmpR op_gt (pe_callB call_len_seq (by rfl) T.b_len (by decide +kernel) (pa_cons (pv 3) pa_nil)) (pe_const rfl T.c_MOST_PAIRS) (nomark _))
    (pss_one ps_never)
    pss_nil)
  (pss_cons (ps_set (i := 4) scWebInit.nd rfl (by first | exact Or.inl rfl | exact Or.inr rfl) (pe_c c_CheckedPrices hr (by decide) rfl (pa_cons (pv 1) (pa_cons (pv 2) pa_nil))))
  (pss_cons (ps_expr (pe_c c_CheckPairs hr (by decide) rfl (pa_cons (pv 4) (pa_cons (pv 3) pa_nil))))
  (pss_cons (ps_fld (pv 0) (pv 1) rfl)
  (pss_cons (ps_fld (pv 0) (pe_callTy call_tuple_of (by rfl) T.b_tuple (by decide +kernel) (pa_cons (pe_callB (cr_sort3 hr.units) (by rfl) T.b_sorted (by decide +kernel) (pa_cons (pe_lc (own := [(("arrow" : Str), 5)]) (g := gName 5) (by rfl) scWebInit.nd (pi_list (pv 2)) (blkOk_by (own := [(("arrow" : Str), 5)]) (N := ["self", "nodes", "arrows", "pairs", "prices", "arrow", "pair", "bundles", "tail", "_", "price", "left", "right", "joins", "head", "join", "k"]) (sc := defScope sWebInit) (by decide +kernel)) (fun _ _ _ _ _ => (pg_name (i := 5) scWebInit.nd rfl (by first | exact Or.inl rfl | exact Or.inr rfl))) (fun _ _ _ _ _ => pts_nil) (fun _ _ _ _ _ => (pe_callTy call_tuple_ofB (by rfl) T.b_tuple (by decide +kernel) (pa_cons (pv 5) pa_nil)))) pa_nil)) pa_nil)) rfl)
  (pss_cons (ps_fld (pv 0) (pe_callTy call_tuple_of (by rfl) T.b_tuple (by decide +kernel) (pa_cons (pe_callB (cr_sort3 hr.units) (by rfl) T.b_sorted (by decide +kernel) (pa_cons (pe_lc (own := [(("pair" : Str), 6)]) (g := gName 6) (by rfl) scWebInit.nd (pi_tup (pv 3)) (blkOk_by (own := [(("pair" : Str), 6)]) (N := ["self", "nodes", "arrows", "pairs", "prices", "arrow", "pair", "bundles", "tail", "_", "price", "left", "right", "joins", "head", "join", "k"]) (sc := defScope sWebInit) (by decide +kernel)) (fun _ _ _ _ _ => (pg_name (i := 6) scWebInit.nd rfl (by first | exact Or.inl rfl | exact Or.inr rfl))) (fun _ _ _ _ _ => pts_nil) (fun _ _ _ _ _ => (pe_callTy call_tuple_ofB (by rfl) T.b_tuple (by decide +kernel) (pa_cons (pv 6) pa_nil)))) pa_nil)) pa_nil)) rfl)
  (pss_cons (ps_fld (pv 0) (pe_op op_add (pe_callB call_len_seq (by rfl) T.b_len (by decide +kernel) (pa_cons (pe_fld (pv 0) rfl) pa_nil)) (pe_callB call_len_seq (by rfl) T.b_len (by decide +kernel) (pa_cons (pe_fld (pv 0) rfl) pa_nil))) rfl)
  (pss_cons (ps_setLc (i := 7) (own := [(("tail" : Str), 8), (("_" : Str), 9), (("price" : Str), 10)]) (g := gTup K 3 (gCons (gName 8) (gCons (gName 9) (gCons (gName 10) gNil)))) (by rfl) scWebInit.nd rfl rfl (sw_true rfl rfl rfl (by decide +kernel)) (pi_tup (pe_fld (pv 0) rfl)) (blkOk_by (own := [(("tail" : Str), 8), (("_" : Str), 9), (("price" : Str), 10)]) (N := ["self", "nodes", "arrows", "pairs", "prices", "arrow", "pair", "bundles", "tail", "_", "price", "left", "right", "joins", "head", "join", "k"]) (sc := defScope sWebInit) (by decide +kernel)) (fun _ _ _ _ _ => (pg_tup rfl (pgs_cons (pg_name (i := 8) scWebInit.nd rfl (by first | exact Or.inl rfl | exact Or.inr rfl)) (pgs_cons (pg_name (i := 9) scWebInit.nd rfl (by first | exact Or.inl rfl | exact Or.inr rfl)) (pgs_cons (pg_name (i := 10) scWebInit.nd rfl (by first | exact Or.inl rfl | exact Or.inr rfl)) pgs_nil))))) (fun _ _ _ _ _ => pts_nil) (fun _ _ _ _ _ => (pe_tup (pa_cons (pe_tup (pa_cons (pv 8) (pa_cons (pv 10) pa_nil))) pa_nil))))
  (pss_cons (ps_expr (pe_bm PySem.F.plainAttrs_list PySem.F.slot_list_extend PySem.F.type_list_extend mt_extend (pv 7) (pa_cons (pe_lc (own := [(("left" : Str), 11), (("right" : Str), 12), (("_" : Str), 9)]) (g := gTup K 3 (gCons (gName 11) (gCons (gName 12) (gCons (gName 9) gNil)))) (by rfl) scWebInit.nd (pi_tup (pe_fld (pv 0) rfl)) (blkOk_by (own := [(("left" : Str), 11), (("right" : Str), 12), (("_" : Str), 9)]) (N := ["self", "nodes", "arrows", "pairs", "prices", "arrow", "pair", "bundles", "tail", "_", "price", "left", "right", "joins", "head", "join", "k"]) (sc := defScope sWebInit) (by decide +kernel)) (fun _ _ _ _ _ => (pg_tup rfl (pgs_cons (pg_name (i := 11) scWebInit.nd rfl (by first | exact Or.inl rfl | exact Or.inr rfl)) (pgs_cons (pg_name (i := 12) scWebInit.nd rfl (by first | exact Or.inl rfl | exact Or.inr rfl)) (pgs_cons (pg_name (i := 9) scWebInit.nd rfl (by first | exact Or.inl rfl | exact Or.inr rfl)) pgs_nil))))) (fun _ _ _ _ _ => pts_nil) (fun _ _ _ _ _ => (pe_tup (pa_cons (pe_tup (pa_cons (pv 11) (pa_cons pe_int pa_nil))) (pa_cons (pe_tup (pa_cons (pv 12) (pa_cons pe_int pa_nil))) pa_nil))))) pa_nil)))
  (pss_cons (ps_setLc (i := 13) (own := [(("tail" : Str), 8), (("head" : Str), 14), (("_" : Str), 9)]) (g := gTup K 3 (gCons (gName 8) (gCons (gName 14) (gCons (gName 9) gNil)))) (by rfl) scWebInit.nd rfl rfl (sw_true rfl rfl rfl (by decide +kernel)) (pi_tup (pe_fld (pv 0) rfl)) (blkOk_by (own := [(("tail" : Str), 8), (("head" : Str), 14), (("_" : Str), 9)]) (N := ["self", "nodes", "arrows", "pairs", "prices", "arrow", "pair", "bundles", "tail", "_", "price", "left", "right", "joins", "head", "join", "k"]) (sc := defScope sWebInit) (by decide +kernel)) (fun _ _ _ _ _ => (pg_tup rfl (pgs_cons (pg_name (i := 8) scWebInit.nd rfl (by first | exact Or.inl rfl | exact Or.inr rfl)) (pgs_cons (pg_name (i := 14) scWebInit.nd rfl (by first | exact Or.inl rfl | exact Or.inr rfl)) (pgs_cons (pg_name (i := 9) scWebInit.nd rfl (by first | exact Or.inl rfl | exact Or.inr rfl)) pgs_nil))))) (fun _ _ _ _ _ => pts_nil) (fun _ _ _ _ _ => (pe_tup (pa_cons (pv 8) (pa_cons (pv 14) pa_nil)))))
  (pss_cons (ps_expr (pe_bm PySem.F.plainAttrs_list PySem.F.slot_list_extend PySem.F.type_list_extend mt_extendT (pv 13) (pa_cons (pe_fld (pv 0) rfl) pa_nil)))
  (pss_cons (ps_fld (pv 0) (pe_callTy call_tuple_of (by rfl) T.b_tuple (by decide +kernel) (pa_cons (pv 7) pa_nil)) rfl)
  (pss_cons (ps_fld (pv 0) (pe_callTy call_tuple_of (by rfl) T.b_tuple (by decide +kernel) (pa_cons (pe_lc (own := [(("join" : Str), 15)]) (g := gName 15) (by rfl) scWebInit.nd (pi_list (pv 13)) (blkOk_by (own := [(("join" : Str), 15)]) (N := ["self", "nodes", "arrows", "pairs", "prices", "arrow", "pair", "bundles", "tail", "_", "price", "left", "right", "joins", "head", "join", "k"]) (sc := defScope sWebInit) (by decide +kernel)) (fun _ _ _ _ _ => (pg_name (i := 15) scWebInit.nd rfl (by first | exact Or.inl rfl | exact Or.inr rfl))) (fun _ _ _ _ _ => pts_nil) (fun _ _ _ _ _ => (pe_ix ix_tupB (pv 15) (pe_un un_neg pe_int) (fun _ _ => rfl)))) pa_nil)) rfl)
  (pss_one (ps_fld (pv 0) (pe_dcT (own := [(("k" : Str), 16), (("join" : Str), 15)]) (g := gTup K 2 (gCons (gName 16) (gCons (gName 15) gNil))) (Nat.lt_of_le_of_lt (Nat.add_le_add_left (by decide : 1 ≤ 64) _) hr.units) (by rfl) scWebInit.nd (pi_enum (by rfl) T.b_enumerate (pa_cons (pv 13) pa_nil)) (blkOk_by (own := [(("k" : Str), 16), (("join" : Str), 15)]) (N := ["self", "nodes", "arrows", "pairs", "prices", "arrow", "pair", "bundles", "tail", "_", "price", "left", "right", "joins", "head", "join", "k"]) (sc := defScope sWebInit) (by decide +kernel)) (fun _ _ _ _ _ => (pg_tup rfl (pgs_cons (pg_name (i := 16) scWebInit.nd rfl (by first | exact Or.inl rfl | exact Or.inr rfl)) (pgs_cons (pg_name (i := 15) scWebInit.nd rfl (by first | exact Or.inl rfl | exact Or.inr rfl)) pgs_nil)))) (fun _ _ _ _ _ => pts_nil) (fun _ _ _ _ _ => (pv 15)) (fun _ _ _ _ _ => (pv 16))) rfl))))))))))))))))), ?_⟩
    have hn1 := ok.lo
    have hn2 := ok.hi
    have h400 := ok.len
    rw [List.length_map] at h400
    have elb : (((bs.map Prod.fst).length : Nat) : Int) ≤ 400 := by rw [List.length_map]; omega
    refine ⟨_, rfl, _, _, rfl, rfl, _, rfl, ifD (fun c => absurd c (by omega)) fun _ => ?_⟩
    refine ⟨_, rfl, _, _, rfl, rfl, _, rfl, ifD (fun c => absurd c (by omega)) fun _ => ?_⟩
    refine ⟨_, rfl, a, _, rfl, .inl (SqL.of ha), _, _, rfl, rfl, _, rfl, ifD (fun c => absurd c (by omega)) fun _ => ?_⟩
    refine ⟨_, rfl, b, _, rfl, .inr (hb _), _, _, rfl, rfl, _, rfl, ifD (fun c => absurd c (by decide)) fun _ => ?_⟩
    refine ⟨_, rfl, _, rfl, n, a, bs, rfl, SqL.of ha, h3, ok, fun D0 H1 s1 => ?_⟩
    refine ⟨_, rfl, _, rfl, D0, b, rfl, hb _, fun H2 s2 => ?_⟩
    have s12 := s1.trans s2
    have hp2 := s12 _ _ hp
    refine ⟨_, rfl, _, rfl, p, Ad14, dx, _, rfl, hp2, T.lWeb, T.nWeb_nodes, (by decide), ?_⟩
    have hp3 : upd H2 p (.ins Ad14 dx (putF "nodes" (.int n) [])) p = some (.ins Ad14 dx [("nodes", .int n)]) := upd_same
    have b3 : But p H (upd H2 p (.ins Ad14 dx (putF "nodes" (.int n) []))) := (But.of s12).trans But.upd
    have ha3 := b3.lst hp ha
    have t3 := h3.same fun _ _ e => b3.tup hp e
    generalize upd H2 p (.ins Ad14 dx (putF "nodes" (.int n) [])) = G0 at hp3 b3 ha3 t3 ⊢
    -- arrows
    refine ⟨_, rfl, a, rfl, ⟨_, SqL.of ha3⟩, fun D hD => ?_⟩
    refine lc_list (K := K) (a := a) (xs := bs.map Prod.fst) (fun i H' => Same G0 H' ∧ H' D = some (.lst ((bs.take i).map Prod.fst)))
      ⟨sm0 hD, upd_same⟩ (fun i H' _ z => SqL.of (z.1 _ _ ha3)) (fun i x H' hx z => ?_) fun H' z => ?_
    · obtain ⟨sh, hacc⟩ := z
      obtain ⟨t, ar, rfl, ht, hbi⟩ := T3.at (t3.same fun b o e => sh b _ e) hx
      refine ⟨rfl, ?_⟩
      refine ⟨_, rfl, t, _, rfl, .inr ⟨SqT.of ht, ?_⟩⟩
      refine ⟨_, hacc, ?_, smM sh hD, ?_⟩
      · rw [List.length_map, List.length_take]
        exact sz_lt (by omega)
      · rw [upd_same, take_at hbi, List.map_append]
        rfl
    obtain ⟨sh, hacc⟩ := z
    rw [List.length_map, List.take_length] at hacc
    have hp4 := sh _ _ hp3
    have t4 := t3.same fun b o e => sh b _ e
    refine ⟨D, bs, rfl, SqL.of hacc, t4, fun S hS => ?_⟩
    have s5 := smN (o := .lst ((srtB bs).map Prod.fst)) sh hS
    refine ⟨S, _, rfl, .inl ⟨SqL.of upd_same, fun A1 hA1 => ?_⟩⟩
    have s6 := smN (o := .tup ((srtB bs).map Prod.fst)) s5 hA1
    have hA6 : upd (upd H' S (.lst ((srtB bs).map Prod.fst))) A1 (.tup ((srtB bs).map Prod.fst)) A1 = some (.tup ((srtB bs).map Prod.fst)) := upd_same
    generalize upd (upd H' S (.lst ((srtB bs).map Prod.fst))) A1 (.tup ((srtB bs).map Prod.fst)) = G1 at s6 hA6 ⊢
    have tA6 : T3 G1 (srtB bs) := (t3.same fun b o e => s6 b _ e).perm (srtB_perm bs)
    have eas : (srtB bs).map Prod.snd = srtA (bs.map Prod.snd) := srtB_snd bs
    have lsb : (srtB bs).length = bs.length := (srtB_perm bs).length_eq
    generalize srtB bs = rs at hA6 tA6 eas lsb
    have hp6 := s6 _ _ hp3
    have b6 := b3.trans (But.of s6)
    refine ⟨_, rfl, p, Ad14, dx, _, rfl, hp6, T.lWeb, T.nWeb_arrows, (by show 1 < 1000; decide), ?_⟩
    have hp7 : upd G1 p (.ins Ad14 dx (putF "arrows" (.ref A1) [("nodes", .int n)])) p = some (.ins Ad14 dx [("nodes", .int n), ("arrows", .ref A1)]) := by rw [upd_same, putF_new (f := "arrows") (by walk_at "lk")]; rfl
    have c7 : But p G1 (upd G1 p (.ins Ad14 dx (putF "arrows" (.ref A1) [("nodes", .int n)]))) := But.upd
    have b7 := b6.trans c7
    have hA7 := c7.tup hp6 hA6
    have tA7 := tA6.same fun _ _ e => c7.tup hp6 e
    clear c7
    generalize upd G1 p (.ins Ad14 dx (putF "arrows" (.ref A1) [("nodes", .int n)])) = G2 at hp7 b7 hA7 tA7 ⊢
    -- pairs
    refine ⟨_, rfl, b, rfl, ⟨_, hb _⟩, fun D2 hD2 => ?_⟩
    refine lc_tup (K := K) (a := b) (xs := []) (fun i H' => Same G2 H' ∧ H' D2 = some (.lst [])) ⟨sm0 hD2, upd_same⟩ (fun i H' _ z => hb _) (fun i x H' hx z => by simp at hx) fun H8 z => ?_
    obtain ⟨sh8, hacc8⟩ := z
    refine ⟨D2, [], rfl, SqL.of hacc8, T3.nil, fun S2 hS2 => ?_⟩
    have es0 : (srtB []).map Prod.fst = ([] : List V) := by unfold srtB; simp
    rw [es0]
    have s9 := smN (o := .lst []) sh8 hS2
    refine ⟨S2, _, rfl, .inl ⟨SqL.of upd_same, fun B1 hB1 => ?_⟩⟩
    have s10 := smN (o := .tup []) s9 hB1
    have hB10 : upd (upd H8 S2 (.lst [])) B1 (.tup []) B1 = some (.tup []) := upd_same
    generalize upd (upd H8 S2 (.lst [])) B1 (.tup []) = G3 at s10 hB10 ⊢
    have hp10 := s10 _ _ hp7
    have hA10 := s10 _ _ hA7
    have tA10 := tA7.same fun b o e => s10 b _ e
    have b10 := b7.trans (But.of s10)
    refine ⟨_, rfl, p, Ad14, dx, _, rfl, hp10, T.lWeb, T.nWeb_pairs, (by show 2 < 1000; decide), ?_⟩
    have hp11 : upd G3 p (.ins Ad14 dx (putF "pairs" (.ref B1) [("nodes", .int n), ("arrows", .ref A1)])) p = some (.ins Ad14 dx [("nodes", .int n), ("arrows", .ref A1), ("pairs", .ref B1)]) := by rw [upd_same, putF_new (f := "pairs") (by walk_at "lk")]; rfl
    have c11 : But p G3 (upd G3 p (.ins Ad14 dx (putF "pairs" (.ref B1) [("nodes", .int n), ("arrows", .ref A1)]))) := But.upd
    have b11 := b10.trans c11
    have hA11 := c11.tup hp10 hA10
    have hB11 := c11.tup hp10 hB10
    have tA11 := tA10.same fun _ _ e => c11.tup hp10 e
    clear c11
    generalize upd G3 p (.ins Ad14 dx (putF "pairs" (.ref B1) [("nodes", .int n), ("arrows", .ref A1)])) = G4 at hp11 b11 hA11 hB11 tA11 ⊢
    -- move_count
    have la : (([("nodes", .int n), ("arrows", .ref A1), ("pairs", .ref B1)] : List (Str × V))).lookup ("arrows" : Str) = some (V.ref A1) := by walk_at "lk"
    have lb : (([("nodes", .int n), ("arrows", .ref A1), ("pairs", .ref B1)] : List (Str × V))).lookup ("pairs" : Str) = some (V.ref B1) := by walk_at "lk"
    refine ⟨_, rfl, p, Ad14, dx, _, _, rfl, hp11, T.lWeb, T.nWeb_arrows, la, A1, _, rfl, .inr (SqT.of hA11), _, rfl, p, Ad14, dx, _, _, rfl, hp11, T.lWeb, T.nWeb_pairs, lb, B1, _, rfl, .inr (SqT.of hB11), _, _, rfl, rfl, ?_⟩
    refine ⟨_, rfl, p, Ad14, dx, _, rfl, hp11, T.lWeb, T.nWeb_move_count, (by show 3 < 1000; decide), ?_⟩
    have lpm : (((rs.map Prod.fst).length : Nat) : Int) + (([] : List V).length : Nat) = (rs.length : Nat) := by rw [List.length_map]; rfl
    have hp12 : upd G4 p (.ins Ad14 dx (putF "move_count" (.int ((((rs.map Prod.fst).length : Nat) : Int) + (([] : List V).length : Nat))) [("nodes", .int n), ("arrows", .ref A1), ("pairs", .ref B1)])) p = some (.ins Ad14 dx [("nodes", .int n), ("arrows", .ref A1), ("pairs", .ref B1), ("move_count", .int (rs.length : Nat))]) := by rw [upd_same, putF_new (f := "move_count") (by walk_at "lk"), lpm]; rfl
    have c12 : But p G4 (upd G4 p (.ins Ad14 dx (putF "move_count" (.int ((((rs.map Prod.fst).length : Nat) : Int) + (([] : List V).length : Nat))) [("nodes", .int n), ("arrows", .ref A1), ("pairs", .ref B1)]))) := But.upd
    have b12 := b11.trans c12
    have hA12 := c12.tup hp11 hA11
    have hB12 := c12.tup hp11 hB11
    have tA12 := tA11.same fun _ _ e => c12.tup hp11 e
    clear c12
    generalize upd G4 p (.ins Ad14 dx (putF "move_count" (.int ((((rs.map Prod.fst).length : Nat) : Int) + (([] : List V).length : Nat))) [("nodes", .int n), ("arrows", .ref A1), ("pairs", .ref B1)])) = G5 at hp12 b12 hA12 hB12 tA12 ⊢
    have la5 : (([("nodes", .int n), ("arrows", .ref A1), ("pairs", .ref B1), ("move_count", .int (rs.length : Nat))] : List (Str × V))).lookup ("arrows" : Str) = some (V.ref A1) := by walk_at "lk"
    have lb5 : (([("nodes", .int n), ("arrows", .ref A1), ("pairs", .ref B1), ("move_count", .int (rs.length : Nat))] : List (Str × V))).lookup ("pairs" : Str) = some (V.ref B1) := by walk_at "lk"
    -- bundles
    refine ⟨_, rfl, p, Ad14, dx, _, _, rfl, hp12, T.lWeb, T.nWeb_arrows, la5, A1, rfl, ⟨_, SqT.of hA12⟩, fun U hU => ?_⟩
    refine lc_tup (K := K) (a := A1) (xs := rs.map Prod.fst) (fun i H' => Same G5 H' ∧ ∃ cs, H' U = some (.lst cs) ∧ bundV H' cs ((rs.take i).map Prod.snd))
      ⟨sm0 hU, [], upd_same, rfl, fun i c a e => by simp at e⟩ (fun i H' _ z => SqT.of (z.1 _ _ hA12)) (fun i x H' hx z => ?_) fun H6 z => ?_
    · obtain ⟨sh, cs, hacc, hbv⟩ := z
      obtain ⟨t, ar, rfl, ht, hbi⟩ := T3.at (tA12.same fun b o e => sh b _ e) hx
      have hil := (List.getElem?_eq_some_iff.mp hbi).1
      refine ⟨t, _, rfl, .inl (.inl ht), rfl, _, _, rfl, _, _, rfl, _, _, rfl, rfl, rfl, ?_⟩
      refine ⟨_, rfl, _, rfl, by show 2 ≤ sizeLine; decide, fun r' hr' => ?_⟩
      have s1 := smN (o := .tup [.int ar.1, .int ar.2.2]) sh hr'
      refine ⟨by show 1 ≤ sizeLine; decide, fun r hr1 => ?_⟩
      have s2 := smN (o := .tup [.ref r']) s1 hr1
      have hacc2 := atN (o := .tup [.ref r']) (atN (o := .tup [.int ar.1, .int ar.2.2]) hacc hr') hr1
      refine ⟨_, hacc2, ?_, smM s2 hU, cs ++ [.ref r], upd_same, ?_⟩
      · have := hbv.1
        rw [List.length_map, List.length_take] at this
        exact sz_lt (by omega)
      · rw [take_at hbi, List.map_append]
        have k2 : ∀ x o, upd (upd H' r' (.tup [.int ar.1, .int ar.2.2])) r (.tup [.ref r']) x = some (HO.tup o) → upd (upd (upd H' r' (.tup [.int ar.1, .int ar.2.2])) r (.tup [.ref r'])) U (.lst (cs ++ [.ref r])) x = some (.tup o) := fun x o e => by
          rw [upd_ne (ne_of e hacc2 (by intro z; cases z))]; exact e
        exact (hbv.same fun x o e => k2 x o (atN (atN e hr') hr1)).snoc (k2 _ _ upd_same) (k2 _ _ (atN upd_same hr1))
    obtain ⟨sh, cs, hU6, hbv⟩ := z
    rw [List.length_map, List.take_length] at hbv
    have hp13 := sh _ _ hp12
    have hB13 := sh _ _ hB12
    have hA13 := sh _ _ hA12
    have tA13 := tA12.same fun b o e => sh b _ e
    have b13 := b12.trans (But.of sh)
    clear tA12 tA11 tA10 tA7 tA6 sh
    -- extended by the pairs' bundles
    refine ⟨_, rfl, .inl ⟨rfl, _, SqL.of hU6⟩, _, rfl, p, Ad14, dx, _, _, rfl, hp13, T.lWeb, T.nWeb_pairs, lb5, B1, rfl, ⟨_, SqT.of hB13⟩, fun U2 hU2 => ?_⟩
    refine lc_tup (K := K) (a := B1) (xs := []) (fun i H' => Same H6 H' ∧ H' U2 = some (.lst [])) ⟨sm0 hU2, upd_same⟩ (fun i H' _ z => SqT.of (z.1 _ _ hB13)) (fun i x H' hx z => by simp at hx) fun H7 z => ?_
    obtain ⟨s7, hU27⟩ := z
    have lcs := hbv.1
    rw [List.length_map] at lcs
    refine ⟨U, U2, cs, [], rfl, rfl, s7 _ _ hU6, hU27, sz_small (by simp; omega), ?_⟩
    rw [List.append_nil]
    have eU : upd H7 U (.lst cs) = H7 := by
      funext x
      by_cases c : x = U
      · subst c; rw [upd_same]; exact (s7 _ _ hU6).symm
      · rw [upd_ne c]
    rw [eU]
    have hp14 := s7 _ _ hp13
    have hA14 := s7 _ _ hA13
    have hB14 := s7 _ _ hB13
    have hU14 := s7 _ _ hU6
    have tA14 := tA13.same fun b o e => s7 b _ e
    have hbv14 := hbv.same fun b o e => s7 b _ e
    have b14 := b13.trans (But.of s7)
    -- joins
    refine ⟨_, rfl, p, Ad14, dx, _, _, rfl, hp14, T.lWeb, T.nWeb_arrows, la5, A1, rfl, ⟨_, SqT.of hA14⟩, fun J hJ => ?_⟩
    refine lc_tup (K := K) (a := A1) (xs := rs.map Prod.fst) (fun i H' => Same H7 H' ∧ ∃ js, H' J = some (.lst js) ∧ joinV H' js ((rs.take i).map Prod.snd))
      ⟨sm0 hJ, [], upd_same, rfl, fun i c a e => by simp at e⟩ (fun i H' _ z => SqT.of (z.1 _ _ hA14)) (fun i x H' hx z => ?_) fun H8 z => ?_
    · obtain ⟨sh, js, hacc, hjv⟩ := z
      obtain ⟨t, ar, rfl, ht, hbi⟩ := T3.at (tA14.same fun b o e => sh b _ e) hx
      have hil := (List.getElem?_eq_some_iff.mp hbi).1
      refine ⟨t, _, rfl, .inl (.inl ht), rfl, _, _, rfl, _, _, rfl, _, _, rfl, rfl, rfl, ?_⟩
      refine ⟨_, rfl, _, rfl, by show 2 ≤ sizeLine; decide, fun r hr1 => ?_⟩
      have s2 := smN (o := .tup [.int ar.1, .int ar.2.1]) sh hr1
      have hacc2 := atN (o := .tup [.int ar.1, .int ar.2.1]) hacc hr1
      refine ⟨_, hacc2, ?_, smM s2 hJ, js ++ [.ref r], upd_same, ?_⟩
      · have := hjv.1
        rw [List.length_map, List.length_take] at this
        exact sz_lt (by omega)
      · rw [take_at hbi, List.map_append]
        have k2 : ∀ x o, upd H' r (.tup [.int ar.1, .int ar.2.1]) x = some (HO.tup o) → upd (upd H' r (.tup [.int ar.1, .int ar.2.1])) J (.lst (js ++ [.ref r])) x = some (.tup o) := fun x o e => by
          rw [upd_ne (ne_of e hacc2 (by intro z; cases z))]; exact e
        exact (hjv.same fun x o e => k2 x o (atN e hr1)).snoc (k2 _ _ upd_same)
    obtain ⟨s8, js, hJ8, hjv⟩ := z
    rw [List.length_map, List.take_length] at hjv
    have ljs := hjv.1
    rw [List.length_map] at ljs
    have hp15 := s8 _ _ hp14
    have hA15 := s8 _ _ hA14
    have hB15 := s8 _ _ hB14
    have hU15 := s8 _ _ hU14
    have tA15 := tA14.same fun b o e => s8 b _ e
    have hbv15 := hbv14.same fun b o e => s8 b _ e
    have b15 := b14.trans (But.of s8)
    refine ⟨_, rfl, .inl ⟨rfl, _, SqL.of hJ8⟩, _, rfl, p, Ad14, dx, _, _, rfl, hp15, T.lWeb, T.nWeb_pairs, lb5, J, B1, js, [], rfl, rfl, hJ8, hB15, sz_small (by simp; omega), ?_⟩
    rw [List.append_nil]
    have eJ : upd H8 J (.lst js) = H8 := by
      funext x
      by_cases c : x = J
      · subst c; rw [upd_same]; exact hJ8.symm
      · rw [upd_ne c]
    rw [eJ]
    -- _bundles
    refine ⟨_, rfl, U, _, rfl, .inl ⟨SqL.of hU15, fun V1 hV1 => ?_⟩⟩
    have s16 := sm0 (o := .tup cs) hV1
    have hV16 : upd H8 V1 (.tup cs) V1 = some (.tup cs) := upd_same
    generalize upd H8 V1 (.tup cs) = G6 at s16 hV16 ⊢
    have hp16 := s16 _ _ hp15
    refine ⟨_, rfl, p, Ad14, dx, _, rfl, hp16, T.lWeb, T.nWeb__bundles, (by show 4 < 1000; decide), ?_⟩
    have hp17 : upd G6 p (.ins Ad14 dx (putF "_bundles" (.ref V1) [("nodes", .int n), ("arrows", .ref A1), ("pairs", .ref B1), ("move_count", .int (rs.length : Nat))])) p = some (.ins Ad14 dx [("nodes", .int n), ("arrows", .ref A1), ("pairs", .ref B1), ("move_count", .int (rs.length : Nat)), ("_bundles", .ref V1)]) := by rw [upd_same, putF_new (f := "_bundles") (by walk_at "lk")]; rfl
    have c17 : But p G6 (upd G6 p (.ins Ad14 dx (putF "_bundles" (.ref V1) [("nodes", .int n), ("arrows", .ref A1), ("pairs", .ref B1), ("move_count", .int (rs.length : Nat))]))) := But.upd
    have b17 := (b15.trans (But.of s16)).trans c17
    have hA17 := c17.tup hp16 (s16 _ _ hA15)
    have hB17 := c17.tup hp16 (s16 _ _ hB15)
    have hV17 := c17.tup hp16 hV16
    have hJ17 := c17.lst hp16 (s16 _ _ hJ8)
    have tA17 := tA15.same fun _ _ e => c17.tup hp16 (s16 _ _ e)
    have hbv17 := hbv15.same fun _ _ e => c17.tup hp16 (s16 _ _ e)
    have hjv17 := hjv.same fun _ _ e => c17.tup hp16 (s16 _ _ e)
    clear c17
    generalize upd G6 p (.ins Ad14 dx (putF "_bundles" (.ref V1) [("nodes", .int n), ("arrows", .ref A1), ("pairs", .ref B1), ("move_count", .int (rs.length : Nat))])) = G7 at hp17 b17 hA17 hB17 hV17 hJ17 tA17 hbv17 hjv17 ⊢
    -- _heads
    refine ⟨_, rfl, J, rfl, ⟨_, SqL.of hJ17⟩, fun L hL => ?_⟩
    refine lc_list (K := K) (a := J) (xs := js) (fun i H' => Same G7 H' ∧ H' L = some (.lst (((rs.take i).map Prod.snd).map fun a => V.int a.2.1)))
      ⟨sm0 hL, upd_same⟩ (fun i H' _ z => SqL.of (z.1 _ _ hJ17)) (fun i x H' hx z => ?_) fun H9 z => ?_
    · obtain ⟨sh, hacc⟩ := z
      have hil : i < rs.length := by rw [← ljs]; exact (List.getElem?_eq_some_iff.mp hx).1
      obtain ⟨rb, hrb⟩ : ∃ rb, rs[i]? = some rb := ⟨_, List.getElem?_eq_getElem hil⟩
      obtain ⟨r, rfl, hr1⟩ := hjv17.2 i x rb.2 hx (by rw [List.getElem?_map, hrb]; rfl)
      refine ⟨rfl, ?_⟩
      refine ⟨_, rfl, _, rfl, r, _, _, _, rfl, rfl, SqT.of (sh _ _ hr1), atI_last [V.int rb.2.1] _, _, hacc, ?_, smM sh hL, ?_⟩
      · simp only [List.length_map, List.length_take]
        exact sz_lt (by omega)
      · rw [upd_same, take_at hrb, List.map_append, List.map_append]
        rfl
    obtain ⟨s9', hL9⟩ := z
    rw [ljs, List.take_length] at hL9
    refine ⟨L, _, rfl, .inl ⟨SqL.of hL9, fun V2 hV2 => ?_⟩⟩
    have s18 := smN (o := .tup ((rs.map Prod.snd).map fun a => V.int a.2.1)) s9' hV2
    have hV218 : upd H9 V2 (.tup ((rs.map Prod.snd).map fun a => V.int a.2.1)) V2 = some (.tup ((rs.map Prod.snd).map fun a => V.int a.2.1)) := upd_same
    generalize upd H9 V2 (.tup ((rs.map Prod.snd).map fun a => V.int a.2.1)) = G8 at s18 hV218 ⊢
    have hp18 := s18 _ _ hp17
    refine ⟨_, rfl, p, Ad14, dx, _, rfl, hp18, T.lWeb, T.nWeb__heads, (by show 5 < 1000; decide), ?_⟩
    have hp19 : upd G8 p (.ins Ad14 dx (putF "_heads" (.ref V2) [("nodes", .int n), ("arrows", .ref A1), ("pairs", .ref B1), ("move_count", .int (rs.length : Nat)), ("_bundles", .ref V1)])) p = some (.ins Ad14 dx [("nodes", .int n), ("arrows", .ref A1), ("pairs", .ref B1), ("move_count", .int (rs.length : Nat)), ("_bundles", .ref V1), ("_heads", .ref V2)]) := by rw [upd_same, putF_new (f := "_heads") (by walk_at "lk")]; rfl
    have c19 : But p G8 (upd G8 p (.ins Ad14 dx (putF "_heads" (.ref V2) [("nodes", .int n), ("arrows", .ref A1), ("pairs", .ref B1), ("move_count", .int (rs.length : Nat)), ("_bundles", .ref V1)]))) := But.upd
    have b19 := (b17.trans (But.of s18)).trans c19
    have hA19 := c19.tup hp18 (s18 _ _ hA17)
    have hB19 := c19.tup hp18 (s18 _ _ hB17)
    have hV19 := c19.tup hp18 (s18 _ _ hV17)
    have hV219 := c19.tup hp18 hV218
    have hJ19 := c19.lst hp18 (s18 _ _ hJ17)
    have tA19 := tA17.same fun _ _ e => c19.tup hp18 (s18 _ _ e)
    have hbv19 := hbv17.same fun _ _ e => c19.tup hp18 (s18 _ _ e)
    have hjv19 := hjv17.same fun _ _ e => c19.tup hp18 (s18 _ _ e)
    clear c19
    generalize upd G8 p (.ins Ad14 dx (putF "_heads" (.ref V2) [("nodes", .int n), ("arrows", .ref A1), ("pairs", .ref B1), ("move_count", .int (rs.length : Nat)), ("_bundles", .ref V1)])) = G9 at hp19 b19 hA19 hB19 hV19 hV219 hJ19 tA19 hbv19 hjv19 ⊢
    -- _numbers
    refine ⟨_, rfl, J, _, rfl, SqL.of hJ19, fun N hN => ?_⟩
    refine dc_enumL (K := K) (a := J) (xs := js) (fun i H' => Same G9 H' ∧ ∃ kvs : List (List Key × V), H' N = some (.dT kvs) ∧ kvs.length ≤ i)
      ⟨sm0 hN, [], upd_same, Nat.le_refl _⟩ (fun i H' z => SqL.of (z.1 _ _ hJ19)) (fun i x Tq H' hx z hT => ?_) fun H10 z => ?_
    · obtain ⟨sh, kvs, hkv, hlen⟩ := z
      have hil : i < rs.length := by rw [← ljs]; exact (List.getElem?_eq_some_iff.mp hx).1
      obtain ⟨rb, hrb⟩ : ∃ rb, rs[i]? = some rb := ⟨_, List.getElem?_eq_getElem hil⟩
      obtain ⟨r, rfl, hr1⟩ := hjv19.2 i x rb.2 hx (by rw [List.getElem?_map, hrb]; rfl)
      have s2 := smN (o := .tup [.int (i : Nat), .ref r]) sh hT
      refine ⟨Tq, _, rfl, .inl (.inl upd_same), rfl, _, _, rfl, _, _, rfl, rfl, rfl, ?_⟩
      refine ⟨_, rfl, _, rfl, _, DPut.t (k := keyL rb.2.1 rb.2.2.1) (atN (o := .tup [.int (i : Nat), .ref r]) hkv hT) (atN (o := .tup [.int (i : Nat), .ref r]) (sh _ _ hr1) hT) (sz_lt (by omega)), smM s2 hN, _, upd_same, Nat.le_trans (length_putK _ _ _) (by omega)⟩
    obtain ⟨s20, kvs, hN20, _⟩ := z
    have hp20 := s20 _ _ hp19
    refine ⟨_, rfl, p, Ad14, dx, _, rfl, hp20, T.lWeb, T.nWeb__numbers, (by show 6 < 1000; decide), ?_⟩
    have c21 : But p H10 (upd H10 p (.ins Ad14 dx (putF "_numbers" (.ref N) [("nodes", .int n), ("arrows", .ref A1), ("pairs", .ref B1), ("move_count", .int (rs.length : Nat)), ("_bundles", .ref V1), ("_heads", .ref V2)]))) := But.upd
    refine k _ ((b19.trans (But.of s20)).trans c21) ⟨dx, A1, B1, V1, V2, N, rs, cs, ?_, c21.tup hp20 (s20 _ _ hA19), tA19.same fun _ _ e => c21.tup hp20 (s20 _ _ e), eas, c21.tup hp20 (s20 _ _ hB19), c21.tup hp20 (s20 _ _ hV19), ?_, ?_, kvs, ?_⟩
    · rw [upd_same, putF_new (f := "_numbers") (by walk_at "lk"), ← eas, List.length_map]
      rfl
    · rw [← eas]
      exact hbv19.same fun _ _ e => c21.tup hp20 (s20 _ _ e)
    · rw [← eas]
      exact c21.tup hp20 (s20 _ _ hV219)
    · exact c21 _ _ (ne_of hN20 hp20 (by intro z; cases z)) hN20
end
end K12
set_option maxRecDepth 100000
set_option maxHeartbeats 4000000
namespace K12
open PySem PySem.Spec PyProof.Rows L2 SI
local macro_rules | `(tactic| walk_at "lk") => `(tactic| first | exact lk_hit | exact lk_nil | (refine lk_next (by decide +kernel) ?_; walk_at "lk"))
def okE1 (x : Int) : Prop := 0 ≤ x ∧ x ≤ 10 ^ 120
def okEs (ns : List Int) : Prop := ∀ x ∈ ns, okE1 x
def badE (ns : List Int) (i : Nat) : Prop := (∀ j x, j < i → ns[j]? = some x → okE1 x) ∧ ∃ x, ns[i]? = some x ∧ ¬ okE1 x
/-- a placing at its address -/
def pebF (a : Addr) (n s : Int) : List (Str × V) := [("counts", .ref a), ("nodes", .int n), ("size", .int s)]
def PebAt (C : Addr) (H : Hp) (t : Addr) (ns : List Int) : Prop := ∃ dx a, H t = some (.ins C dx (pebF a (ns.length : Nat) ns.sum)) ∧ H a = some (.tup (ns.map V.int))
def okP (ns : List Int) : Prop := 1 ≤ ns.length ∧ ns.length ≤ 64 ∧ ∀ x ∈ ns, 0 ≤ x ∧ x ≤ 10 ^ 120
theorem PebAt.same {C t : Addr} {H H' : Hp} {ns : List Int} (s : Same H H') (h : PebAt C H t ns) : PebAt C H' t ns := by
  obtain ⟨dx, a, h1, h2⟩ := h
  exact ⟨dx, a, s _ _ h1, s _ _ h2⟩
def flowF (a : Addr) (s : Int) : List (Str × V) := [("counts", .ref a), ("total", .int s)]
def FlowAt (C : Addr) (H : Hp) (t : Addr) (ns : List Int) : Prop := ∃ dx a, H t = some (.ins C dx (flowF a ns.sum)) ∧ H a = some (.tup (ns.map V.int))
theorem FlowAt.same {C t : Addr} {H H' : Hp} {ns : List Int} (s : Same H H') (h : FlowAt C H t ns) : FlowAt C H' t ns := by
  obtain ⟨dx, a, h1, h2⟩ := h
  exact ⟨dx, a, s _ _ h1, s _ _ h2⟩
def spCnt : Sp := fun vs H Q _ => ∃ n : Int, vs = [.int n] ∧ 1 ≤ n ∧ n ≤ 64 ∧ Q .non H
def spEnt (K : PySem.W.Frag) (C3 : Addr) : Sp := fun vs H Q E => ∃ (a : Addr) (ns : List Int), vs = [.ref a] ∧ SqT K H a (ns.map V.int) ∧ (okEs ns → ∀ H', Same H H' → Q .non H') ∧
  (∀ i, badE ns i → ∀ d H', Same H H' → H' d = none → E (.ref C3) (some d) (upd H' d (.xd [("at", .int (i : Nat))])))
def spFlow (K : PySem.W.Frag) (C3 C : Addr) : Sp := fun vs H Q E => ∃ (p dx a : Addr) (ns : List Int), vs = [.ref p, .ref a] ∧ H p = some (.ins C dx []) ∧ RowR K H a ns ∧ ns.length ≤ 460 ∧
  (okEs ns → ∀ H', (∀ b o, b ≠ p → H b = some o → H' b = some o) → FlowAt C H' p ns → Q .non H') ∧
  (∀ i, badE ns i → ∀ d H', Same H H' → H' d = none → E (.ref C3) (some d) (upd H' d (.xd [("at", .int (i : Nat))])))
def spPeb (K : PySem.W.Frag) (C : Addr) : Sp := fun vs H Q E => ∃ (p dx a : Addr) (ns : List Int), vs = [.ref p, .ref a] ∧ H p = some (.ins C dx []) ∧ RowR K H a ns ∧ okP ns ∧
  ∀ H', (∀ b o, b ≠ p → H b = some o → H' b = some o) → PebAt C H' p ns → Q .non H'
theorem peb_ok {K : PySem.W.Frag} {C : Addr} {H1 : Hp} {a x dx : Addr} {ns : List Int} {Q : VK} {E : XK} (hx : H1 x = none) (hdx : H1 dx = none) (ok : okP ns) (ha : RowR K H1 a ns)
    (k : ∀ H', Same H1 H' → PebAt C H' x ns → Q .non H') : spPeb K C (.ref x :: ([.ref a] ++ [])) (upd (upd H1 dx (.own x)) x (.ins C dx [])) Q E := by
  have s0 : Same H1 (upd (upd H1 dx (.own x)) x (.ins C dx [])) := smM (sm0 hdx) hx
  exact ⟨x, dx, a, ns, rfl, upd_same, ha.same s0, ok, fun H' hb' ht => k H' (fun c o e => hb' c o (ne_of_none e hx) (s0 _ _ e)) ht⟩
section
variable {P : Program} {w : World} {K : PySem.W.Frag} {mg : Str → Option Value} {base : Heap} {Ad1 Ad2 Ad3 Ad4 Ad5 Ad6 Ad7 Ad9 Ad10 Ad11 Ad12 Ad13 Ad14 Ad20 : Addr}
theorem scCheckCounts : FnScope ["many"] ["many"] (defScope sCheckCounts) := ⟨rfl, rfl, rfl, by decide +kernel, rfl, by decide +kernel, by decide +kernel⟩
theorem ok_CheckCounts (T : Txt P w K mg base Ad1 Ad2 Ad3 Ad4 Ad5 Ad6 Ad7 Ad9 Ad10 Ad11 Ad12 Ad13 Ad14 Ad20) : Cl P w K mg base 3 "check_counts" spCnt [] := by
  refine cl_of T.d_check_counts scCheckCounts (fun vs H Q E h => ?_) fun f cdv A outer s H vs Q E hr h => ?_
  · obtain ⟨n, rfl, _⟩ := h
    rfl
  · obtain ⟨n, rfl, h1, h2, k⟩ := h
    refine ⟨_, (pss_one (ps_if (PW.pt (pw_or (pt_cmpR op_lt (pv 0) pe_int (nomark _)) (pw_or1 (pt_cmpR op_gt (pv 0) (pe_const rfl T.c_MOST_NODES) (nomark _)))))
    (pss_one (ps_raise rfl (takes_of rfl rfl rfl rfl) (pmk_rs T.rBadCount hr (by decide) rfl (pa_cons pe_str (pa_cons (pv 0) pa_nil)))))
    pss_nil)), ?_⟩
    refine ⟨_, rfl, _, _, rfl, rfl, _, rfl, ifD (fun c => absurd c (by omega)) fun c => ?_⟩
    refine ⟨_, rfl, _, _, rfl, rfl, _, rfl, ifD (fun c => absurd c (by omega)) fun c => ?_⟩
    exact k
theorem scCheckEntries : FnScope ["counts", "at", "count"] ["counts"] (defScope sCheckEntries) := ⟨rfl, rfl, rfl, by decide +kernel, rfl, by decide +kernel, by decide +kernel⟩
theorem ok_CheckEntries (T : Txt P w K mg base Ad1 Ad2 Ad3 Ad4 Ad5 Ad6 Ad7 Ad9 Ad10 Ad11 Ad12 Ad13 Ad14 Ad20) : Cl P w K mg base 3 "check_entries" (spEnt K Ad3) [] := by
  refine cl_of T.d_check_entries scCheckEntries (fun vs H Q E h => ?_) fun f cdv A outer s H vs Q E hr h => ?_
  · obtain ⟨a, ns, rfl, _⟩ := h
    rfl
  · obtain ⟨a, ns, rfl, ha, k1, k2⟩ := h
    refine ⟨_, (pss_one (ps_for (passes_of rfl) rfl (pi_enumT (by rfl) T.b_enumerate (pa_cons (pv 0) pa_nil)) (pg_tup rfl (pgs_cons (pg_name (i := 1) scCheckEntries.nd rfl (by first | exact Or.inl rfl | exact Or.inr rfl)) (pgs_cons (pg_name (i := 2) scCheckEntries.nd rfl (by first | exact Or.inl rfl | exact Or.inr rfl)) pgs_nil)))
    (pss_one (ps_if (PW.pt (pw_or (pt_cmpR op_lt (pv 2) pe_int (nomark _)) (pw_or1 (pt_cmpR op_gt (pv 2) (pe_const rfl T.c_MOST) (nomark _)))))
      (pss_one (ps_raise rfl (takes_of rfl rfl rfl rfl) (pmk_rs T.rNotPebbles hr (by decide) rfl (pa_cons (pv 1) pa_nil))))
      pss_nil)))), ?_⟩
    refine ⟨_, rfl, a, _, rfl, ha, for_enumT (K := K) (a := a) (xs := ns.map V.int) (fun i σ H' => ∃ v1 v2 : Option V, σ = [some (.ref a), v1, v2] ∧ Same H H' ∧ ∀ j x, j < i → ns[j]? = some x → okE1 x)
      ⟨none, none, rfl, Same.refl H, fun j x hj => absurd hj (Nat.not_lt_zero _)⟩ (fun i σ H' h => by obtain ⟨_, _, _, sh, _⟩ := h; exact smT sh ha) (fun i x Tq σ H' hx h hT => ?_) fun σ H' h => ?_⟩
    · obtain ⟨v1, v2, rfl, sh, hok⟩ := h
      obtain ⟨z, hz, rfl⟩ := ints_at hx
      refine ⟨Tq, _, rfl, .inl (.inl upd_same), rfl, ?_⟩
      have st : Same H (upd H' Tq (.tup [.int (i : Nat), .int z])) := smN sh hT
      refine ⟨_, _, rfl, _, _, rfl, rfl, _, rfl, _, _, rfl, rfl, _, rfl, ifD (fun c => ?_) fun c => ?_⟩
      · exact ⟨_, rfl, _, ⟨_, rfl, rfl⟩, fun d hd => k2 i ⟨hok, z, hz, fun q => by have := q.1; omega⟩ d _ st hd⟩
      refine ⟨_, rfl, _, _, rfl, rfl, _, rfl, ifD (fun c2 => ?_) fun c2 => ?_⟩
      · exact ⟨_, rfl, _, ⟨_, rfl, rfl⟩, fun d hd => k2 i ⟨hok, z, hz, fun q => by have := q.2; omega⟩ d _ st hd⟩
      refine ⟨_, _, rfl, st, fun j y hj hy => ?_⟩
      by_cases e : j < i
      · exact hok j y e hy
      · obtain rfl : j = i := by omega
        rw [hz] at hy
        cases hy
        exact ⟨by omega, by omega⟩
    · obtain ⟨v1, v2, rfl, sh, hok⟩ := h
      rw [List.length_map] at hok
      refine k1 (fun x hx => ?_) H' sh
      obtain ⟨j, hj⟩ := List.mem_iff_getElem?.mp hx
      exact hok j x (List.getElem?_eq_some_iff.mp hj).1 hj
theorem scPebblesInit : FnScope ["self", "counts", "kept"] ["self", "counts"] (defScope sPebblesInit) := ⟨rfl, rfl, rfl, by decide +kernel, rfl, by decide +kernel, by decide +kernel⟩
theorem ok_Pebbles (T : Txt P w K mg base Ad1 Ad2 Ad3 Ad4 Ad5 Ad6 Ad7 Ad9 Ad10 Ad11 Ad12 Ad13 Ad14 Ad20) : Mkd P w K mg base 4 "Pebbles" Ad12 "Pebbles.__init__" sPebblesInit ["self", "counts"] (spPeb K Ad12) := by
  have c_CheckCounts := ok_CheckCounts T
  have c_CheckEntries := ok_CheckEntries T
  refine mkd_of T.m_Pebbles scPebblesInit (fun vs H Q E h => ?_) fun f cdv A outer s H vs Q E hr h => ?_
  · obtain ⟨p, dx, a, ns, rfl, _⟩ := h
    rfl
  · obtain ⟨p, dx, a, ns, rfl, hp, ha, ⟨ok1, ok2, ok3⟩, k⟩ := h
    refine ⟨_, (pss_cons (ps_set (i := 2) scPebblesInit.nd rfl (by first | exact Or.inl rfl | exact Or.inr rfl) (pe_callTy call_tupR (by rfl) T.b_tuple (by decide +kernel) (pa_cons (pv 1) pa_nil)))
  (pss_cons (ps_expr (pe_cX (takes_of rfl rfl rfl rfl) c_CheckCounts hr (by decide) rfl (pa_cons (pe_callB call_len_seq (by rfl) T.b_len (by decide +kernel) (pa_cons (pv 2) pa_nil)) pa_nil)))
  (pss_cons (ps_expr (pe_cX (takes_of rfl rfl rfl rfl) c_CheckEntries hr (by decide) rfl (pa_cons (pv 2) pa_nil)))
  (pss_cons (ps_fld (pv 0) (pv 2) rfl)
  (pss_cons (ps_fld (pv 0) (pe_callB call_len_seq (by rfl) T.b_len (by decide +kernel) (pa_cons (pv 2) pa_nil)) rfl)
  (pss_one (ps_fld (pv 0) (pe_callB (cr_sumT rfl) (by rfl) T.b_sum (by decide +kernel) (pa_cons (pv 2) pa_nil)) rfl))))))), ?_⟩
    refine ⟨_, rfl, tup_of ha fun q H1 s1 hq => ?_⟩
    have eln : (((ns.map V.int).length : Nat) : Int) = (ns.length : Nat) := by rw [List.length_map]
    refine ⟨_, rfl, q, _, rfl, .inr (SqT.of hq), _, rfl, by rw [eln]; omega, by rw [eln]; omega, ?_⟩
    refine ⟨_, rfl, q, ns, rfl, SqT.of hq, fun _ H2 s2 => ?_, fun i hb => (hb.2.elim fun x hx => absurd (ok3 x (List.mem_of_getElem? hx.1)) hx.2)⟩
    have s3 := s1.trans s2
    have hp3 := s3 _ _ hp
    have hq3 := s2 _ _ hq
    have n1 : q ≠ p := ne_of hq3 hp3 (by intro z; cases z)
    refine ⟨_, rfl, _, rfl, p, Ad12, dx, _, rfl, hp3, T.lPebbles, T.nPebbles_counts, (by decide), ?_⟩
    refine ⟨_, rfl, q, _, rfl, .inr (SqT.of (by rw [upd_ne n1]; exact hq3)), _, rfl, p, Ad12, dx, _, rfl, upd_same, T.lPebbles, T.nPebbles_nodes, (by show 1 < 1000; decide), ?_⟩
    refine ⟨_, rfl, q, ns, rfl, SqT.of (by rw [upd_ne n1, upd_ne n1]; exact hq3), _, rfl, p, Ad12, dx, _, rfl, upd_same, T.lPebbles, T.nPebbles_size, (by show 2 < 1000; decide), ?_⟩
    rw [upd_upd, upd_upd]
    refine k _ (fun b o nb e => ?_) ⟨dx, q, ?_, ?_⟩
    · rw [upd_ne nb]
      exact s3 _ _ e
    · rw [upd_same, List.length_map, putF_new (f := "counts") (by walk_at "lk"), putF_new (f := "nodes") (by walk_at "lk"), putF_new (f := "size") (by walk_at "lk")]
      rfl
    · rw [upd_ne n1]; exact hq3
theorem scFlowInit : FnScope ["self", "counts", "kept"] ["self", "counts"] (defScope sFlowInit) := ⟨rfl, rfl, rfl, by decide +kernel, rfl, by decide +kernel, by decide +kernel⟩
theorem ok_Flow (T : Txt P w K mg base Ad1 Ad2 Ad3 Ad4 Ad5 Ad6 Ad7 Ad9 Ad10 Ad11 Ad12 Ad13 Ad14 Ad20) : Mkd P w K mg base 4 "Flow" Ad13 "Flow.__init__" sFlowInit ["self", "counts"] (spFlow K Ad3 Ad13) := by
  have c_CheckEntries := ok_CheckEntries T
  refine mkd_of T.m_Flow scFlowInit (fun vs H Q E h => ?_) fun f cdv A outer s H vs Q E hr h => ?_
  · obtain ⟨p, dx, a, ns, rfl, _⟩ := h
    rfl
  · obtain ⟨p, dx, a, ns, rfl, hp, ha, hl, k1, k2⟩ := h
    refine ⟨_, (pss_cons (ps_set (i := 2) scFlowInit.nd rfl (by first | exact Or.inl rfl | exact Or.inr rfl) (pe_callTy call_tupR (by rfl) T.b_tuple (by decide +kernel) (pa_cons (pv 1) pa_nil)))
  (pss_cons (ps_if (pt_cmpR op_gt (pe_callB call_len_seq (by rfl) T.b_len (by decide +kernel) (pa_cons (pv 2) pa_nil)) (pe_const rfl T.c_MOST_MOVES) (nomark _))
    (pss_one ps_never)
    pss_nil)
  (pss_cons (ps_expr (pe_cX (takes_of rfl rfl rfl rfl) c_CheckEntries hr (by decide) rfl (pa_cons (pv 2) pa_nil)))
  (pss_cons (ps_fld (pv 0) (pv 2) rfl)
  (pss_one (ps_fld (pv 0) (pe_callB (cr_sumT rfl) (by rfl) T.b_sum (by decide +kernel) (pa_cons (pv 2) pa_nil)) rfl)))))), ?_⟩
    refine ⟨_, rfl, tup_of ha fun q H1 s1 hq => ?_⟩
    have eln : (((ns.map V.int).length : Nat) : Int) = (ns.length : Nat) := by rw [List.length_map]
    refine ⟨_, rfl, q, _, rfl, .inr (SqT.of hq), _, _, rfl, rfl, _, rfl, ifD (fun c => absurd c (by rw [eln]; omega)) fun _ => ?_⟩
    refine ⟨_, rfl, q, ns, rfl, SqT.of hq, fun hok H2 s2 => ?_, fun i hi d H2 s2 hd => k2 i hi d H2 (s1.trans s2) hd⟩
    have s3 := s1.trans s2
    have hp3 := s3 _ _ hp
    have hq3 := s2 _ _ hq
    have n1 : q ≠ p := ne_of hq3 hp3 (by intro z; cases z)
    refine ⟨_, rfl, _, rfl, p, Ad13, dx, _, rfl, hp3, T.lFlow, T.nFlow_counts, (by decide), ?_⟩
    refine ⟨_, rfl, q, ns, rfl, SqT.of (by rw [upd_ne n1]; exact hq3), _, rfl, p, Ad13, dx, _, rfl, upd_same, T.lFlow, T.nFlow_total, (by show 1 < 1000; decide), ?_⟩
    rw [upd_upd]
    refine k1 hok _ (fun b o nb e => ?_) ⟨dx, q, ?_, ?_⟩
    · rw [upd_ne nb]
      exact s3 _ _ e
    · rw [upd_same, putF_new (f := "counts") (by walk_at "lk"), putF_new (f := "total") (by walk_at "lk")]
      rfl
    · rw [upd_ne n1]; exact hq3
end
end K12
set_option maxRecDepth 100000
set_option maxHeartbeats 4000000
namespace K12
open PySem PySem.Spec PyProof.Rows L2 SI
local macro_rules | `(tactic| walk_at "lk") => `(tactic| first | exact lk_hit | exact lk_nil | (refine lk_next (by decide +kernel) ?_; walk_at "lk"))
/-- what the children of v send -/
def kV (ps ups : List Int) (v : Nat) : Nat → Int
  | 0 => 0
  | i + 1 => kV ps ups v i + (if ps[i]? = some (v : Int) then ups.getD (i + 1) 0 else 0)
/-- the moves up -/
structure IsUps (ps qs ns ups : List Int) : Prop where
  len : ups.length = ps.length + 1
  root : ups.getD 0 0 = 0
  at_ : ∀ i, i < ps.length → ups.getD (i + 1) 0 = (ns.getD (i + 1) 0 + kV ps ups (i + 1) ps.length) / pw qs (i + 1)
section
variable {ps qs : List Int}
theorem kV_set {ups : List Int} {v j : Nat} {x : Int} (hj : j < ups.length) (h1 : 1 ≤ j) : ∀ i, kV ps (ups.set j x) v i = kV ps ups v i + (if j ≤ i ∧ ps[j - 1]? = some (v : Int) then x - ups.getD j 0 else 0)
  | 0 => by
    rw [if_neg (by omega)]
    rfl
  | i + 1 => by
    show kV ps (ups.set j x) v i + (if ps[i]? = some (v : Int) then (ups.set j x).getD (i + 1) 0 else 0) = kV ps ups v i + (if ps[i]? = some (v : Int) then ups.getD (i + 1) 0 else 0) + _
    rw [kV_set hj h1 i, getD_set hj]
    by_cases c : j = i + 1
    · subst c
      rw [if_neg (fun z => by omega), if_pos rfl, Nat.add_sub_cancel]
      by_cases c2 : ps[i]? = some (v : Int)
      · rw [if_pos c2, if_pos c2, if_pos ⟨Nat.le_refl _, c2⟩]; omega
      · rw [if_neg c2, if_neg c2, if_neg (fun z => c2 z.2)]
    · rw [if_neg c]
      by_cases c2 : j ≤ i ∧ ps[j - 1]? = some (v : Int)
      · rw [if_pos c2, if_pos (show j ≤ i + 1 ∧ ps[j - 1]? = some (v : Int) from ⟨by omega, c2.2⟩)]; omega
      · rw [if_neg c2, if_neg (show ¬ (j ≤ i + 1 ∧ ps[j - 1]? = some (v : Int)) from fun z => c2 ⟨by omega, z.2⟩)]; omega
theorem kV_kids {ups : List Int} {v : Nat} : ∀ i, kV ps ups v i = ((kids ps (v : Int) i).map fun u => ups.getD u.toNat 0).sum
  | 0 => rfl
  | i + 1 => by
    show kV ps ups v i + _ = ((kids ps (v : Int) i ++ _).map _).sum
    rw [kV_kids i, List.map_append, List.sum_append]
    congr 1
    by_cases c : ps[i]? = some (v : Int)
    · rw [if_pos c, if_pos c]
      show _ = ups.getD (((i : Nat) : Int) + 1).toNat 0 + 0
      rw [show (((i : Nat) : Int) + 1).toNat = i + 1 by omega, Int.add_zero]
    · rw [if_neg c, if_neg c]
      rfl
theorem kids_in (ps : List Int) (v : Int) : ∀ i, ∀ x ∈ kids ps v i, 1 ≤ x ∧ x ≤ i
  | 0, x, h => by cases h
  | i + 1, x, h => by
    have h' : x ∈ kids ps v i ++ (if ps[i]? = some v then [((i : Nat) : Int) + 1] else []) := h
    rcases List.mem_append.mp h' with h | h
    · have := kids_in ps v i x h
      omega
    · split at h
      · rw [List.mem_singleton] at h
        omega
      · cases h

theorem kV_zero {v : Nat} {n : Nat} : ∀ i, kV ps (List.replicate n 0) v i = 0
  | 0 => rfl
  | i + 1 => by
    show kV ps _ v i + _ = 0
    rw [kV_zero i, List.getD_eq_getElem?_getD, List.getElem?_replicate]
    split
    · split <;> rfl
    · rfl
/-- only children above v count -/
theorem kV_congr {ups ups' : List Int} {v : Nat} (ok : parOk ps) (h : ∀ u, v < u → ups.getD u 0 = ups'.getD u 0) : ∀ i, kV ps ups v i = kV ps ups' v i
  | 0 => rfl
  | i + 1 => by
    show kV ps ups v i + _ = kV ps ups' v i + _
    rw [kV_congr ok h i]
    by_cases c : ps[i]? = some (v : Int)
    · have := ok i _ c
      rw [if_pos c, if_pos c, h (i + 1) (by omega)]
    · rw [if_neg c, if_neg c]
theorem ups_uniq {ns ups ups' : List Int} (ok : okT ps qs) (h : IsUps ps qs ns ups) (h' : IsUps ps qs ns ups') : ups = ups' := by
  have key : ∀ k u, ps.length + 1 - u = k → ups.getD u 0 = ups'.getD u 0 := by
    intro k
    induction k using Nat.strongRecOn with
    | _ k ih =>
      intro u hu
      cases u with
      | zero => rw [h.root, h'.root]
      | succ i =>
        rcases Nat.lt_or_ge i ps.length with c | c
        · rw [h.at_ i c, h'.at_ i c, kV_congr ok.par (fun w hw => ?_) ps.length]
          rcases Nat.lt_or_ge w (ps.length + 1) with c2 | c2
          · exact ih (ps.length + 1 - w) (by omega) w rfl
          · rw [List.getD_eq_getElem?_getD, List.getD_eq_getElem?_getD, List.getElem?_eq_none (by rw [h.len]; exact c2), List.getElem?_eq_none (by rw [h'.len]; exact c2)]
        · rw [List.getD_eq_getElem?_getD, List.getD_eq_getElem?_getD, List.getElem?_eq_none (by rw [h.len]; omega), List.getElem?_eq_none (by rw [h'.len]; omega)]
  apply List.ext_getElem?
  intro u
  rcases Nat.lt_or_ge u (ps.length + 1) with c | c
  · have e := key _ u rfl
    rw [List.getD_eq_getElem?_getD, List.getD_eq_getElem?_getD] at e
    have l1 := h.len
    have l2 := h'.len
    rw [List.getElem?_eq_getElem (by omega), List.getElem?_eq_getElem (by omega)] at e ⊢
    exact congrArg some e
  · rw [List.getElem?_eq_none (by rw [h.len]; exact c), List.getElem?_eq_none (by rw [h'.len]; exact c)]
end
def errW (C6 : Addr) (H : Hp) (E : XK) (have_ need : Int) : Prop := ∀ d, H d = none → E (.ref C6) (some d) (upd H d (.xd [("need", .int need), ("have", .int have_)]))
def spWidth (C6 C C2 : Addr) : Sp := fun vs H Q E => ∃ (t p : Addr) (ps qs ns : List Int), vs = [.ref t, .ref p] ∧ TreeAt C H t ps qs ∧ PebAt C2 H p ns ∧ (ns.length = ps.length + 1 → Q .non H) ∧ (ns.length ≠ ps.length + 1 → errW C6 H E (ns.length : Nat) ((ps.length : Int) + 1))
def spUps (K : PySem.W.Frag) (C6 C C2 : Addr) : Sp := fun vs H Q E => ∃ (t p : Addr) (ps qs ns : List Int), vs = [.ref t, .ref p] ∧ TreeAt C H t ps qs ∧ okT ps qs ∧ PebAt C2 H p ns ∧
  (ns.length = ps.length + 1 → ∀ q ups H', Same H H' → H' q = some (.tup (List.map V.int ups)) → IsUps ps qs ns ups → Q (.ref q) H') ∧ (ns.length ≠ ps.length + 1 → errW C6 H E (ns.length : Nat) ((ps.length : Int) + 1))
def spMost (C6 C C2 : Addr) : Sp := fun vs H Q E => ∃ (t p : Addr) (ps qs ns : List Int), vs = [.ref t, .ref p] ∧ TreeAt C H t ps qs ∧ okT ps qs ∧ PebAt C2 H p ns ∧
  (ns.length = ps.length + 1 → ∀ ups H', Same H H' → IsUps ps qs ns ups → Q (.int (ns.getD 0 0 + kV ps ups 0 ps.length)) H') ∧ (ns.length ≠ ps.length + 1 → errW C6 H E (ns.length : Nat) ((ps.length : Int) + 1))
section
variable {P : Program} {w : World} {K : PySem.W.Frag} {mg : Str → Option Value} {base : Heap} {Ad1 Ad2 Ad3 Ad4 Ad5 Ad6 Ad7 Ad9 Ad10 Ad11 Ad12 Ad13 Ad14 Ad20 : Addr}
theorem scCheckTreeWidth : FnScope ["tree", "placing"] ["tree", "placing"] (defScope sCheckTreeWidth) := ⟨rfl, rfl, rfl, by decide +kernel, rfl, by decide +kernel, by decide +kernel⟩
theorem ok_CheckTreeWidth (T : Txt P w K mg base Ad1 Ad2 Ad3 Ad4 Ad5 Ad6 Ad7 Ad9 Ad10 Ad11 Ad12 Ad13 Ad14 Ad20) : Cl P w K mg base 3 "check_tree_width" (spWidth Ad6 Ad11 Ad12) [] := by
  refine cl_of T.d_check_tree_width scCheckTreeWidth (fun vs H Q E h => ?_) fun f cdv A outer s H vs Q E hr h => ?_
  · obtain ⟨t, p, ps, qs, ns, rfl, _⟩ := h
    rfl
  · obtain ⟨t, p, ps, qs, ns, rfl, ⟨dx, a, b, ht, ha, hb⟩, ⟨dx2, c, hp, hc⟩, k1, k2⟩ := h
    refine ⟨_, (pss_one (ps_if (pt_cmpR op_ne (pe_fld (pv 1) rfl) (pe_fld (pv 0) rfl) (nomark _))
    (pss_one (ps_raise rfl (takes_of rfl rfl rfl rfl) (pmk_rs T.rWrongWidth hr (by decide) rfl (pa_cons (pe_fld (pv 1) rfl) (pa_cons (pe_fld (pv 0) rfl) pa_nil)))))
    pss_nil)), ?_⟩
    have l1 : (treeF (ps.length + 1) a b).lookup ("nodes" : Str) = some (V.int (ps.length + 1)) := by walk_at "lk"
    have l2 : (pebF c (ns.length : Nat) ns.sum).lookup ("nodes" : Str) = some (V.int (ns.length : Nat)) := by walk_at "lk"
    refine ⟨_, rfl, p, Ad12, dx2, _, _, rfl, hp, T.lPebbles, T.nPebbles_nodes, l2, _, rfl, t, Ad11, dx, _, _, rfl, ht, T.lTree, T.nTree_nodes, l1, rfl, _, rfl, ifIN (fun z => ?_) fun z => ?_⟩
    · refine ⟨_, rfl, p, Ad12, dx2, _, _, rfl, hp, T.lPebbles, T.nPebbles_nodes, l2, _, rfl, t, Ad11, dx, _, _, rfl, ht, T.lTree, T.nTree_nodes, l1, _, ⟨_, _, rfl, trivial, rfl⟩, fun d hd => ?_⟩
      exact k2 (by omega) d hd
    · exact k1 (by omega)
theorem scTreeUps : FnScope ["tree", "placing", "have", "ups", "node"] ["tree", "placing"] (defScope sTreeUps) := ⟨rfl, rfl, rfl, by decide +kernel, rfl, by decide +kernel, by decide +kernel⟩
theorem ok_TreeUps (T : Txt P w K mg base Ad1 Ad2 Ad3 Ad4 Ad5 Ad6 Ad7 Ad9 Ad10 Ad11 Ad12 Ad13 Ad14 Ad20) : Cd P w K mg base 4 "tree_ups" sTreeUps ["tree", "placing"] (spUps K Ad6 Ad11 Ad12) := by
  have c_CheckTreeWidth := ok_CheckTreeWidth T
  refine cd_of T.d_tree_ups scTreeUps (fun vs H Q E h => ?_) fun f cdv A outer s H vs Q E hr h => ?_
  · obtain ⟨t, p, ps, qs, ns, rfl, _⟩ := h
    rfl
  · obtain ⟨t, p, ps, qs, ns, rfl, hT, ok, hP, k1, k2⟩ := h
    refine ⟨_, (pss_cons (ps_expr (pe_cX (takes_of rfl rfl rfl rfl) c_CheckTreeWidth hr (by decide) rfl (pa_cons (pv 0) (pa_cons (pv 1) pa_nil))))
  (pss_cons (ps_set (i := 2) scTreeUps.nd rfl (by first | exact Or.inl rfl | exact Or.inr rfl) (pe_callTy call_list_of (by rfl) T.b_list (by decide +kernel) (pa_cons (pe_fld (pv 1) rfl) pa_nil)))
  (pss_cons (ps_set (i := 3) scTreeUps.nd rfl (by first | exact Or.inl rfl | exact Or.inr rfl) (pe_op op_rep (pe_lst (pa_cons pe_int pa_nil)) (pe_fld (pv 0) rfl)))
  (pss_cons (ps_for (passes_of rfl) rfl (pi_range3 (by rfl) T.b_range (pa_cons (pe_op op_sub (pe_fld (pv 0) rfl) pe_int) (pa_cons pe_int (pa_cons (pe_un un_neg pe_int) pa_nil)))) (pg_name (i := 4) scTreeUps.nd rfl (by first | exact Or.inl rfl | exact Or.inr rfl))
    (pss_cons (ps_asg (pe_op op_fdivW (pe_ix ix_list (pv 2) (pv 4) (fun _ _ => rfl)) (pe_ix ix_tup (pe_fld (pv 0) rfl) (pe_op op_sub (pv 4) pe_int) (fun _ _ => rfl))) (pg_sub (pv 3) (pv 4) set_list))
    (pss_one (ps_augS (pv 2) (pe_ix ix_tup (pe_fld (pv 0) rfl) (pe_op op_sub (pv 4) pe_int) (fun _ _ => rfl)) get_list (pe_ix ix_list (pv 3) (pv 4) (fun _ _ => rfl)) ip_add set_list))))
  (pss_one (ps_ret (pe_callTy call_tupR (by rfl) T.b_tuple (by decide +kernel) (pa_cons (pv 3) pa_nil)))))))), ?_⟩
    refine ⟨_, rfl, _, rfl, t, p, ps, qs, ns, rfl, hT, hP, fun hl => ?_, fun hl d hd => k2 hl d hd⟩
    have k := k1 hl
    obtain ⟨dx, a, b, ht, ha, hb⟩ := hT
    obtain ⟨dx2, c, hp, hc⟩ := hP
    have l1 : (treeF (ps.length + 1) a b).lookup ("nodes" : Str) = some (V.int (ps.length + 1)) := by walk_at "lk"
    have l2 : (treeF (ps.length + 1) a b).lookup ("parents" : Str) = some (V.ref a) := by walk_at "lk"
    have l3 : (treeF (ps.length + 1) a b).lookup ("prices" : Str) = some (V.ref b) := by walk_at "lk"
    have l4 : (pebF c (ns.length : Nat) ns.sum).lookup ("counts" : Str) = some (V.ref c) := by walk_at "lk"
    have hlen := ok.1
    refine ⟨_, rfl, p, Ad12, dx2, _, _, rfl, hp, T.lPebbles, T.nPebbles_counts, l4, c, _, rfl, .inr (SqT.of hc), fun F hF => ?_⟩
    have s1 : Same H (upd H F (.lst (ns.map V.int))) := sm0 hF
    refine ⟨by show 1 ≤ sizeLine; decide, fun z1 h1 => ?_⟩
    have s2 : Same H (upd (upd H F (.lst (ns.map V.int))) z1 (.lst [.int 0])) := smN s1 h1
    refine ⟨_, rfl, t, Ad11, dx, _, _, rfl, s2 _ _ ht, T.lTree, T.nTree_nodes, l1, z1, (ps.length : Int) + 1, _, rfl, rfl, upd_same, by omega, by omega, sz_small (by simp; omega), fun U hU => ?_⟩
    rw [show ((ps.length : Int) + 1).toNat = ps.length + 1 by omega, rep_one]
    have s3 : Same H (upd (upd (upd H F (.lst (ns.map V.int))) z1 (.lst [.int 0])) U (.lst (List.replicate (ps.length + 1) (.int 0)))) := smN s2 hU
    have hF3 : upd (upd (upd H F (.lst (ns.map V.int))) z1 (.lst [.int 0])) U (.lst (List.replicate (ps.length + 1) (.int 0))) F = some (.lst (ns.map V.int)) := atN (atN upd_same h1) hU
    have hU3 : upd (upd (upd H F (.lst (ns.map V.int))) z1 (.lst [.int 0])) U (.lst (List.replicate (ps.length + 1) (.int 0))) U = some (.lst ((List.replicate (ps.length + 1) (0 : Int)).map V.int)) := by rw [upd_same, List.map_replicate]
    have nFU : F ≠ U := ne_of_none (atN upd_same h1) hU
    have fU := s2.free hU
    generalize upd (upd (upd H F (.lst (ns.map V.int))) z1 (.lst [.int 0])) U (.lst (List.replicate (ps.length + 1) (.int 0))) = H3 at s3 hF3 hU3 ⊢
    refine ⟨_, rfl, t, Ad11, dx, _, _, rfl, s3 _ _ ht, T.lTree, T.nTree_nodes, l1, _, _, rfl, rfl, _, rfl, (ps.length : Int) + 1 - 1, 0, -1, ((ps.length : Int) + 1 - 1 - 0).toNat, rfl, RgC.neg (by omega) (by omega) (by decide) (by decide), ?_⟩
    rw [show ((ps.length : Int) + 1 - 1 - 0).toNat = ps.length by omega]
    refine for_rangeC (lo := (ps.length : Int) + 1 - 1) (c := -1) (n := ps.length) (fun i σ H' => i ≤ ps.length ∧ ∃ (v4 : Option V) (h ups : List Int), σ = [some (.ref t), some (.ref p), some (.ref F), some (.ref U), v4] ∧ Same H H' ∧ H' F = some (.lst (h.map V.int)) ∧ H' U = some (.lst (ups.map V.int)) ∧ h.length = ps.length + 1 ∧ ups.length = ps.length + 1 ∧
        (∀ u, h.getD u 0 = ns.getD u 0 + kV ps ups u ps.length) ∧ (∀ u, u ≤ ps.length - i → ups.getD u 0 = 0) ∧ ∀ j, ps.length - i ≤ j → j < ps.length → ups.getD (j + 1) 0 = (ns.getD (j + 1) 0 + kV ps ups (j + 1) ps.length) / pw qs (j + 1))
      ⟨Nat.zero_le _, none, ns, _, rfl, s3, hF3, hU3, hl, by simp, fun u => by rw [kV_zero, Int.add_zero], fun u _ => by rw [List.getD_eq_getElem?_getD, List.getElem?_replicate]; split <;> rfl, fun j h1 h2 => by omega⟩ (fun i σ H' hi h => ?_) fun σ H' h => ?_
    · obtain ⟨_, v4, h, ups, rfl, sh, hf, hu, hlh, hlu, e1, e2, e3⟩ := h
      obtain ⟨m, hm⟩ : ∃ m, m + 1 = ps.length - i := ⟨ps.length - i - 1, by omega⟩
      have hml : m < ps.length := by omega
      rw [← hm] at e2 e3
      have ev : (ps.length : Int) + 1 - 1 + (i : Nat) * (-1) = ((m + 1 : Nat) : Int) := by omega
      rw [ev]
      obtain ⟨hp1, hpm⟩ := par_lt ok hml
      obtain ⟨q, hq⟩ : ∃ q, qs[m]? = some q := ⟨_, List.getElem?_eq_getElem (by have := ok.2.1; omega)⟩
      obtain ⟨x, hx⟩ : ∃ x, h[m + 1]? = some x := ⟨_, List.getElem?_eq_getElem (by omega)⟩
      obtain ⟨y, hy⟩ : ∃ y, h[par ps m]? = some y := ⟨_, List.getElem?_eq_getElem (by omega)⟩
      have hqb := pw_ok ok (u := m + 1) (by omega) (by omega)
      rw [pw_of hq] at hqb
      have htt := sh _ _ ht
      have haa := sh _ _ ha
      have hbb := sh _ _ hb
      refine ⟨_, rfl, _, rfl, F, _, _, _, rfl, rfl, SqL.of hf, atI_nat (at_ints hx), _, rfl, t, Ad11, dx, _, _, rfl, htt, T.lTree, T.nTree_prices, l3, _, rfl, _, _, rfl, rfl, b, _, _, _, rfl, rfl, SqT.of hbb, at_of (j := m) (by omega) (at_ints hq), _, _, rfl, rfl, cdiv_small (by omega) (by omega), ?_⟩
      refine ⟨_, rfl, _, rfl, U, _, _, m + 1, rfl, rfl, hu, ixN_of rfl (by rw [List.length_map]; omega), ?_⟩
      have sh2 : Same H (upd H' U (.lst ((ups.map V.int).set (m + 1) (.int (x / q))))) := smM sh fU
      have hU2 : upd H' U (.lst ((ups.map V.int).set (m + 1) (.int (x / q)))) U = some (.lst ((ups.set (m + 1) (x / q)).map V.int)) := by rw [upd_same, List.map_set]
      have hF2 : upd H' U (.lst ((ups.map V.int).set (m + 1) (.int (x / q)))) F = some (.lst (h.map V.int)) := by rw [upd_ne nFU]; exact hf
      generalize upd H' U (.lst ((ups.map V.int).set (m + 1) (.int (x / q)))) = H4 at sh2 hU2 hF2 ⊢
      have hux : (ups.set (m + 1) (x / q))[m + 1]? = some (x / q) := List.getElem?_set_self (by omega)
      refine ⟨_, rfl, _, rfl, t, Ad11, dx, _, _, rfl, sh2 _ _ ht, T.lTree, T.nTree_parents, l2, _, rfl, _, _, rfl, rfl, a, _, _, _, rfl, rfl, SqT.of (sh2 _ _ ha), at_of (j := m) (by omega) (at_ints hp1), F, _, _, _, rfl, rfl, by omega, SqL.of hF2, atI_nat (at_ints hy), ?_⟩
      refine ⟨_, rfl, _, rfl, U, _, _, _, rfl, rfl, SqL.of hU2, atI_nat (at_ints hux), _, _, rfl, rfl, F, _, _, par ps m, rfl, rfl, hF2, ixN_of rfl (by rw [List.length_map]; omega), ?_⟩
      have ex : h.getD (m + 1) 0 = x := by rw [List.getD_eq_getElem?_getD, hx]; rfl
      have ey : h.getD (par ps m) 0 = y := by rw [List.getD_eq_getElem?_getD, hy]; rfl
      have epw := pw_of hq
      refine ⟨hi, some (.int ((m + 1 : Nat) : Int)), h.set (par ps m) (y + x / q), ups.set (m + 1) (x / q), rfl, smM sh2 hF, by rw [upd_same, List.map_set], by rw [upd_ne (Ne.symm nFU)]; exact hU2, by rw [List.length_set, hlh], by rw [List.length_set, hlu], fun u => ?_, fun u hu' => ?_, fun j h1 h2 => ?_⟩
      · rw [getD_set (by omega), kV_set (by omega) (by omega), Nat.add_sub_cancel, hp1, e2 (m + 1) (Nat.le_refl _)]
        by_cases c0 : par ps m = u
        · rw [if_pos c0, if_pos ⟨by omega, by rw [c0]⟩]
          have := e1 u
          rw [← c0, ey, c0] at this
          omega
        · rw [if_neg c0, if_neg (fun z => c0 (by have := Option.some.inj z.2; omega)), Int.add_zero]
          exact e1 u
      · rw [getD_set (by omega), if_neg (by omega)]
        exact e2 u (by omega)
      · have hk : ∀ v, par ps m < v → kV ps (ups.set (m + 1) (x / q)) v ps.length = kV ps ups v ps.length := fun v hv => by
          rw [kV_set (by omega) (by omega), Nat.add_sub_cancel, hp1, if_neg (fun z => by have := Option.some.inj z.2; omega), Int.add_zero]
        rw [hk (j + 1) (by omega), getD_set (by omega)]
        by_cases c : j = m
        · subst c
          rw [if_pos rfl, epw, ← e1, ex]
        · rw [if_neg (by omega)]
          exact e3 j (by omega) h2
    · obtain ⟨_, v4, h, ups, rfl, sh, hf, hu, hlh, hlu, e1, e2, e3⟩ := h
      rw [Nat.sub_self] at e2
      refine ⟨_, rfl, tup_of (.inl (SqL.of hu)) fun q H2 s2 hq => ?_⟩
      exact k q ups H2 (sh.trans s2) hq ⟨hlu, e2 0 (Nat.le_refl _), fun j hj => e3 j (by omega) hj⟩
theorem scTreeMost : FnScope ["tree", "placing", "ups", "node"] ["tree", "placing"] (defScope sTreeMost) := ⟨rfl, rfl, rfl, by decide +kernel, rfl, by decide +kernel, by decide +kernel⟩
theorem ok_TreeMost (T : Txt P w K mg base Ad1 Ad2 Ad3 Ad4 Ad5 Ad6 Ad7 Ad9 Ad10 Ad11 Ad12 Ad13 Ad14 Ad20) : Cd P w K mg base 5 "tree_most" sTreeMost ["tree", "placing"] (spMost Ad6 Ad11 Ad12) := by
  have c_CheckTreeWidth := ok_CheckTreeWidth T
  have c_TreeUps := (ok_TreeUps T).cl
  have m_TreeChildren := (ok_Children T).mt
  refine cd_of T.d_tree_most scTreeMost (fun vs H Q E h => ?_) fun f cdv A outer s H vs Q E hr h => ?_
  · obtain ⟨t, p, ps, qs, ns, rfl, _⟩ := h
    rfl
  · obtain ⟨t, p, ps, qs, ns, rfl, hT, ok, hP, k1, k2⟩ := h
    refine ⟨_, (pss_cons (ps_expr (pe_cX (takes_of rfl rfl rfl rfl) c_CheckTreeWidth hr (by decide) rfl (pa_cons (pv 0) (pa_cons (pv 1) pa_nil))))
  (pss_cons (ps_set (i := 2) scTreeMost.nd rfl (by first | exact Or.inl rfl | exact Or.inr rfl) (pe_cX (takes_of rfl rfl rfl rfl) c_TreeUps hr (by decide) rfl (pa_cons (pv 0) (pa_cons (pv 1) pa_nil))))
  (pss_one (ps_ret (pe_op op_add (pe_ix ix_tup (pe_fld (pv 1) rfl) pe_int (fun _ _ => rfl)) (pe_callB (cr_sum rfl) (by rfl) T.b_sum (by decide +kernel) (pa_cons (pe_lc (own := [(("node" : Str), 3)]) (g := gName 3) (by rfl) scTreeMost.nd (pi_tup (pe_mt m_TreeChildren hr (by decide) (pv 0) (pa_cons pe_int pa_nil))) (blkOk_by (own := [(("node" : Str), 3)]) (N := ["tree", "placing", "ups", "node"]) (sc := defScope sTreeMost) (by decide +kernel)) (fun _ _ _ _ _ => (pg_name (i := 3) scTreeMost.nd rfl (by first | exact Or.inl rfl | exact Or.inr rfl))) (fun _ _ _ _ _ => pts_nil) (fun _ _ _ _ _ => (pe_ix ix_tupB (pv 2) (pv 3) (fun _ _ => rfl)))) pa_nil))))))), ?_⟩
    refine ⟨_, rfl, _, rfl, t, p, ps, qs, ns, rfl, hT, hP, fun hl => ?_, fun hl d hd => k2 hl d hd⟩
    have k := k1 hl
    refine ⟨_, rfl, _, rfl, t, p, ps, qs, ns, rfl, hT, ok, hP, fun _ U ups H1 s1 hU hI => ?_, fun c => absurd hl c⟩
    have hlu := hI.len
    have hT1 := hT.same s1
    obtain ⟨dx, a, b, ht, ha, hb⟩ := hT1
    obtain ⟨dx2, c, hp, hc⟩ := hP.same s1
    have l1 : (treeF (ps.length + 1) a b).lookup ("children" : Str) = none := by walk_at "lk"
    have l4 : (pebF c (ns.length : Nat) ns.sum).lookup ("counts" : Str) = some (V.ref c) := by walk_at "lk"
    obtain ⟨x, hx⟩ : ∃ x, ns[0]? = some x := ⟨_, List.getElem?_eq_getElem (by omega)⟩
    refine ⟨_, rfl, p, Ad12, dx2, _, _, rfl, hp, T.lPebbles, T.nPebbles_counts, l4, c, _, _, _, rfl, rfl, SqT.of hc, at_of (j := 0) rfl (at_ints hx), ?_⟩
    refine ⟨_, rfl, t, dx, _, rfl, ht, l1, t, ps, qs, 0, rfl, ⟨dx, a, b, ht, ha, hb⟩, ok.1, fun _ _ q H2 s2 hq => ?_, fun z => absurd z (by omega)⟩
    refine ⟨q, rfl, ⟨_, SqT.of hq⟩, fun D hD => ?_⟩
    refine lc_tup (K := K) (a := q) (xs := (kids ps 0 ps.length).map V.int) (fun i H' => Same H2 H' ∧ H' D = some (.lst ((((kids ps 0 ps.length).take i).map fun v => ups.getD v.toNat 0).map V.int)))
      ⟨sm0 hD, upd_same⟩ (fun i H' _ z => SqT.of (z.1 _ _ hq)) (fun i x H' hx z => ?_) fun H' z => ?_
    · obtain ⟨sh, hacc⟩ := z
      obtain ⟨v, hv, rfl⟩ := ints_at hx
      have hin := kids_in ps 0 ps.length v (List.mem_of_getElem? hv)
      obtain ⟨y, hy⟩ : ∃ y, ups[v.toNat]? = some y := ⟨_, List.getElem?_eq_getElem (by omega)⟩
      refine ⟨rfl, ?_⟩
      refine ⟨_, rfl, _, rfl, U, _, _, _, rfl, rfl, SqT.of (sh _ _ (s2 _ _ hU)), at_of (j := v.toNat) (by omega) (at_ints hy), _, hacc, ?_, smM sh hD, ?_⟩
      · simp only [List.length_map, List.length_take]
        exact sz_lt (by have := kids_len ps 0 ps.length; have := ok.1; omega)
      · have ey : ups.getD v.toNat 0 = y := by rw [List.getD_eq_getElem?_getD, hy]; rfl
        rw [upd_same, List.take_succ, hv, Option.toList_some, List.map_append, List.map_append]
        show _ = some (HO.lst (_ ++ [V.int (ups.getD v.toNat 0)]))
        rw [ey]
    · obtain ⟨sh, hacc⟩ := z
      rw [List.length_map, List.take_length] at hacc
      refine ⟨D, _, rfl, SqL.of hacc, _, _, rfl, rfl, ?_⟩
      have e2 : ns.getD 0 0 = x := by rw [List.getD_eq_getElem?_getD, hx]; rfl
      have ek : kV ps ups 0 ps.length = ((kids ps 0 ps.length).map fun u => ups.getD u.toNat 0).sum := kV_kids (v := 0) ps.length
      rw [← ek, ← e2]
      exact k ups H' ((s1.trans s2).trans sh) hI
end
end K12
set_option maxRecDepth 100000
set_option maxHeartbeats 4000000
namespace K12
open PySem PySem.Spec PyProof.Rows L2 SI
local macro_rules | `(tactic| walk_at "lk") => `(tactic| first | exact lk_hit | exact lk_nil | (refine lk_next (by decide +kernel) ?_; walk_at "lk"))
/-! the web of a tree -/
def twA (ps qs : List Int) (both : Bool) : Nat → List Ar
  | 0 => []
  | i + 1 => twA ps qs both i ++ ((((i + 1 : Nat) : Int), ps.getD i 0, pw qs (i + 1)) :: if both = true then [(ps.getD i 0, ((i + 1 : Nat) : Int), pw qs (i + 1))] else [])
section
variable {ps qs : List Int} {both : Bool}
theorem twA_len : ∀ i, (twA ps qs both i).length ≤ 2 * i
  | 0 => Nat.le_refl _
  | i + 1 => by
    have := twA_len i
    show (twA ps qs both i ++ _).length ≤ _
    rw [List.length_append, List.length_cons]
    split <;> simp <;> omega
theorem par_i (ok : okT ps qs) {i : Nat} (hi : i < ps.length) : 0 ≤ ps.getD i 0 ∧ ps.getD i 0 ≤ i ∧ 2 ≤ pw qs (i + 1) ∧ pw qs (i + 1) ≤ 31 := by
  obtain ⟨p, hp⟩ : ∃ p, ps[i]? = some p := ⟨_, List.getElem?_eq_getElem hi⟩
  have h1 := ok.par i p hp
  have h2 := pw_ok ok (u := i + 1) (by omega) (by omega)
  rw [List.getD_eq_getElem?_getD, hp]
  exact ⟨h1.1, h1.2, h2.1, h2.2⟩
theorem twA_ok (ok : okT ps qs) : ∀ i, i ≤ ps.length → ∀ a ∈ twA ps qs both i, okA ((ps.length : Int) + 1) a ∧ a.1 ≤ i ∧ a.2.1 ≤ i
  | 0, _, a, h => by cases h
  | i + 1, hi, a, h => by
    have hp := par_i ok (i := i) (by omega)
    have h' : a ∈ twA ps qs both i ++ ((((i + 1 : Nat) : Int), ps.getD i 0, pw qs (i + 1)) :: if both = true then [(ps.getD i 0, ((i + 1 : Nat) : Int), pw qs (i + 1))] else []) := h
    rcases List.mem_append.mp h' with h | h
    · have := twA_ok ok i (by omega) a h
      exact ⟨this.1, by omega, by omega⟩
    · rcases List.mem_cons.mp h with rfl | h
      · exact ⟨⟨by show (0 : Int) ≤ ((i + 1 : Nat) : Int); omega, by show ((i + 1 : Nat) : Int) < _; omega, hp.1, by show ps.getD i 0 < _; omega, by show ((i + 1 : Nat) : Int) ≠ ps.getD i 0; omega, hp.2.2.1, hp.2.2.2⟩, Int.le_refl _, by show ps.getD i 0 ≤ _; omega⟩
      · cases both with
        | false => cases h
        | true =>
          have h : a ∈ [(ps.getD i 0, ((i + 1 : Nat) : Int), pw qs (i + 1))] := h
          rw [List.mem_singleton] at h
          subst h
          exact ⟨⟨hp.1, by show ps.getD i 0 < _; omega, by show (0 : Int) ≤ ((i + 1 : Nat) : Int); omega, by show ((i + 1 : Nat) : Int) < _; omega, by show ps.getD i 0 ≠ ((i + 1 : Nat) : Int); omega, hp.2.2.1, hp.2.2.2⟩, by show ps.getD i 0 ≤ _; omega, Int.le_refl _⟩
theorem twA_key (ok : okT ps qs) : ∀ i, i ≤ ps.length → (twA ps qs both i).Pairwise fun a b => ¬ (a.1 = b.1 ∧ a.2.1 = b.2.1)
  | 0, _ => .nil
  | i + 1, hi => by
    have hp := par_i ok (i := i) (by omega)
    have old := fun a ha => twA_ok (both := both) ok i (by omega) a ha
    show (twA ps qs both i ++ ((((i + 1 : Nat) : Int), ps.getD i 0, pw qs (i + 1)) :: if both = true then [(ps.getD i 0, ((i + 1 : Nat) : Int), pw qs (i + 1))] else [])).Pairwise _
    refine List.pairwise_append.mpr ⟨twA_key ok i (by omega), ?_, fun a ha b hb => ?_⟩
    · refine List.pairwise_cons.mpr ⟨fun b hb => ?_, ?_⟩
      · cases both with
        | false => cases hb
        | true =>
          have hb : b ∈ [(ps.getD i 0, ((i + 1 : Nat) : Int), pw qs (i + 1))] := hb
          rw [List.mem_singleton] at hb
          subst hb
          exact fun z => by have z1 : ((i + 1 : Nat) : Int) = ps.getD i 0 := z.1; omega
      · cases both with
        | false => exact .nil
        | true => exact List.pairwise_singleton _ _
    · have ha := old a ha
      rcases List.mem_cons.mp hb with rfl | hb
      · exact fun z => by have z1 : a.1 = ((i + 1 : Nat) : Int) := z.1; omega
      · cases both with
        | false => cases hb
        | true =>
          have hb : b ∈ [(ps.getD i 0, ((i + 1 : Nat) : Int), pw qs (i + 1))] := hb
          rw [List.mem_singleton] at hb
          subst hb
          exact fun z => by have z1 : a.2.1 = ((i + 1 : Nat) : Int) := z.2; omega
theorem tw_okW (ok : okT ps qs) : okW ((ps.length : Int) + 1) (twA ps qs both ps.length) :=
  ⟨by omega, by have := ok.1; omega, by have := twA_len (ps := ps) (qs := qs) (both := both) ps.length; have := ok.1; omega, fun a ha => (twA_ok ok _ (Nat.le_refl _) a ha).1, twA_key ok _ (Nat.le_refl _)⟩
end
def flowR (ups : List Int) (as : List Ar) : List Int := as.map fun a => if a.2.1 < a.1 then ups.getD a.1.toNat 0 else 0
def pay1 (es : List Int) (a : Ar) (c : Int) : List Int := (es.set a.1.toNat (es.getD a.1.toNat 0 - a.2.2 * c)).set a.2.1.toNat ((es.set a.1.toNat (es.getD a.1.toNat 0 - a.2.2 * c)).getD a.2.1.toNat 0 + c)
def aftN (as : List Ar) (cs es : List Int) : Nat → List Int
  | 0 => es
  | k + 1 => match as[k]?, cs[k]? with
    | some a, some c => if 0 < c then pay1 (aftN as cs es k) a c else aftN as cs es k
    | _, _ => aftN as cs es k
theorem pay1_len {es : List Int} {a : Ar} {c : Int} : (pay1 es a c).length = es.length := by unfold pay1; rw [List.length_set, List.length_set]
theorem aftN_len {as : List Ar} {cs es : List Int} : ∀ k, (aftN as cs es k).length = es.length
  | 0 => rfl
  | k + 1 => by
    have ih := aftN_len (as := as) (cs := cs) (es := es) k
    show (match as[k]?, cs[k]? with | some a, some c => if 0 < c then pay1 (aftN as cs es k) a c else aftN as cs es k | _, _ => aftN as cs es k).length = _
    split
    · split
      · rw [pay1_len, ih]
      · exact ih
    · exact ih
def spMv (C : Addr) : Sp := fun vs H Q _ => ∃ (w : Addr) (n : Int) (as : List Ar) (k : Int), vs = [.ref w, .int k] ∧ WebAt C H w n as ∧ 0 ≤ k ∧ k < as.length ∧ Q .non H
def spTaken (C : Addr) : Sp := fun vs H Q _ => ∃ (w : Addr) (n : Int) (as : List Ar) (i : Nat) (a : Ar), vs = [.ref w, .int (i : Nat)] ∧ WebAt C H w n as ∧ as[i]? = some a ∧ ∀ r r', H r = some (.tup [.ref r']) → H r' = some (.tup [.int a.1, .int a.2.2]) → Q (.ref r) H
def spHead (C : Addr) : Sp := fun vs H Q _ => ∃ (w : Addr) (n : Int) (as : List Ar) (i : Nat) (a : Ar), vs = [.ref w, .int (i : Nat)] ∧ WebAt C H w n as ∧ as[i]? = some a ∧ Q (.int a.2.1) H
def spPay (C : Addr) : Sp := fun vs H Q _ => ∃ (w e : Addr) (n : Int) (as : List Ar) (i : Nat) (a : Ar) (es : List Int) (c : Int), vs = [.ref w, .ref e, .int (i : Nat), .int c] ∧ WebAt C H w n as ∧ as[i]? = some a ∧ okA (es.length : Nat) a ∧ 0 ≤ c ∧ c ≤ 10 ^ 120 ∧ H e = some (.lst (es.map V.int)) ∧
  ∀ H', But e H H' → H' e = some (.lst ((pay1 es a c).map V.int)) → Q .non H'
def spBal (C C2 C3 : Addr) : Sp := fun vs H Q _ => ∃ (w p f : Addr) (as : List Ar) (ns cs : List Int), vs = [.ref w, .ref p, .ref f] ∧ WebAt C H w (ns.length : Nat) as ∧ PebAt C2 H p ns ∧ FlowAt C3 H f cs ∧ cs.length = as.length ∧ Q .non H
def spCw (C C2 : Addr) : Sp := fun vs H Q _ => ∃ (w p : Addr) (as : List Ar) (ns : List Int), vs = [.ref w, .ref p] ∧ WebAt C H w (ns.length : Nat) as ∧ PebAt C2 H p ns ∧ Q .non H
def spCf (C C3 : Addr) : Sp := fun vs H Q _ => ∃ (w f : Addr) (n : Int) (as : List Ar) (cs : List Int), vs = [.ref w, .ref f] ∧ WebAt C H w n as ∧ FlowAt C3 H f cs ∧ cs.length = as.length ∧ Q .non H
def spAfter (K : PySem.W.Frag) (C C2 C3 : Addr) : Sp := fun vs H Q _ => ∃ (w p f : Addr) (as : List Ar) (ns cs : List Int), vs = [.ref w, .ref p, .ref f] ∧ WebAt C H w (ns.length : Nat) as ∧ (∀ a ∈ as, okA (ns.length : Nat) a) ∧ PebAt C2 H p ns ∧ FlowAt C3 H f cs ∧ cs.length = as.length ∧ okEs cs ∧ ns.length ≤ 64 ∧
  ∀ q H', Same H H' → H' q = some (.tup ((aftN as cs ns as.length).map V.int)) → Q (.ref q) H'
def spTWeb (C C4 : Addr) : Sp := fun vs H Q _ => ∃ (t : Addr) (ps qs : List Int) (both : Bool), vs = [.ref t, .bl both] ∧ TreeAt C H t ps qs ∧ okT ps qs ∧ ∀ q H', Same H H' → WebAt C4 H' q ((ps.length : Int) + 1) (srtA (twA ps qs both ps.length)) → Q (.ref q) H'
def spFl (K : PySem.W.Frag) (C3 C6 C CF : Addr) : Sp := fun vs H Q E => ∃ (t u : Addr) (ps qs ups : List Int) (both : Bool), vs = [.ref t, .ref u, .bl both] ∧ TreeAt C H t ps qs ∧ okT ps qs ∧ RowR K H u ups ∧
  (ups.length = ps.length + 1 → (okEs (flowR ups (srtA (twA ps qs both ps.length))) → ∀ q H', Same H H' → FlowAt CF H' q (flowR ups (srtA (twA ps qs both ps.length))) → Q (.ref q) H') ∧
    ∀ i, badE (flowR ups (srtA (twA ps qs both ps.length))) i → ∀ d H', Same H H' → H' d = none → E (.ref C3) (some d) (upd H' d (.xd [("at", .int (i : Nat))]))) ∧
  (ups.length ≠ ps.length + 1 → errW C6 H E (ups.length : Nat) ((ps.length : Int) + 1))
theorem ixR {K : PySem.W.Frag} {H : Hp} {u : Addr} {ups : List Int} {i : Int} {j : Nat} {z : Int} {Q : VK} (h : RowR K H u ups) (e : i = (j : Int)) (hz : ups[j]? = some z) (q : Q (.int z) H) : rIx K (.ref u) (.int i) H Q := by
  rcases h with h | h
  · exact .inl ⟨u, _, _, _, rfl, rfl, h, at_of e (at_ints hz), q⟩
  · exact .inr (.inl ⟨u, _, _, _, rfl, rfl, SqT.of h, at_of e (at_ints hz), q⟩)
section
variable {P : Program} {w : World} {K : PySem.W.Frag} {mg : Str → Option Value} {base : Heap} {Ad1 Ad2 Ad3 Ad4 Ad5 Ad6 Ad7 Ad9 Ad10 Ad11 Ad12 Ad13 Ad14 Ad20 : Addr}
theorem scCheckMove : FnScope ["web", "k"] ["web", "k"] (defScope sCheckMove) := ⟨rfl, rfl, rfl, by decide +kernel, rfl, by decide +kernel, by decide +kernel⟩
theorem ok_CheckMove (T : Txt P w K mg base Ad1 Ad2 Ad3 Ad4 Ad5 Ad6 Ad7 Ad9 Ad10 Ad11 Ad12 Ad13 Ad14 Ad20) : Cl P w K mg base 1 "check_move" (spMv Ad14) [] := by
  refine cl_of T.d_check_move scCheckMove (fun vs H Q E h => ?_) fun f cdv A outer s H vs Q E hr h => ?_
  · obtain ⟨w, n, as, k, rfl, _⟩ := h
    rfl
  · obtain ⟨w, n, as, i, rfl, hW, h0, h1, k⟩ := h
    refine ⟨_, (pss_one (ps_if (PW.pt (pw_or (pt_cmpR op_lt (pv 1) pe_int (nomark _)) (pw_or1 (pt_cmpR op_ge (pv 1) (pe_fld (pv 0) rfl) (nomark _)))))
    (pss_one ps_never)
    pss_nil)), ?_⟩
    obtain ⟨dx, A1, Bp, Bu, He, Nu, bs, cs, hw, _⟩ := hW
    have l1 : (webF n A1 Bp (as.length : Nat) Bu He Nu).lookup ("move_count" : Str) = some (V.int (as.length : Nat)) := by walk_at "lk"
    refine ⟨_, rfl, _, _, rfl, rfl, _, rfl, ifD (fun c => absurd c (by omega)) fun _ => ?_⟩
    refine ⟨_, rfl, _, rfl, w, Ad14, dx, _, _, rfl, hw, T.lWeb, T.nWeb_move_count, l1, _, _, rfl, rfl, _, rfl, ifD (fun c => absurd c (by omega)) fun _ => ?_⟩
    exact k
theorem scWebTaken : FnScope ["self", "k"] ["self", "k"] (defScope sWebTaken) := ⟨rfl, rfl, rfl, by decide +kernel, rfl, by decide +kernel, by decide +kernel⟩
theorem ok_Taken (T : Txt P w K mg base Ad1 Ad2 Ad3 Ad4 Ad5 Ad6 Ad7 Ad9 Ad10 Ad11 Ad12 Ad13 Ad14 Ad20) : Mt P w K mg base 2 Ad14 "taken" (spTaken Ad14) [] := by
  have c_CheckMove := ok_CheckMove T
  refine mt_of T.d_Web_taken scWebTaken (fun vs H Q E h => ?_) fun f cdv A outer s H vs Q E hr h => ?_
  · obtain ⟨w, n, as, i, a, rfl, _⟩ := h
    rfl
  · obtain ⟨w, n, as, i, a, rfl, hW, ha, k⟩ := h
    refine ⟨_, (pss_cons (ps_expr (pe_c c_CheckMove hr (by decide) rfl (pa_cons (pv 0) (pa_cons (pv 1) pa_nil))))
  (pss_one (ps_ret (pe_ix ix_tup (pe_fld (pv 0) rfl) (pv 1) (fun _ _ => rfl))))), ?_⟩
    have hi := (List.getElem?_eq_some_iff.mp ha).1
    refine ⟨_, rfl, _, rfl, w, n, as, _, rfl, hW, by omega, by omega, ?_⟩
    obtain ⟨dx, A1, Bp, Bu, He, Nu, bs, cs, hw, hA, h3, he, hB, hU, hV, _⟩ := hW
    have l1 : (webF n A1 Bp (as.length : Nat) Bu He Nu).lookup ("_bundles" : Str) = some (V.ref Bu) := by walk_at "lk"
    obtain ⟨c, hc⟩ : ∃ c, cs[i]? = some c := ⟨_, List.getElem?_eq_getElem (by have := hV.1; omega)⟩
    obtain ⟨r, r', rfl, h1, h2⟩ := hV.2 i c a hc ha
    exact ⟨_, rfl, w, Ad14, dx, _, _, rfl, hw, T.lWeb, T.nWeb__bundles, l1, _, rfl, Bu, _, _, _, rfl, rfl, SqT.of hU, atI_nat hc, k r r' h1 h2⟩
theorem scWebHead : FnScope ["self", "k"] ["self", "k"] (defScope sWebHead) := ⟨rfl, rfl, rfl, by decide +kernel, rfl, by decide +kernel, by decide +kernel⟩
theorem ok_Head (T : Txt P w K mg base Ad1 Ad2 Ad3 Ad4 Ad5 Ad6 Ad7 Ad9 Ad10 Ad11 Ad12 Ad13 Ad14 Ad20) : Mt P w K mg base 2 Ad14 "head" (spHead Ad14) [] := by
  have c_CheckMove := ok_CheckMove T
  refine mt_of T.d_Web_head scWebHead (fun vs H Q E h => ?_) fun f cdv A outer s H vs Q E hr h => ?_
  · obtain ⟨w, n, as, i, a, rfl, _⟩ := h
    rfl
  · obtain ⟨w, n, as, i, a, rfl, hW, ha, k⟩ := h
    refine ⟨_, (pss_cons (ps_expr (pe_c c_CheckMove hr (by decide) rfl (pa_cons (pv 0) (pa_cons (pv 1) pa_nil))))
  (pss_one (ps_ret (pe_ix ix_tup (pe_fld (pv 0) rfl) (pv 1) (fun _ _ => rfl))))), ?_⟩
    have hi := (List.getElem?_eq_some_iff.mp ha).1
    refine ⟨_, rfl, _, rfl, w, n, as, _, rfl, hW, by omega, by omega, ?_⟩
    obtain ⟨dx, A1, Bp, Bu, He, Nu, bs, cs, hw, hA, h3, he, hB, hU, hV, hH, _⟩ := hW
    have l1 : (webF n A1 Bp (as.length : Nat) Bu He Nu).lookup ("_heads" : Str) = some (V.ref He) := by walk_at "lk"
    exact ⟨_, rfl, w, Ad14, dx, _, _, rfl, hw, T.lWeb, T.nWeb__heads, l1, _, rfl, He, _, _, _, rfl, rfl, SqT.of hH, atI_nat (by rw [List.getElem?_map, ha]; rfl), k⟩
theorem scPayMove : FnScope ["web", "entries", "k", "count", "node", "many"] ["web", "entries", "k", "count"] (defScope sPayMove) := ⟨rfl, rfl, rfl, by decide +kernel, rfl, by decide +kernel, by decide +kernel⟩
theorem ok_PayMove (T : Txt P w K mg base Ad1 Ad2 Ad3 Ad4 Ad5 Ad6 Ad7 Ad9 Ad10 Ad11 Ad12 Ad13 Ad14 Ad20) : Cl P w K mg base 3 "pay_move" (spPay Ad14) [] := by
  have m_WebTaken := ok_Taken T
  have m_WebHead := ok_Head T
  refine cl_of T.d_pay_move scPayMove (fun vs H Q E h => ?_) fun f cdv A outer s H vs Q E hr h => ?_
  · obtain ⟨w, e, n, as, i, a, es, c, rfl, _⟩ := h
    rfl
  · obtain ⟨w, e, n, as, i, ⟨t, hd, p⟩, es, c, rfl, hW, ha, ⟨t0, t1, d0, d1, _, p0, p1⟩, c0, c1, he, k⟩ := h
    dsimp only at t0 t1 d0 d1 p0 p1
    obtain ⟨tn, rfl⟩ : ∃ tn : Nat, t = (tn : Int) := ⟨t.toNat, by omega⟩
    obtain ⟨hn, rfl⟩ : ∃ tn : Nat, hd = (tn : Int) := ⟨hd.toNat, by omega⟩
    refine ⟨_, (pss_cons (ps_for (passes_of rfl) rfl (pi_tup (pe_mt m_WebTaken hr (by decide) (pv 0) (pa_cons (pv 2) pa_nil))) (pg_tup rfl (pgs_cons (pg_name (i := 4) scPayMove.nd rfl (by first | exact Or.inl rfl | exact Or.inr rfl)) (pgs_cons (pg_name (i := 5) scPayMove.nd rfl (by first | exact Or.inl rfl | exact Or.inr rfl)) pgs_nil)))
    (pss_one (ps_augS (pv 1) (pv 4) get_list (pe_op op_mulW (pv 5) (pv 3)) ip_sub set_list)))
  (pss_one (ps_augS (pv 1) (pe_mt m_WebHead hr (by decide) (pv 0) (pa_cons (pv 2) pa_nil)) get_list (pv 3) ip_add set_list))), ?_⟩
    have hW0 := hW
    obtain ⟨dx, A1, Bp, Bu, He, Nu, bs, cs, hw, _⟩ := hW0
    have l1 : (webF n A1 Bp (as.length : Nat) Bu He Nu).lookup ("taken" : Str) = none := by walk_at "lk"
    have l2 : (webF n A1 Bp (as.length : Nat) Bu He Nu).lookup ("head" : Str) = none := by walk_at "lk"
    obtain ⟨x, hx⟩ : ∃ x, es[tn]? = some x := ⟨_, List.getElem?_eq_getElem (by omega)⟩
    refine ⟨_, rfl, w, dx, _, rfl, hw, l1, _, rfl, w, n, as, i, _, rfl, hW, ha, fun r r' hr1 hr2 => ?_⟩
    have hup : ∀ o, But e H (upd H e o) := fun o => But.upd
    refine ⟨r, rfl, ⟨_, SqT.of hr1⟩, for_tup (K := K) (a := r) (xs := [.ref r']) (fun j σ H' => ∃ v4 v5 : Option V, σ = [some (.ref w), some (.ref e), some (.int (i : Nat)), some (.int c), v4, v5] ∧ H' = if j = 0 then H else upd H e (.lst ((es.set tn (x - p * c)).map V.int)))
      ⟨none, none, rfl, rfl⟩ (fun j σ H' _ h => ?_) (fun j y σ H' hy h => ?_) fun σ H' h => ?_⟩
    · obtain ⟨_, _, _, rfl⟩ := h
      split
      · exact SqT.of hr1
      · exact SqT.of (by rw [upd_ne (ne_of hr1 he (by intro z; cases z))]; exact hr1)
    · obtain ⟨v4, v5, rfl, rfl⟩ := h
      cases j with
      | succ j => simp at hy
      | zero =>
        cases hy
        rw [if_pos rfl]
        refine ⟨r', _, rfl, .inl (.inl hr2), rfl, _, _, rfl, _, _, rfl, rfl, ?_⟩
        refine ⟨_, rfl, _, rfl, e, _, _, _, rfl, rfl, by show (0 : Int) ≤ ((tn : Nat) : Int); omega, SqL.of he, atI_nat (at_ints hx), ?_⟩
        refine ⟨_, rfl, _, rfl, _, _, rfl, rfl, cmul_small (abs_small (by show -(10 ^ 200) ≤ p; omega) (by show p ≤ 10 ^ 200; omega)) (abs_small (by omega) (by omega)), _, _, rfl, rfl, e, _, _, tn, rfl, rfl, he, ixN_of rfl (by rw [List.length_map]; omega), ?_⟩
        refine ⟨some (.int (tn : Nat)), some (.int p), rfl, ?_⟩
        rw [if_neg (by omega), List.map_set]
    · obtain ⟨v4, v5, rfl, rfl⟩ := h
      rw [if_neg (by simp)]
      have he2 : upd H e (.lst ((es.set tn (x - p * c)).map V.int)) e = some (.lst ((es.set tn (x - p * c)).map V.int)) := upd_same
      have hW2 : WebAt Ad14 (upd H e (.lst ((es.set tn (x - p * c)).map V.int))) w n as := hW.keep fun b o io eo => by
        rw [upd_ne (ne_of eo he (by rcases io with ⟨_, rfl⟩ | ⟨_, _, _, rfl⟩ | ⟨_, rfl⟩ <;> (intro z; cases z)))]; exact eo
      have hw2 : upd H e (.lst ((es.set tn (x - p * c)).map V.int)) w = some (.ins Ad14 dx (webF n A1 Bp (as.length : Nat) Bu He Nu)) := by rw [upd_ne (ne_of hw he (by intro z; cases z))]; exact hw
      obtain ⟨y, hy⟩ : ∃ y, (es.set tn (x - p * c))[hn]? = some y := ⟨_, List.getElem?_eq_getElem (by rw [List.length_set]; omega)⟩
      refine ⟨_, rfl, _, rfl, w, dx, _, rfl, hw2, l2, _, rfl, w, n, as, i, _, rfl, hW2, ha, ?_⟩
      refine ⟨e, _, _, _, rfl, rfl, by show (0 : Int) ≤ ((hn : Nat) : Int); omega, SqL.of he2, atI_nat (at_ints hy), _, rfl, _, _, rfl, rfl, e, _, _, hn, rfl, rfl, he2, ixN_of rfl (by rw [List.length_map, List.length_set]; omega), ?_⟩
      refine k _ ?_ ?_
      · intro b o nb eo
        rw [upd_ne nb, upd_ne nb]
        exact eo
      · rw [upd_same]
        unfold pay1
        have e1 : es.getD tn 0 = x := by rw [List.getD_eq_getElem?_getD, hx]; rfl
        have e2 : (es.set tn (x - p * c)).getD hn 0 = y := by rw [List.getD_eq_getElem?_getD, hy]; rfl
        show _ = some (HO.lst ((((es.set (tn : Int).toNat (es.getD (tn : Int).toNat 0 - p * c)).set (hn : Int).toNat ((es.set (tn : Int).toNat (es.getD (tn : Int).toNat 0 - p * c)).getD (hn : Int).toNat 0 + c))).map V.int))
        rw [Int.toNat_natCast, Int.toNat_natCast, e1, e2]
        simp only [List.map_set]
end
end K12
set_option maxRecDepth 100000
set_option maxHeartbeats 4000000
namespace K12
open PySem PySem.Spec PyProof.Rows L2 SI
local macro_rules | `(tactic| walk_at "lk") => `(tactic| first | exact lk_hit | exact lk_nil | (refine lk_next (by decide +kernel) ?_; walk_at "lk"))
section
variable {P : Program} {w : World} {K : PySem.W.Frag} {mg : Str → Option Value} {base : Heap} {Ad1 Ad2 Ad3 Ad4 Ad5 Ad6 Ad7 Ad9 Ad10 Ad11 Ad12 Ad13 Ad14 Ad20 : Addr}
theorem scCheckWidth : FnScope ["web", "placing"] ["web", "placing"] (defScope sCheckWidth) := ⟨rfl, rfl, rfl, by decide +kernel, rfl, by decide +kernel, by decide +kernel⟩
theorem ok_CheckWidth (T : Txt P w K mg base Ad1 Ad2 Ad3 Ad4 Ad5 Ad6 Ad7 Ad9 Ad10 Ad11 Ad12 Ad13 Ad14 Ad20) : Cl P w K mg base 1 "check_width" (spCw Ad14 Ad12) [] := by
  refine cl_of T.d_check_width scCheckWidth (fun vs H Q E h => ?_) fun f cdv A outer s H vs Q E hr h => ?_
  · obtain ⟨w, p, as, ns, rfl, _⟩ := h
    rfl
  · obtain ⟨w, p, as, ns, rfl, ⟨dx, A1, Bp, Bu, He, Nu, bs, cs, hw, _⟩, ⟨dx2, c, hp, hc⟩, k⟩ := h
    refine ⟨_, (pss_one (ps_if (pt_cmpR op_ne (pe_fld (pv 1) rfl) (pe_fld (pv 0) rfl) (nomark _))
    (pss_one ps_never)
    pss_nil)), ?_⟩
    have l1 : (webF (ns.length : Nat) A1 Bp (as.length : Nat) Bu He Nu).lookup ("nodes" : Str) = some (V.int (ns.length : Nat)) := by walk_at "lk"
    have l2 : (pebF c (ns.length : Nat) ns.sum).lookup ("nodes" : Str) = some (V.int (ns.length : Nat)) := by walk_at "lk"
    exact ⟨_, rfl, p, Ad12, dx2, _, _, rfl, hp, T.lPebbles, T.nPebbles_nodes, l2, _, rfl, w, Ad14, dx, _, _, rfl, hw, T.lWeb, T.nWeb_nodes, l1, rfl, _, rfl, ifIN (fun z => absurd rfl z) fun _ => k⟩
theorem scCheckFlow : FnScope ["web", "flow"] ["web", "flow"] (defScope sCheckFlow) := ⟨rfl, rfl, rfl, by decide +kernel, rfl, by decide +kernel, by decide +kernel⟩
theorem ok_CheckFlow (T : Txt P w K mg base Ad1 Ad2 Ad3 Ad4 Ad5 Ad6 Ad7 Ad9 Ad10 Ad11 Ad12 Ad13 Ad14 Ad20) : Cl P w K mg base 1 "check_flow" (spCf Ad14 Ad13) [] := by
  refine cl_of T.d_check_flow scCheckFlow (fun vs H Q E h => ?_) fun f cdv A outer s H vs Q E hr h => ?_
  · obtain ⟨w, f, n, as, cs, rfl, _⟩ := h
    rfl
  · obtain ⟨w, fl, n, as, cs, rfl, ⟨dx, A1, Bp, Bu, He, Nu, bs, cc, hw, _⟩, ⟨dx2, c, hp, hc⟩, hl, k⟩ := h
    refine ⟨_, (pss_one (ps_if (pt_cmpR op_ne (pe_callB call_len_seq (by rfl) T.b_len (by decide +kernel) (pa_cons (pe_fld (pv 1) rfl) pa_nil)) (pe_fld (pv 0) rfl) (nomark _))
    (pss_one ps_never)
    pss_nil)), ?_⟩
    have l1 : (webF n A1 Bp (as.length : Nat) Bu He Nu).lookup ("move_count" : Str) = some (V.int (as.length : Nat)) := by walk_at "lk"
    have l2 : (flowF c cs.sum).lookup ("counts" : Str) = some (V.ref c) := by walk_at "lk"
    exact ⟨_, rfl, fl, Ad13, dx2, _, _, rfl, hp, T.lFlow, T.nFlow_counts, l2, c, _, rfl, .inr (SqT.of hc), _, rfl, w, Ad14, dx, _, _, rfl, hw, T.lWeb, T.nWeb_move_count, l1, rfl, _, rfl, ifIN (fun z => absurd (by rw [List.length_map, hl]) z) fun _ => k⟩
theorem scCheckBalance : FnScope ["web", "placing", "flow"] ["web", "placing", "flow"] (defScope sCheckBalance) := ⟨rfl, rfl, rfl, by decide +kernel, rfl, by decide +kernel, by decide +kernel⟩
theorem ok_CheckBalance (T : Txt P w K mg base Ad1 Ad2 Ad3 Ad4 Ad5 Ad6 Ad7 Ad9 Ad10 Ad11 Ad12 Ad13 Ad14 Ad20) : Cl P w K mg base 2 "check_balance" (spBal Ad14 Ad12 Ad13) [] := by
  have c_CheckWidth := ok_CheckWidth T
  have c_CheckFlow := ok_CheckFlow T
  refine cl_of T.d_check_balance scCheckBalance (fun vs H Q E h => ?_) fun f cdv A outer s H vs Q E hr h => ?_
  · obtain ⟨w, p, f, as, ns, cs, rfl, _⟩ := h
    rfl
  · obtain ⟨w, p, fl, as, ns, cs, rfl, hW, hP, hF, hl, k⟩ := h
    refine ⟨_, (pss_cons (ps_expr (pe_c c_CheckWidth hr (by decide) rfl (pa_cons (pv 0) (pa_cons (pv 1) pa_nil))))
  (pss_one (ps_expr (pe_c c_CheckFlow hr (by decide) rfl (pa_cons (pv 0) (pa_cons (pv 2) pa_nil)))))), ?_⟩
    exact ⟨_, rfl, _, rfl, w, p, as, ns, rfl, hW, hP, _, rfl, _, rfl, w, fl, _, as, cs, rfl, hW, hF, hl, k⟩
theorem scAfter : FnScope ["web", "placing", "flow", "entries", "k", "count"] ["web", "placing", "flow"] (defScope sAfter) := ⟨rfl, rfl, rfl, by decide +kernel, rfl, by decide +kernel, by decide +kernel⟩
theorem ok_After (T : Txt P w K mg base Ad1 Ad2 Ad3 Ad4 Ad5 Ad6 Ad7 Ad9 Ad10 Ad11 Ad12 Ad13 Ad14 Ad20) : Cl P w K mg base 4 "after" (spAfter K Ad14 Ad12 Ad13) [] := by
  have c_CheckBalance := ok_CheckBalance T
  have c_PayMove := ok_PayMove T
  refine cl_of T.d_after scAfter (fun vs H Q E h => ?_) fun f cdv A outer s H vs Q E hr h => ?_
  · obtain ⟨w, p, f, as, ns, cs, rfl, _⟩ := h
    rfl
  · obtain ⟨w, p, fl, as, ns, cs, rfl, hW, hA, hP, hF, hl, hcs, h64, k⟩ := h
    refine ⟨_, (pss_cons (ps_expr (pe_c c_CheckBalance hr (by decide) rfl (pa_cons (pv 0) (pa_cons (pv 1) (pa_cons (pv 2) pa_nil)))))
  (pss_cons (ps_set (i := 3) scAfter.nd rfl (by first | exact Or.inl rfl | exact Or.inr rfl) (pe_callTy call_list_of (by rfl) T.b_list (by decide +kernel) (pa_cons (pe_fld (pv 1) rfl) pa_nil)))
  (pss_cons (ps_for (passes_of rfl) rfl (pi_enumT (by rfl) T.b_enumerate (pa_cons (pe_fld (pv 2) rfl) pa_nil)) (pg_tup rfl (pgs_cons (pg_name (i := 4) scAfter.nd rfl (by first | exact Or.inl rfl | exact Or.inr rfl)) (pgs_cons (pg_name (i := 5) scAfter.nd rfl (by first | exact Or.inl rfl | exact Or.inr rfl)) pgs_nil)))
    (pss_one (ps_if (pt_cmpR op_gt (pv 5) pe_int (nomark _))
      (pss_one (ps_expr (pe_c c_PayMove hr (by decide) rfl (pa_cons (pv 0) (pa_cons (pv 3) (pa_cons (pv 4) (pa_cons (pv 5) pa_nil)))))))
      pss_nil)))
  (pss_one (ps_ret (pe_callTy call_tupR (by rfl) T.b_tuple (by decide +kernel) (pa_cons (pv 3) pa_nil))))))), ?_⟩
    refine ⟨_, rfl, _, rfl, _, rfl, w, p, fl, as, ns, cs, rfl, hW, hP, hF, hl, ?_⟩
    obtain ⟨dx2, c, hp, hc⟩ := hP
    obtain ⟨dx3, cf, hf, hcf⟩ := hF
    have l2 : (pebF c (ns.length : Nat) ns.sum).lookup ("counts" : Str) = some (V.ref c) := by walk_at "lk"
    have l3 : (flowF cf cs.sum).lookup ("counts" : Str) = some (V.ref cf) := by walk_at "lk"
    refine ⟨_, rfl, p, Ad12, dx2, _, _, rfl, hp, T.lPebbles, T.nPebbles_counts, l2, c, _, rfl, .inr (SqT.of hc), fun e he => ?_⟩
    have s1 : Same H (upd H e (.lst (ns.map V.int))) := sm0 he
    have he1 : upd H e (.lst (ns.map V.int)) e = some (.lst (ns.map V.int)) := upd_same
    generalize upd H e (.lst (ns.map V.int)) = H1 at s1 he1 ⊢
    refine ⟨_, rfl, fl, Ad13, dx3, _, _, rfl, s1 _ _ hf, T.lFlow, T.nFlow_counts, l3, cf, _, rfl, SqT.of (s1 _ _ hcf), for_enumT (K := K) (a := cf) (xs := cs.map V.int) (fun i σ H' => ∃ v4 v5 : Option V, σ = [some (.ref w), some (.ref p), some (.ref fl), some (.ref e), v4, v5] ∧ Same H H' ∧ H' e = some (.lst ((aftN as cs ns i).map V.int)))
      ⟨none, none, rfl, s1, he1⟩ (fun i σ H' h => by obtain ⟨_, _, _, sh, _⟩ := h; exact SqT.of (sh _ _ hcf)) (fun i x Tq σ H' hx h hT => ?_) fun σ H' h => ?_⟩
    · obtain ⟨v4, v5, rfl, sh, hE⟩ := h
      obtain ⟨z, hz, rfl⟩ := ints_at hx
      have hi := (List.getElem?_eq_some_iff.mp hz).1
      obtain ⟨a, ha⟩ : ∃ a, as[i]? = some a := ⟨_, List.getElem?_eq_getElem (by omega)⟩
      have hz1 := hcs z (List.mem_of_getElem? hz)
      have hE2 := atN (q := Tq) (o := .tup [.int (i : Nat), .int z]) hE hT
      have st := smN (o := .tup [.int (i : Nat), .int z]) sh hT
      have en : aftN as cs ns (i + 1) = if 0 < z then pay1 (aftN as cs ns i) a z else aftN as cs ns i := by
        show (match as[i]?, cs[i]? with | some a, some c => if 0 < c then pay1 (aftN as cs ns i) a c else aftN as cs ns i | _, _ => aftN as cs ns i) = _
        rw [ha, hz]
      refine ⟨Tq, _, rfl, .inl (.inl upd_same), rfl, _, _, rfl, _, _, rfl, rfl, ?_⟩
      refine ⟨_, rfl, _, _, rfl, rfl, _, rfl, ifD (fun c => ?_) fun c => ?_⟩
      · refine ⟨_, rfl, _, rfl, _, rfl, _, rfl, w, e, _, as, i, a, aftN as cs ns i, z, rfl, hW.same st, ha, by rw [aftN_len]; exact hA a (List.mem_of_getElem? ha), hz1.1, hz1.2, hE2, fun H3 b3 h3 => ?_⟩
        refine ⟨_, _, rfl, fun b o eo => ?_, ?_⟩
        · have nb : b ≠ e := ne_of_none eo he
          exact b3 b o nb (st b o eo)
        · rw [en, if_pos c]
          exact h3
      · refine ⟨_, _, rfl, st, ?_⟩
        rw [en, if_neg c]
        exact hE2
    · obtain ⟨v4, v5, rfl, sh, hE⟩ := h
      rw [List.length_map, hl] at hE
      refine ⟨_, rfl, tup_of (.inl (SqL.of hE)) fun q H2 s2 hq => ?_⟩
      exact k q H2 (sh.trans s2) hq
theorem scTreeWeb : FnScope ["tree", "both", "arrows", "at", "parent", "price"] ["tree", "both"] (defScope sTreeWeb) := ⟨rfl, rfl, rfl, by decide +kernel, rfl, by decide +kernel, by decide +kernel⟩
theorem ok_TreeWeb (T : Txt P w K mg base Ad1 Ad2 Ad3 Ad4 Ad5 Ad6 Ad7 Ad9 Ad10 Ad11 Ad12 Ad13 Ad14 Ad20) : CdD P w K mg base 6 "tree_web" sTreeWeb ["tree", "both"] (spTWeb Ad11 Ad14) [.bl false] := by
  have k_Web := (ok_Web T).mkr 3 0 (List.cons_ne_nil _ _) rfl fun T kV doc pm an cdv ct us its l1 l2 => match us, its, l1, l2 with | [_, _, _], [_], _, _ => ⟨_, rfl, rfl⟩
  refine cdd_of T.d_tree_web scTreeWeb (fun vs H Q E h => ?_) fun f cdv A outer s H vs Q E hr h => ?_
  · obtain ⟨t, ps, qs, both, rfl, _⟩ := h
    rfl
  · obtain ⟨t, ps, qs, both, rfl, hT, ok, k⟩ := h
    refine ⟨_, (pss_cons (ps_set (i := 2) scTreeWeb.nd rfl (by first | exact Or.inl rfl | exact Or.inr rfl) (pe_lst pa_nil))
  (pss_cons (ps_for (passes_of rfl) rfl (pi_enumT (by rfl) T.b_enumerate (pa_cons (pe_fld (pv 0) rfl) pa_nil)) (pg_tup rfl (pgs_cons (pg_name (i := 3) scTreeWeb.nd rfl (by first | exact Or.inl rfl | exact Or.inr rfl)) (pgs_cons (pg_name (i := 4) scTreeWeb.nd rfl (by first | exact Or.inl rfl | exact Or.inr rfl)) pgs_nil)))
    (pss_cons (ps_set (i := 5) scTreeWeb.nd rfl (by first | exact Or.inl rfl | exact Or.inr rfl) (pe_ix ix_tup (pe_fld (pv 0) rfl) (pv 3) (fun _ _ => rfl)))
    (pss_cons (ps_expr (pe_bm PySem.F.plainAttrs_list PySem.F.slot_list_append PySem.F.type_list_append mt_append (pv 2) (pa_cons (pe_tup (pa_cons (pe_op op_add (pv 3) pe_int) (pa_cons (pv 4) (pa_cons (pv 5) pa_nil)))) pa_nil)))
    (pss_one (ps_if (pt_val (pv 1))
      (pss_one (ps_expr (pe_bm PySem.F.plainAttrs_list PySem.F.slot_list_append PySem.F.type_list_append mt_append (pv 2) (pa_cons (pe_tup (pa_cons (pv 4) (pa_cons (pe_op op_add (pv 3) pe_int) (pa_cons (pv 5) pa_nil)))) pa_nil))))
      pss_nil)))))
  (pss_one (ps_ret (pe_mk k_Web hr (by decide) rfl (pa_cons (pe_fld (pv 0) rfl) (pa_cons (pv 2) pa_nil))))))), ?_⟩
    obtain ⟨dx, a, b, ht, ha, hb⟩ := hT
    have l1 : (treeF (ps.length + 1) a b).lookup ("nodes" : Str) = some (V.int (ps.length + 1)) := by walk_at "lk"
    have l2 : (treeF (ps.length + 1) a b).lookup ("parents" : Str) = some (V.ref a) := by walk_at "lk"
    have l3 : (treeF (ps.length + 1) a b).lookup ("prices" : Str) = some (V.ref b) := by walk_at "lk"
    refine ⟨by show 0 ≤ sizeLine; decide, fun L hL => ?_⟩
    have s1 : Same H (upd H L (.lst [])) := sm0 hL
    refine ⟨_, rfl, t, Ad11, dx, _, _, rfl, s1 _ _ ht, T.lTree, T.nTree_parents, l2, a, _, rfl, SqT.of (s1 _ _ ha), for_enumT (K := K) (a := a) (xs := ps.map V.int) (fun i σ H' => ∃ (v3 v4 v5 : Option V) (bs : List (V × Ar)), σ = [some (.ref t), some (.bl both), some (.ref L), v3, v4, v5] ∧ Same H H' ∧ H' L = some (.lst (bs.map Prod.fst)) ∧ T3 H' bs ∧ bs.map Prod.snd = twA ps qs both i)
      ⟨none, none, none, [], rfl, s1, upd_same, T3.nil, rfl⟩ (fun i σ H' h => by obtain ⟨_, _, _, _, _, sh, _⟩ := h; exact SqT.of (sh _ _ ha)) (fun i x Tq σ H' hx h hT => ?_) fun σ H' h => ?_⟩
    · obtain ⟨v3, v4, v5, bs, rfl, sh, hl, h3, eb⟩ := h
      obtain ⟨p, hp, rfl⟩ := ints_at hx
      have hi := (List.getElem?_eq_some_iff.mp hp).1
      obtain ⟨q, hq⟩ : ∃ q, qs[i]? = some q := ⟨_, List.getElem?_eq_getElem (by have := ok.2.1; omega)⟩
      have epq : ps.getD i 0 = p := by rw [List.getD_eq_getElem?_getD, hp]; rfl
      have ep : pw qs (i + 1) = q := pw_of hq
      have hll : bs.length ≤ 2 * i := by rw [← List.length_map (f := Prod.snd), eb]; exact twA_len i
      have hl59 := ok.1
      have st := smN (o := .tup [.int (i : Nat), .int p]) sh hT
      have hl2 := atN (o := .tup [.int (i : Nat), .int p]) hl hT
      have h32 := h3.same fun b o e => smN (o := .tup [.int (i : Nat), .int p]) (Same.refl H') hT b _ e
      refine ⟨Tq, _, rfl, .inl (.inl upd_same), rfl, _, _, rfl, _, _, rfl, rfl, ?_⟩
      refine ⟨_, rfl, t, Ad11, dx, _, _, rfl, st _ _ ht, T.lTree, T.nTree_prices, l3, _, rfl, b, _, _, _, rfl, rfl, SqT.of (st _ _ hb), atI_nat (at_ints hq), ?_⟩
      refine ⟨_, rfl, .inl ⟨rfl, _, SqL.of hl2⟩, _, rfl, _, _, rfl, rfl, _, rfl, _, rfl, by show 3 ≤ sizeLine; decide, fun r hr1 => ?_⟩
      have s3 := smN (o := .tup [.int ((i : Nat) + 1), .int p, .int q]) st hr1
      have hl3 := atN (o := .tup [.int ((i : Nat) + 1), .int p, .int q]) hl2 hr1
      refine ⟨L, _, _, rfl, rfl, hl3, by rw [List.length_map]; exact sz_lt (by omega), ?_⟩
      have h33 : T3 (upd (upd (upd H' Tq (.tup [.int (i : Nat), .int p])) r (.tup [.int ((i : Nat) + 1), .int p, .int q])) L (.lst (bs.map Prod.fst ++ [.ref r]))) (bs ++ [(.ref r, ((i : Int) + 1, p, q))]) :=
        (h32.same fun b o e => by rw [upd_ne (ne_of (atN e hr1) hl3 (by intro z; cases z))]; exact atN e hr1).snoc (by rw [upd_ne (ne_of (o := .tup _) upd_same hl3 (by intro z; cases z)), upd_same]; rfl)
      have s4 := smM (o := .lst (bs.map Prod.fst ++ [.ref r])) s3 hL
      have hl4 : upd (upd (upd H' Tq (.tup [.int (i : Nat), .int p])) r (.tup [.int ((i : Nat) + 1), .int p, .int q])) L (.lst (bs.map Prod.fst ++ [.ref r])) L = some (.lst ((bs ++ [((.ref r : V), (((i : Int) + 1, p, q) : Ar))]).map Prod.fst)) := by rw [upd_same, List.map_append]; rfl
      generalize upd (upd (upd H' Tq (.tup [.int (i : Nat), .int p])) r (.tup [.int ((i : Nat) + 1), .int p, .int q])) L (.lst (bs.map Prod.fst ++ [.ref r])) = H4 at h33 s4 hl4 ⊢
      have eb1 : (bs ++ [((.ref r : V), (((i : Int) + 1, p, q) : Ar))]).map Prod.snd = twA ps qs both i ++ [((((i + 1 : Nat) : Int), ps.getD i 0, pw qs (i + 1)) : Ar)] := by rw [List.map_append, eb, epq, ep]; rfl
      have lb1 : (bs ++ [((.ref r : V), (((i : Int) + 1, p, q) : Ar))]).length ≤ 2 * i + 1 := by simp; omega
      generalize bs ++ [((.ref r : V), (((i : Int) + 1, p, q) : Ar))] = bs1 at h33 hl4 eb1 lb1
      cases both with
      | false =>
        refine ⟨_, rfl, _, rfl, ifF rfl ?_⟩
        exact ⟨_, _, _, bs1, rfl, s4, hl4, h33, eb1⟩
      | true =>
        refine ⟨_, rfl, _, rfl, ifT rfl ?_⟩
        refine ⟨_, rfl, .inl ⟨rfl, _, SqL.of hl4⟩, _, rfl, _, rfl, _, _, rfl, rfl, _, rfl, by show 3 ≤ sizeLine; decide, fun r2 hr2 => ?_⟩
        have s5 := smN (o := .tup [.int p, .int ((i : Nat) + 1), .int q]) s4 hr2
        have hl5 := atN (o := .tup [.int p, .int ((i : Nat) + 1), .int q]) hl4 hr2
        refine ⟨L, _, _, rfl, rfl, hl5, by rw [List.length_map]; exact sz_lt (by omega), ?_⟩
        refine ⟨_, _, _, bs1 ++ [(.ref r2, (p, (i : Int) + 1, q))], rfl, smM s5 hL, by rw [upd_same, List.map_append]; rfl, ?_, ?_⟩
        · exact (h33.same fun b o e => by rw [upd_ne (ne_of (atN e hr2) hl5 (by intro z; cases z))]; exact atN e hr2).snoc (by rw [upd_ne (ne_of (o := .tup _) upd_same hl5 (by intro z; cases z)), upd_same]; rfl)
        · rw [List.map_append, eb1]
          show _ = twA ps qs true i ++ ((((i + 1 : Nat) : Int), ps.getD i 0, pw qs (i + 1)) :: [(ps.getD i 0, ((i + 1 : Nat) : Int), pw qs (i + 1))])
          rw [List.append_assoc, epq, ep]
          rfl
    · obtain ⟨v3, v4, v5, bs, rfl, sh, hl, h3, eb⟩ := h
      rw [List.length_map] at eb
      refine ⟨_, rfl, t, Ad11, dx, _, _, rfl, sh _ _ ht, T.lTree, T.nTree_nodes, l1, _, rfl, fun x dx' hx hdx ne => ?_⟩
      have s0 : Same H' (upd (upd H' dx' (.own x)) x (.ins Ad14 dx' [])) := smM (sm0 hdx) hx
      refine ⟨x, dx', _, L, Ad20, bs, rfl, upd_same, s0 _ _ hl, h3.same (fun b o e => s0 b _ e), T.oE, by rw [eb]; exact tw_okW ok, fun H6 hkeep hW => ⟨rfl, ?_⟩⟩
      rw [eb] at hW
      exact k x H6 (sh.trans fun c o e => hkeep c o (ne_of_none e hx) (s0 _ _ e)) hW
theorem scUpsFlow : FnScope ["tree", "ups", "both", "arrows", "tail", "head", "_"] ["tree", "ups", "both"] (defScope sUpsFlow) := ⟨rfl, rfl, rfl, by decide +kernel, rfl, by decide +kernel, by decide +kernel⟩
theorem ok_UpsFlow (T : Txt P w K mg base Ad1 Ad2 Ad3 Ad4 Ad5 Ad6 Ad7 Ad9 Ad10 Ad11 Ad12 Ad13 Ad14 Ad20) : CdD P w K mg base 7 "ups_flow" sUpsFlow ["tree", "ups", "both"] (spFl K Ad3 Ad6 Ad11 Ad13) [.bl false] := by
  have c_TreeWeb : Cl P w K mg base 6 "tree_web" (spTWeb Ad11 Ad14) [] := (ok_TreeWeb T).cl 2 1 (by simp) rfl fun T kV doc pm an cdv ct us its l1 l2 => match us, its, l1, l2 with | [_, _], [_], _, _ => ⟨_, rfl, rfl⟩
  have k_Flow := (ok_Flow T).mkr
  refine cdd_of T.d_ups_flow scUpsFlow (fun vs H Q E h => ?_) fun f cdv A outer s H vs Q E hr h => ?_
  · obtain ⟨t, u, ps, qs, ups, both, rfl, _⟩ := h
    rfl
  · obtain ⟨t, u, ps, qs, ups, both, rfl, hT, ok, hu, k1, k2⟩ := h
    refine ⟨_, (pss_cons (ps_if (pt_cmpR op_ne (pe_callB call_len_seq (by rfl) T.b_len (by decide +kernel) (pa_cons (pv 1) pa_nil)) (pe_fld (pv 0) rfl) (nomark _))
    (pss_one (ps_raise rfl (takes_of rfl rfl rfl rfl) (pmk_rs T.rWrongWidth hr (by decide) rfl (pa_cons (pe_callB call_len_seq (by rfl) T.b_len (by decide +kernel) (pa_cons (pv 1) pa_nil)) (pa_cons (pe_fld (pv 0) rfl) pa_nil)))))
    pss_nil)
  (pss_cons (ps_set (i := 3) scUpsFlow.nd rfl (by first | exact Or.inl rfl | exact Or.inr rfl) (pe_fld (pe_c c_TreeWeb hr (by decide) rfl (pa_cons (pv 0) (pa_cons (pv 2) pa_nil))) rfl))
  (pss_one (ps_ret (pe_mkX (takes_of rfl rfl rfl rfl) k_Flow hr (by decide) rfl (pa_cons (pe_lc (own := [(("tail" : Str), 4), (("head" : Str), 5), (("_" : Str), 6)]) (g := gTup K 3 (gCons (gName 4) (gCons (gName 5) (gCons (gName 6) gNil)))) (by rfl) scUpsFlow.nd (pi_tup (pv 3)) (blkOk_by (own := [(("tail" : Str), 4), (("head" : Str), 5), (("_" : Str), 6)]) (N := ["tree", "ups", "both", "arrows", "tail", "head", "_"]) (sc := defScope sUpsFlow) (by decide +kernel)) (fun _ _ _ _ _ => (pg_tup rfl (pgs_cons (pg_name (i := 4) scUpsFlow.nd rfl (by first | exact Or.inl rfl | exact Or.inr rfl)) (pgs_cons (pg_name (i := 5) scUpsFlow.nd rfl (by first | exact Or.inl rfl | exact Or.inr rfl)) (pgs_cons (pg_name (i := 6) scUpsFlow.nd rfl (by first | exact Or.inl rfl | exact Or.inr rfl)) pgs_nil))))) (fun _ _ _ _ _ => pts_nil) (fun _ _ _ _ _ => (pe_ifExp (pt_cmpR op_lt (pv 5) (pv 4) (nomark _)) (pe_ix ix_seqB (pv 1) (pv 4) (fun _ _ => rfl)) pe_int))) pa_nil)))))), ?_⟩
    have hT0 := hT
    obtain ⟨dx, a, b, ht, ha, hb⟩ := hT0
    have l1 : (treeF (ps.length + 1) a b).lookup ("nodes" : Str) = some (V.int (ps.length + 1)) := by walk_at "lk"
    have eln : (((ups.map V.int).length : Nat) : Int) = (ups.length : Nat) := by rw [List.length_map]
    have hor : SqL K H u (ups.map V.int) ∨ SqT K H u (ups.map V.int) := hu.imp id fun e => SqT.of e
    refine ⟨_, rfl, u, _, rfl, hor, _, rfl, t, Ad11, dx, _, _, rfl, ht, T.lTree, T.nTree_nodes, l1, rfl, _, rfl, ifIN (fun z => ?_) fun z => ?_⟩
    · refine ⟨_, rfl, u, _, rfl, hor, _, rfl, t, Ad11, dx, _, _, rfl, ht, T.lTree, T.nTree_nodes, l1, _, ⟨_, _, rfl, trivial, rfl⟩, fun d hd => ?_⟩
      have := k2 (by rw [eln] at z; omega) d hd
      rw [eln]
      exact this
    have hl : ups.length = ps.length + 1 := by rw [eln] at z; omega
    obtain ⟨k3, k4⟩ := k1 hl
    refine ⟨_, rfl, _, rfl, t, ps, qs, both, rfl, hT, ok, fun q H1 s1 hW => ?_⟩
    obtain ⟨dw, A1, Bp, Bu, He, Nu, bs, cs, hw, hA, h3, eb, _⟩ := hW
    have l4 : (webF ((ps.length : Int) + 1) A1 Bp ((srtA (twA ps qs both ps.length)).length : Nat) Bu He Nu).lookup ("arrows" : Str) = some (V.ref A1) := by walk_at "lk"
    refine ⟨q, Ad14, dw, _, _, rfl, hw, T.lWeb, T.nWeb_arrows, l4, ?_⟩
    have hlw : (srtA (twA ps qs both ps.length)).length ≤ 118 := by
      rw [(srtA_perm _).length_eq]
      have := twA_len (ps := ps) (qs := qs) (both := both) ps.length
      have := ok.1
      omega
    have hlb : bs.length ≤ 118 := by rw [← List.length_map (f := Prod.snd), eb]; exact hlw
    have hmem : ∀ x ∈ bs, okA ((ps.length : Int) + 1) x.2 := fun x hx => by
      have : x.2 ∈ srtA (twA ps qs both ps.length) := by rw [← eb]; exact List.mem_map.mpr ⟨x, hx, rfl⟩
      exact (tw_okW ok).arr _ ((srtA_perm _).mem_iff.mp this)
    refine ⟨_, rfl, A1, rfl, ⟨_, SqT.of hA⟩, fun D hD => ?_⟩
    refine lc_tup (K := K) (a := A1) (xs := bs.map Prod.fst) (fun i H' => Same H1 H' ∧ H' D = some (.lst ((flowR ups ((bs.take i).map Prod.snd)).map V.int)))
      ⟨sm0 hD, upd_same⟩ (fun i H' _ z => SqT.of (z.1 _ _ hA)) (fun i x H' hx z => ?_) fun H' z => ?_
    · obtain ⟨sh, hacc⟩ := z
      obtain ⟨r, ar, rfl, hr1, hbi⟩ := T3.at (h3.same fun b o e => sh b _ e) hx
      have hi := (List.getElem?_eq_some_iff.mp hbi).1
      have hok : okA ((ps.length : Int) + 1) ar := hmem _ (List.mem_of_getElem? hbi)
      have hla : (((flowR ups ((bs.take i).map Prod.snd)).map V.int)).length < sizeLine := by
        unfold flowR
        simp only [List.length_map, List.length_take]
        exact sz_lt (by omega)
      have fin : ∀ z : Int, (z = if ar.2.1 < ar.1 then ups.getD ar.1.toNat 0 else 0) → Same H1 (upd H' D (.lst ((flowR ups ((bs.take i).map Prod.snd)).map V.int ++ [.int z]))) ∧ upd H' D (.lst ((flowR ups ((bs.take i).map Prod.snd)).map V.int ++ [.int z])) D = some (.lst ((flowR ups ((bs.take (i + 1)).map Prod.snd)).map V.int)) := fun z ez => by
        refine ⟨smM sh hD, ?_⟩
        rw [upd_same, take_at hbi, ez]
        unfold flowR
        rw [List.map_append, List.map_append, List.map_append]
        rfl
      refine ⟨r, _, rfl, .inl (.inl hr1), rfl, _, _, rfl, _, _, rfl, _, _, rfl, rfl, rfl, ?_⟩
      refine ⟨_, rfl, _, rfl, _, _, rfl, rfl, _, rfl, ifD (fun c => ?_) fun c => ?_⟩
      · obtain ⟨y, hy⟩ : ∃ y, ups[ar.1.toNat]? = some y := ⟨_, List.getElem?_eq_getElem (by have := hok.1; have := hok.2.1; omega)⟩
        refine ⟨_, rfl, _, rfl, ixR (hu.same (s1.trans sh)) (j := ar.1.toNat) (by have := hok.1; omega) hy ?_⟩
        exact ⟨_, hacc, hla, fin y (by rw [if_pos c, List.getD_eq_getElem?_getD, hy]; rfl)⟩
      · exact ⟨_, hacc, hla, fin 0 (by rw [if_neg c])⟩
    obtain ⟨sh, hacc⟩ := z
    rw [List.length_map, List.take_length, eb] at hacc
    refine fun x dx' hx hdx ne => ?_
    have s0 : Same H' (upd (upd H' dx' (.own x)) x (.ins Ad13 dx' [])) := smM (sm0 hdx) hx
    refine ⟨x, dx', D, _, rfl, upd_same, .inl (SqL.of (s0 _ _ hacc)), by unfold flowR; rw [List.length_map]; omega, fun hok H6 hkeep hF => ⟨rfl, ?_⟩, fun i hi d H6 s6 hd => k4 i hi d H6 (((s1.trans sh).trans s0).trans s6) hd⟩
    exact k3 hok x H6 ((s1.trans sh).trans fun c o e => hkeep c o (ne_of_none e hx) (s0 _ _ e)) hF
end
end K12
set_option maxRecDepth 100000
set_option maxHeartbeats 4000000
namespace K12
open PySem PySem.Spec PyProof.Rows L2 SI
local macro_rules | `(tactic| walk_at "lk") => `(tactic| first | exact lk_hit | exact lk_nil | (refine lk_next (by decide +kernel) ?_; walk_at "lk"))
def spPool (K : PySem.W.Frag) : Sp := fun vs H Q _ => ∃ (a : Addr) (ns : List Int), vs = [.ref a] ∧ SqL K H a (ns.map V.int) ∧ ns.length ≤ 63 ∧ ∀ p H', Same H H' → H p = none → PoolB H' p 0 → Q (.ref p) H'
def spRows : Sp := fun vs H Q _ => ∃ (p : Addr) (b : Nat), vs = [.ref p] ∧ PoolB H p b ∧ b ≤ 10 ^ 6 ∧ ∀ (q a c : Addr) (ps qs : List Int) H', But p H H' → PoolB H' p (b + 400) → H' q = some (.tup [.ref a, .ref c]) → H' a = some (.lst (ps.map V.int)) → H' c = some (.lst (qs.map V.int)) → okT ps qs → H a = none → H c = none → a ≠ c → Q (.ref q) H'
def lawN (as : List Ar) (cs es : List Int) : Nat → List Int
  | 0 => es
  | k + 1 => match as[k]?, cs[k]? with
    | some a, some c => pay1 (lawN as cs es k) a c
    | _, _ => lawN as cs es k
theorem lawN_len {as : List Ar} {cs es : List Int} : ∀ k, (lawN as cs es k).length = es.length
  | 0 => rfl
  | k + 1 => by
    have ih := lawN_len (as := as) (cs := cs) (es := es) k
    show (match as[k]?, cs[k]? with | some a, some c => pay1 (lawN as cs es k) a c | _, _ => lawN as cs es k).length = _
    split
    · rw [pay1_len, ih]
    · exact ih
def spCounts : Sp := fun vs H Q _ => ∃ (p a : Addr) (ps : List Int) (b : Nat), vs = [.ref p, .ref a] ∧ PoolB H p b ∧ b ≤ 10 ^ 6 ∧ a ≠ p ∧ H a = some (.lst (ps.map V.int)) ∧ ps.length ≤ 59 ∧
  ∀ (q : Addr) (ns : List Int) H', But p H H' → PoolB H' p (b + 400) → H q = none → H' q = some (.lst (ns.map V.int)) → ns.length = ps.length + 1 → (∀ x ∈ ns, 0 ≤ x ∧ x ≤ 10 ^ 80) → Q (.ref q) H'
def spArs : Sp := fun vs H Q _ => ∃ (a b : Addr) (ps qs : List Int) (both : Bool), vs = [.ref a, .ref b, .bl both] ∧ H a = some (.lst (ps.map V.int)) ∧ H b = some (.lst (qs.map V.int)) ∧ okT ps qs ∧
  ∀ (q : Addr) (bs : List (V × Ar)) H', Same H H' → H q = none → H' q = some (.lst (bs.map Prod.fst)) → T3 H' bs → bs.map Prod.snd = srtA (twA ps qs both ps.length) → Q (.ref q) H'
def spMUp : Sp := fun vs H Q _ => ∃ (a c u : Addr) (ps ns ups : List Int), vs = [.ref a, .ref c, .ref u] ∧ H a = some (.lst (ps.map V.int)) ∧ H c = some (.lst (ns.map V.int)) ∧ H u = some (.lst (ups.map V.int)) ∧ ps.length ≤ 59 ∧ ns.length = ps.length + 1 ∧ ups.length = ps.length + 1 ∧ Q (.int (ns.getD 0 0 + kV ps ups 0 ps.length)) H
def spFRow : Sp := fun vs H Q _ => ∃ (g u : Addr) (bs : List (V × Ar)) (ups : List Int) (n : Nat), vs = [.ref g, .ref u] ∧ H g = some (.lst (bs.map Prod.fst)) ∧ T3 H bs ∧ H u = some (.lst (ups.map V.int)) ∧ (∀ b ∈ bs, okA (n : Int) b.2) ∧ ups.length = n ∧ bs.length ≤ 118 ∧
  ∀ q H', Same H H' → H q = none → H' q = some (.lst ((flowR ups (bs.map Prod.snd)).map V.int)) → Q (.ref q) H'
def spEnds : Sp := fun vs H Q _ => ∃ (g c r : Addr) (bs : List (V × Ar)) (ns row : List Int), vs = [.ref g, .ref c, .ref r] ∧ H g = some (.lst (bs.map Prod.fst)) ∧ T3 H bs ∧ H c = some (.lst (ns.map V.int)) ∧ H r = some (.lst (row.map V.int)) ∧ (∀ b ∈ bs, okA (ns.length : Nat) b.2) ∧ row.length = bs.length ∧ bs.length ≤ 118 ∧ okEs row ∧
  ∀ q H', Same H H' → H q = none → H' q = some (.lst ((lawN (bs.map Prod.snd) row ns bs.length).map V.int)) → Q (.ref q) H'
section
variable {P : Program} {w : World} {K : PySem.W.Frag} {mg : Str → Option Value} {base : Heap} {Ad1 Ad2 Ad3 Ad4 Ad5 Ad6 Ad7 Ad9 Ad10 Ad11 Ad12 Ad13 Ad14 Ad20 : Addr}
theorem scLRows : FnScope ["pool", "nodes", "shape", "parents", "prices", "at", "parent", "row"] ["pool"] (defScope sLRows) := ⟨rfl, rfl, rfl, by decide +kernel, rfl, by decide +kernel, by decide +kernel⟩
theorem ok_LRows (T : Txt P w K mg base Ad1 Ad2 Ad3 Ad4 Ad5 Ad6 Ad7 Ad9 Ad10 Ad11 Ad12 Ad13 Ad14 Ad20) : Cl P w K mg base 2 "_law_rows" spRows [] := by
  have c_LDraw := ok_LDraw T
  refine cl_of T.d__law_rows scLRows (fun vs H Q E h => ?_) fun f cdv A outer s H vs Q E hr h => ?_
  · obtain ⟨p, b, rfl, _⟩ := h
    rfl
  · obtain ⟨p, b, rfl, hp, hb, k⟩ := h
    refine ⟨_, (pss_cons (ps_set (i := 1) scLRows.nd rfl (by first | exact Or.inl rfl | exact Or.inr rfl) (pe_ix ix_list (pe_lst (pa_cons pe_int (pa_cons pe_int (pa_cons pe_int (pa_cons pe_int (pa_cons pe_int (pa_cons pe_int (pa_cons pe_int (pa_cons pe_int pa_nil))))))))) (pe_c c_LDraw hr (by decide) rfl (pa_cons (pv 0) (pa_cons pe_int pa_nil))) (fun _ _ => rfl)))
  (C8.pss_cut (ps_if (pt_cmpR op_eq (pe_c c_LDraw hr (by decide) rfl (pa_cons (pv 0) (pa_cons pe_int pa_nil))) pe_int (nomark _))
    (pss_one (ps_set (i := 1) scLRows.nd rfl (by first | exact Or.inl rfl | exact Or.inr rfl) (pe_ix ix_list (pe_lst (pa_cons pe_int (pa_cons pe_int (pa_cons pe_int (pa_cons pe_int (pa_cons pe_int (pa_cons pe_int (pa_cons pe_int (pa_cons pe_int pa_nil))))))))) (pe_c c_LDraw hr (by decide) rfl (pa_cons (pv 0) (pa_cons pe_int pa_nil))) (fun _ _ => rfl))))
    pss_nil)
  (pss_cons (ps_set (i := 2) scLRows.nd rfl (by first | exact Or.inl rfl | exact Or.inr rfl) (pe_c c_LDraw hr (by decide) rfl (pa_cons (pv 0) (pa_cons pe_int pa_nil))))
  (pss_cons (ps_set (i := 3) scLRows.nd rfl (by first | exact Or.inl rfl | exact Or.inr rfl) (pe_lst pa_nil))
  (pss_cons (ps_set (i := 4) scLRows.nd rfl (by first | exact Or.inl rfl | exact Or.inr rfl) (pe_lst pa_nil))
  (pss_cons (ps_for (passes_of rfl) rfl (pi_range1 (by rfl) T.b_range (pa_cons (pe_op op_sub (pv 1) pe_int) pa_nil)) (pg_name (i := 5) scLRows.nd rfl (by first | exact Or.inl rfl | exact Or.inr rfl))
    (pss_cons (ps_set (i := 6) scLRows.nd rfl (by first | exact Or.inl rfl | exact Or.inr rfl) (pe_c c_LDraw hr (by decide) rfl (pa_cons (pv 0) (pa_cons (pe_op op_add (pv 5) pe_int) pa_nil))))
    (C8.pss_cut (ps_if (pt_cmpR op_eq (pv 2) pe_int (nomark _))
      (pss_one (ps_set (i := 6) scLRows.nd rfl (by first | exact Or.inl rfl | exact Or.inr rfl) (pe_callB (call_max2 rfl) (by rfl) T.b_max (by decide +kernel) (pa_cons pe_int (pa_cons (pe_op op_sub (pv 5) (pe_c c_LDraw hr (by decide) rfl (pa_cons (pv 0) (pa_cons pe_int pa_nil)))) pa_nil)))))
      pss_nil)
    (C8.pss_cut (ps_if (pt_cmpR op_eq (pv 2) pe_int (nomark _))
      (pss_one (ps_set (i := 6) scLRows.nd rfl (by first | exact Or.inl rfl | exact Or.inr rfl) (pe_op op_mulW (pv 5) (pe_callTy call_int1 (by rfl) T.b_int (by decide +kernel) (pa_cons (pe_cmpR op_gt (pe_c c_LDraw hr (by decide) rfl (pa_cons (pv 0) (pa_cons pe_int pa_nil))) pe_int (nomark _)) pa_nil)))))
      pss_nil)
    (pss_cons (ps_expr (pe_bm PySem.F.plainAttrs_list PySem.F.slot_list_append PySem.F.type_list_append mt_append (pv 3) (pa_cons (pv 6) pa_nil)))
    (pss_cons (ps_set (i := 7) scLRows.nd rfl (by first | exact Or.inl rfl | exact Or.inr rfl) (pe_lst (pa_cons pe_int (pa_cons pe_int (pa_cons pe_int (pa_cons pe_int (pa_cons pe_int (pa_cons pe_int (pa_cons pe_int (pa_cons (pe_op op_add pe_int (pe_c c_LDraw hr (by decide) rfl (pa_cons (pv 0) (pa_cons pe_int pa_nil)))) pa_nil))))))))))
    (pss_one (ps_expr (pe_bm PySem.F.plainAttrs_list PySem.F.slot_list_append PySem.F.type_list_append mt_append (pv 4) (pa_cons (pe_ix ix_list (pv 7) (pe_c c_LDraw hr (by decide) rfl (pa_cons (pv 0) (pa_cons pe_int pa_nil))) (fun _ _ => rfl)) pa_nil))))))))))
  (pss_one (ps_ret (pe_tup (pa_cons (pv 3) (pa_cons (pv 4) pa_nil))))))))))), ?_⟩
    have hb6 : b ≤ 1000000 := hb
    have G : ∀ {c : Nat}, c ≤ b + 1000 → c ≤ 10 ^ 100 := fun h => big6 (by show _ ≤ 10000000; omega)
    have N : ∀ {n : Int}, n ≤ 1000 → n ≤ 10 ^ 130 := fun h => Int.le_trans h (by decide +kernel)
    refine ⟨by show 8 ≤ sizeLine; decide, fun l hl => ?_⟩
    refine ⟨_, rfl, draw_of (hp.new hl) (G (by omega)) (by decide) (N (by decide)) fun d H1 b1 p1 d0 d1 => ?_⟩
    have nl := hp.ne hl
    have e1 := b1 l _ nl upd_same
    obtain ⟨z, hz, hat⟩ := pick (L := [5, 6, 7, 8, 4, 3, 2, 1]) d0 d1
    have zb : ∀ z ∈ ([5, 6, 7, 8, 4, 3, 2, 1] : List Int), 1 ≤ z ∧ z ≤ 60 := by decide
    have bH1 : But p H H1 := (But.of (sm0 hl)).trans b1
    refine ⟨l, _, _, _, rfl, rfl, SqL.of e1, hat, ?_⟩
    refine ⟨fun σ' H' => ∃ n : Int, σ' = [some (.ref p), some (.int n), none, none, none, none, none, none] ∧ 1 ≤ n ∧ n ≤ 60 ∧ But p H H' ∧ PoolB H' p (b + 3), ?_, ?_⟩
    · refine ⟨_, rfl, draw_of p1 (G (by omega)) (by decide) (N (by decide)) fun d' H2 b2 p2 d0' d1' => ?_⟩
      refine ⟨rfl, _, rfl, ifI (fun c => ?_) fun c => ?_⟩
      · refine ⟨by show 8 ≤ sizeLine; decide, fun l2 hl2 => ?_⟩
        refine ⟨_, rfl, draw_of (p2.new hl2) (G (by omega)) (by decide) (N (by decide)) fun d3 H3 b3 p3 d03 d13 => ?_⟩
        have e3 := b3 l2 _ (p2.ne hl2) upd_same
        obtain ⟨z3, hz3, hat3⟩ := pick (L := [9, 12, 20, 33, 47, 59, 60, 60]) d03 d13
        have zb3 : ∀ z ∈ ([9, 12, 20, 33, 47, 59, 60, 60] : List Int), 1 ≤ z ∧ z ≤ 60 := by decide
        refine ⟨l2, _, _, _, rfl, rfl, SqL.of e3, hat3, ?_⟩
        exact ⟨z3, rfl, (zb3 z3 hz3).1, (zb3 z3 hz3).2, (bH1.trans b2).trans ((But.of (sm0 hl2)).trans b3), p3⟩
      · exact ⟨z, rfl, (zb z hz).1, (zb z hz).2, bH1.trans b2, p2.up (by omega)⟩
    rintro _ H4 ⟨n, rfl, n1, n60, bH4, p4⟩
    refine ⟨_, rfl, draw_of p4 (G (by omega)) (by decide) (N (by decide)) fun sh H5 b5 p5 s0 s1 => ?_⟩
    have bH5 := bH4.trans b5
    refine ⟨by show 0 ≤ sizeLine; decide, fun a ha => ?_⟩
    refine ⟨by show 0 ≤ sizeLine; decide, fun c hc => ?_⟩
    have na := p5.ne ha
    have p6 := p5.new (o := .lst []) ha
    have nc := p6.ne hc
    have p7 := p6.new (o := .lst []) hc
    have fa := bH5.free na ha
    have bH6 : But p H (upd H5 a (.lst [])) := bH5.trans (But.of (sm0 ha))
    have fc := bH6.free nc hc
    have nac : a ≠ c := fun e => by rw [← e, upd_same] at hc; cases hc
    have bH7 : But p H (upd (upd H5 a (.lst [])) c (.lst [])) := bH6.trans (But.of (sm0 hc))
    have ea : upd (upd H5 a (.lst [])) c (.lst []) a = some (.lst (([] : List Int).map V.int)) := atN upd_same hc
    have ec : upd (upd H5 a (.lst [])) c (.lst []) c = some (.lst (([] : List Int).map V.int)) := upd_same
    generalize upd (upd H5 a (.lst [])) c (.lst []) = H7 at p7 bH7 ea ec ⊢
    refine ⟨_, rfl, _, _, rfl, rfl, _, rfl, by omega, by omega, ?_⟩
    refine for_range (lo := 0) (n := (n - 1).toNat) (fun i σ H' => ∃ (v5 v6 v7 : Option V) (ps qs : List Int), σ = [some (.ref p), some (.int n), some (.int sh), some (.ref a), some (.ref c), v5, v6, v7] ∧ But p H H' ∧ PoolB H' p (b + 4 + 5 * i) ∧
        H' a = some (.lst (ps.map V.int)) ∧ H' c = some (.lst (qs.map V.int)) ∧ ps.length = i ∧ qs.length = i ∧ okTo ps qs i)
      ⟨none, none, none, [], [], rfl, bH7, p7, ea, ec, rfl, rfl, fun j p q hj => absurd hj (Nat.not_lt_zero _)⟩ (fun i σ H' hi h => ?_) fun σ H' h => ?_
    · obtain ⟨v5, v6, v7, ps, qs, rfl, bH, pH, hA, hC, lp, lq, hok⟩ := h
      rw [Int.zero_add]
      have hi2 : i < 60 := by omega
      refine ⟨_, rfl, _, rfl, _, _, rfl, rfl, draw_of pH (G (by omega)) (by omega) (N (by omega)) fun d H1 b1 p1 d0 d1 => ?_⟩
      refine ⟨fun σ' H' => ∃ d : Int, σ' = [some (.ref p), some (.int n), some (.int sh), some (.ref a), some (.ref c), some (.int (i : Nat)), some (.int d), v7] ∧ 0 ≤ d ∧ d ≤ i ∧ But p H H' ∧ PoolB H' p (b + 4 + 5 * i + 2) ∧ H' a = some (.lst (ps.map V.int)) ∧ H' c = some (.lst (qs.map V.int)), ?_, ?_⟩
      · refine ⟨_, rfl, rfl, _, rfl, ifI (fun c3 => ?_) fun c3 => ?_⟩
        · refine ⟨_, rfl, _, rfl, draw_of p1 (G (by omega)) (by decide) (N (by decide)) fun e H2 b2 p2 e0 e1 => ?_⟩
          refine ⟨_, _, rfl, rfl, _, _, rfl, ?_⟩
          refine ⟨_, rfl, ?_, ?_, (bH.trans b1).trans b2, p2, b2 a _ na (b1 a _ na hA), b2 c _ nc (b1 c _ nc hC)⟩
          · split <;> omega
          · split <;> omega
        · exact ⟨d, rfl, d0, by omega, bH.trans b1, p1.up (by omega), b1 a _ na hA, b1 c _ nc hC⟩
      rintro _ H2 ⟨d, rfl, d0, d1, bH2, p2, hA2, hC2⟩
      refine ⟨fun σ' H' => ∃ d : Int, σ' = [some (.ref p), some (.int n), some (.int sh), some (.ref a), some (.ref c), some (.int (i : Nat)), some (.int d), v7] ∧ 0 ≤ d ∧ d ≤ i ∧ But p H H' ∧ PoolB H' p (b + 4 + 5 * i + 3) ∧ H' a = some (.lst (ps.map V.int)) ∧ H' c = some (.lst (qs.map V.int)), ?_, ?_⟩
      · refine ⟨_, rfl, rfl, _, rfl, ifI (fun c3 => ?_) fun c3 => ?_⟩
        · refine ⟨_, rfl, _, rfl, draw_of p2 (G (by omega)) (by decide) (N (by decide)) fun e H3 b3 p3 e0 e1 => ?_⟩
          refine ⟨_, _, rfl, rfl, .inr ⟨_, rfl, _, _, rfl, rfl, cmul_small (abs_small (by omega) (by omega)) (abs_small (by split <;> omega) (by split <;> omega)), ?_⟩⟩
          refine ⟨_, rfl, ?_, ?_, bH2.trans b3, p3, b3 a _ na hA2, b3 c _ nc hC2⟩
          · split <;> omega
          · split <;> omega
        · exact ⟨d, rfl, d0, d1, bH2, p2.up (by omega), hA2, hC2⟩
      rintro _ H3 ⟨d, rfl, d0, d1, bH3, p3, hA3, hC3⟩
      refine ⟨_, rfl, .inl ⟨rfl, _, SqL.of hA3⟩, _, rfl, a, _, _, rfl, rfl, hA3, by rw [List.length_map]; exact sz_lt (by omega), ?_⟩
      have bH4' : But p H (upd H3 a (.lst (ps.map V.int ++ [.int d]))) := fun x o nx e => by rw [upd_ne (ne_of_none e fa)]; exact bH3 x o nx e
      have p4' : PoolB (upd H3 a (.lst (ps.map V.int ++ [.int d]))) p (b + 4 + 5 * i + 3) := p3.put na
      have hA4 : upd H3 a (.lst (ps.map V.int ++ [.int d])) a = some (.lst ((ps ++ [d]).map V.int)) := by rw [upd_same, List.map_append]; rfl
      have hC4 : upd H3 a (.lst (ps.map V.int ++ [.int d])) c = some (.lst (qs.map V.int)) := by rw [upd_ne nac.symm]; exact hC3
      generalize upd H3 a (.lst (ps.map V.int ++ [.int d])) = H4' at bH4' p4' hA4 hC4 ⊢
      refine ⟨_, rfl, draw_of p4' (G (by omega)) (by decide) (N (by decide)) fun e H5' b5' p5' e0 e1 => ?_⟩
      refine ⟨_, _, rfl, rfl, by show 8 ≤ sizeLine; decide, fun l hl => ?_⟩
      have nl := p5'.ne hl
      refine ⟨_, rfl, .inl ⟨rfl, _, SqL.of (atN (b5' c _ nc hC4) hl)⟩, _, rfl, _, rfl, draw_of (p5'.new hl) (G (by omega)) (by decide) (N (by decide)) fun g H6 b6 p6' g0 g1 => ?_⟩
      have el := b6 l _ nl upd_same
      have zb4 : ∀ z ∈ ([2, 2, 3, 4, 6, 8, 31, 2 + e] : List Int), 2 ≤ z ∧ z ≤ 31 := by
        intro z hz
        simp only [List.mem_cons, List.not_mem_nil, or_false] at hz
        omega
      obtain ⟨z, hz, hat⟩ := pick (L := [2, 2, 3, 4, 6, 8, 31, 2 + e]) g0 g1
      have hC6 := b6 c _ nc (atN (b5' c _ nc hC4) hl)
      have hA6 := b6 a _ na (atN (b5' a _ na hA4) hl)
      refine ⟨l, _, _, _, rfl, rfl, SqL.of el, hat, c, _, _, rfl, rfl, hC6, by rw [List.length_map]; exact sz_lt (by omega), ?_⟩
      have bH6' : But p H H6 := ((bH4'.trans b5').trans (But.of (sm0 hl))).trans b6
      refine ⟨_, _, _, ps ++ [d], qs ++ [z], rfl, fun x o nx e => by rw [upd_ne (ne_of_none e fc)]; exact bH6' x o nx e, (p6'.put nc).up (by omega), by rw [upd_ne nac]; exact hA6, by rw [upd_same, List.map_append]; rfl, by simp [lp], by simp [lq], okTo_snoc lp lq hok ⟨d0, d1, (zb4 z hz).1, (zb4 z hz).2⟩⟩
    · obtain ⟨v5, v6, v7, ps, qs, rfl, bH, pH, hA, hC, lp, lq, hok⟩ := h
      refine ⟨_, rfl, _, rfl, by show 2 ≤ sizeLine; decide, fun q hq => ?_⟩
      refine k q a c ps qs _ (bH.trans (But.of (sm0 hq))) ((pH.new hq).up (by omega)) upd_same (atN hA hq) (atN hC hq) ⟨by omega, by omega, ?_⟩ fa fc nac
      rw [lp]
      exact hok
theorem scLPool : FnScope ["script", "cells", "cell"] ["script"] (defScope sLPool) := ⟨rfl, rfl, rfl, by decide +kernel, rfl, by decide +kernel, by decide +kernel⟩
theorem ok_LPool (T : Txt P w K mg base Ad1 Ad2 Ad3 Ad4 Ad5 Ad6 Ad7 Ad9 Ad10 Ad11 Ad12 Ad13 Ad14 Ad20) : Cl P w K mg base 1 "_law_pool" (spPool K) [] := by
  refine cl_of T.d__law_pool scLPool (fun vs H Q E h => ?_) fun f cdv A outer s H vs Q E hr h => ?_
  · obtain ⟨a, ns, rfl, _⟩ := h
    rfl
  · obtain ⟨a, ns, rfl, ha, hl, k⟩ := h
    refine ⟨_, (pss_cons (ps_setLc (i := 1) (own := [(("cell" : Str), 2)]) (g := gName 2) (by rfl) scLPool.nd rfl rfl (sw_true rfl rfl rfl (by decide +kernel)) (pi_list (pe_slice sl_list (pv 0) po_none (po_some pe_int))) (blkOk_by (own := [(("cell" : Str), 2)]) (N := ["script", "cells", "cell"]) (sc := defScope sLPool) (by decide +kernel)) (fun _ _ _ _ _ => (pg_name (i := 2) scLPool.nd rfl (by first | exact Or.inl rfl | exact Or.inr rfl))) (fun _ _ _ _ _ => pts_nil) (fun _ _ _ _ _ => (pe_callTy call_intI (by rfl) T.b_int (by decide +kernel) (pa_cons (pv 2) pa_nil))))
  (pss_one (ps_ret (pe_op op_cat (pe_lst (pa_cons (pe_op op_mod (pe_callTy call_intI (by rfl) T.b_int (by decide +kernel) (pa_cons (pe_callB (cr_sum rfl) (by rfl) T.b_sum (by decide +kernel) (pa_cons (pv 1) pa_nil)) pa_nil)) pe_int) pa_nil)) (pe_revL (pv 1)))))), ?_⟩
    obtain ⟨ms, ecut, hms, _⟩ := cut_map V.int ns none (some 63)
    refine ⟨_, rfl, _, rfl, a, _, rfl, ha, ?_⟩
    rw [ecut]
    intro p hp
    refine ⟨p, rfl, ⟨_, SqL.of upd_same⟩, fun D hD => lc_list (K := K) (a := p) (xs := ms.map V.int)
      (fun i H' => Same (upd H p (.lst (ms.map V.int))) H' ∧ ∃ acc : List Int, H' D = some (.lst (acc.map V.int)) ∧ acc.length = i)
      ⟨sm0 hD, [], upd_same, rfl⟩ (fun i H' _ h => h.1.seq (SqL.of upd_same)) (fun i x H' hx h => ?_) fun H' h => ?_⟩
    · obtain ⟨sh, acc, hacc, hlen⟩ := h
      obtain ⟨z, hz, rfl⟩ := ints_at hx
      have hi : i < ms.length := (List.getElem?_eq_some_iff.mp hz).1
      refine ⟨rfl, ?_⟩
      refine ⟨_, rfl, _, rfl, _, hacc, by rw [List.length_map]; exact sz_lt (by omega), smM sh hD, acc ++ [z], ?_, by simp [hlen]⟩
      rw [upd_same, List.map_append]
      rfl
    · obtain ⟨sh, acc, hacc, hlen⟩ := h
      rw [List.length_map] at hlen
      have s1 : Same H H' := (sm0 hp).trans sh
      refine ⟨_, rfl, D, acc, rfl, SqL.of hacc, _, rfl, _, _, rfl, rfl, (by show (0 : Int) < 1000003; decide), ?_⟩
      refine ⟨by show 1 ≤ sizeLine; decide, fun l1 hl1 => ?_⟩
      refine ⟨_, rfl, D, _, rfl, SqL.of (atN hacc hl1), fun l2 hl2 => ?_⟩
      refine ⟨l1, l2, _, _, rfl, rfl, atN upd_same hl2, upd_same, (by simp; exact sz_small (by omega)), fun q hq => ?_⟩
      refine k q _ (smN (smN (smN s1 hl1) hl2) hq) ((smN (smN s1 hl1) hl2).free hq) ⟨acc.sum % 1000003, acc.reverse, ?_, Int.emod_nonneg _ (by decide), ?_, by rw [List.length_reverse]; omega⟩
      · rw [upd_same, ← List.map_reverse]
        rfl
      · have := Int.emod_lt_of_pos acc.sum (show (0 : Int) < 1000003 by decide)
        omega
theorem scLMostUp : FnScope ["parents", "counts", "ups", "total", "at"] ["parents", "counts", "ups"] (defScope sLMostUp) := ⟨rfl, rfl, rfl, by decide +kernel, rfl, by decide +kernel, by decide +kernel⟩
theorem ok_LMostUp (T : Txt P w K mg base Ad1 Ad2 Ad3 Ad4 Ad5 Ad6 Ad7 Ad9 Ad10 Ad11 Ad12 Ad13 Ad14 Ad20) : Cl P w K mg base 1 "_law_most_up" spMUp [] := by
  refine cl_of T.d__law_most_up scLMostUp (fun vs H Q E h => ?_) fun f cdv A outer s H vs Q E hr h => ?_
  · obtain ⟨a, c, u, ps, ns, ups, rfl, _⟩ := h
    rfl
  · obtain ⟨a, c, u, ps, ns, ups, rfl, ha, hc, hu, h59, hn, hl, k⟩ := h
    refine ⟨_, (pss_cons (ps_set (i := 3) scLMostUp.nd rfl (by first | exact Or.inl rfl | exact Or.inr rfl) (pe_ix ix_list (pv 1) pe_int (fun _ _ => rfl)))
  (pss_cons (ps_for (passes_of rfl) rfl (pi_range1 (by rfl) T.b_range (pa_cons (pe_callB call_len_seq (by rfl) T.b_len (by decide +kernel) (pa_cons (pv 0) pa_nil)) pa_nil)) (pg_name (i := 4) scLMostUp.nd rfl (by first | exact Or.inl rfl | exact Or.inr rfl))
    (pss_one (ps_if (pt_cmpR op_eq (pe_ix ix_list (pv 0) (pv 4) (fun _ _ => rfl)) pe_int (nomark _))
      (pss_one (ps_set (i := 3) scLMostUp.nd rfl (by first | exact Or.inl rfl | exact Or.inr rfl) (pe_op op_add (pv 3) (pe_ix ix_list (pv 2) (pe_op op_add (pv 4) pe_int) (fun _ _ => rfl)))))
      pss_nil)))
  (pss_one (ps_ret (pv 3))))), ?_⟩
    obtain ⟨x, hx⟩ : ∃ x, ns[0]? = some x := ⟨_, List.getElem?_eq_getElem (by omega)⟩
    have ex : ns.getD 0 0 = x := by rw [List.getD_eq_getElem?_getD, hx]; rfl
    refine ⟨_, rfl, c, _, _, _, rfl, rfl, SqL.of hc, at_of (j := 0) rfl (at_ints hx), ?_⟩
    refine ⟨_, rfl, a, _, rfl, .inl (SqL.of ha), _, rfl, by simp <;> omega, by simp <;> omega, ?_⟩
    rw [show ((((ps.map V.int).length : Nat) : Int)).toNat = ps.length by simp]
    refine for_range (lo := 0) (n := ps.length) (fun i σ H' => ∃ v4 : Option V, σ = [some (.ref a), some (.ref c), some (.ref u), some (.int (x + kV ps ups 0 i)), v4] ∧ H' = H)
      ⟨none, by show _ = [some (V.ref a), some (V.ref c), some (V.ref u), some (V.int (x + 0)), none]; rw [Int.add_zero]; rfl, rfl⟩ (fun i σ H' hi h => ?_) fun σ H' h => ?_
    · obtain ⟨v4, rfl, rfl⟩ := h
      rw [Int.zero_add]
      obtain ⟨p, hp⟩ : ∃ p, ps[i]? = some p := ⟨_, List.getElem?_eq_getElem hi⟩
      obtain ⟨y, hy⟩ : ∃ y, ups[i + 1]? = some y := ⟨_, List.getElem?_eq_getElem (by omega)⟩
      have ey : ups.getD (i + 1) 0 = y := by rw [List.getD_eq_getElem?_getD, hy]; rfl
      have ek : kV ps ups 0 (i + 1) = kV ps ups 0 i + (if p = 0 then y else 0) := by
        show kV ps ups 0 i + (if ps[i]? = some ((0 : Nat) : Int) then ups.getD (i + 1) 0 else 0) = _
        rw [hp, ey]
        by_cases c : p = 0
        · rw [if_pos c, if_pos (by rw [c]; rfl)]
        · rw [if_neg c, if_neg (fun z : some p = some ((0 : Nat) : Int) => c (Option.some.inj z))]
      refine ⟨_, rfl, _, rfl, a, _, _, _, rfl, rfl, SqL.of ha, atI_nat (at_ints hp), rfl, _, rfl, ifI (fun c => ?_) fun c => ?_⟩
      · refine ⟨_, rfl, _, rfl, _, rfl, _, _, rfl, rfl, u, _, _, _, rfl, rfl, SqL.of hu, at_of (j := i + 1) (by omega) (at_ints hy), _, _, rfl, rfl, ?_⟩
        refine ⟨some (.int (i : Nat)), ?_, rfl⟩
        rw [ek, if_pos c, ← Int.add_assoc]
        rfl
      · refine ⟨some (.int (i : Nat)), ?_, rfl⟩
        rw [ek, if_neg c, Int.add_zero]
        rfl
    · obtain ⟨v4, rfl, rfl⟩ := h
      rw [ex] at k
      exact ⟨_, rfl, k⟩
theorem scLFlowRow : FnScope ["arrows", "ups", "row", "tail", "head", "price"] ["arrows", "ups"] (defScope sLFlowRow) := ⟨rfl, rfl, rfl, by decide +kernel, rfl, by decide +kernel, by decide +kernel⟩
theorem ok_LFlowRow (T : Txt P w K mg base Ad1 Ad2 Ad3 Ad4 Ad5 Ad6 Ad7 Ad9 Ad10 Ad11 Ad12 Ad13 Ad14 Ad20) : Cl P w K mg base 1 "_law_flow_row" spFRow [] := by
  refine cl_of T.d__law_flow_row scLFlowRow (fun vs H Q E h => ?_) fun f cdv A outer s H vs Q E hr h => ?_
  · obtain ⟨g, u, bs, ups, n, rfl, _⟩ := h
    rfl
  · obtain ⟨g, u, bs, ups, n, rfl, hg, h3, hu, hok, hl, hb, k⟩ := h
    refine ⟨_, (pss_cons (ps_set (i := 2) scLFlowRow.nd rfl (by first | exact Or.inl rfl | exact Or.inr rfl) (pe_lst pa_nil))
  (pss_cons (ps_for (passes_of rfl) rfl (pi_list (pv 0)) (pg_tup rfl (pgs_cons (pg_name (i := 3) scLFlowRow.nd rfl (by first | exact Or.inl rfl | exact Or.inr rfl)) (pgs_cons (pg_name (i := 4) scLFlowRow.nd rfl (by first | exact Or.inl rfl | exact Or.inr rfl)) (pgs_cons (pg_name (i := 5) scLFlowRow.nd rfl (by first | exact Or.inl rfl | exact Or.inr rfl)) pgs_nil))))
    (pss_one (ps_if (pt_cmpR op_lt (pv 4) (pv 3) (nomark _))
      (pss_one (ps_expr (pe_bm PySem.F.plainAttrs_list PySem.F.slot_list_append PySem.F.type_list_append mt_append (pv 2) (pa_cons (pe_ix ix_list (pv 1) (pv 3) (fun _ _ => rfl)) pa_nil))))
      (pss_one (ps_expr (pe_bm PySem.F.plainAttrs_list PySem.F.slot_list_append PySem.F.type_list_append mt_append (pv 2) (pa_cons pe_int pa_nil)))))))
  (pss_one (ps_ret (pv 2))))), ?_⟩
    refine ⟨by show 0 ≤ sizeLine; decide, fun L hL => ?_⟩
    have s1 : Same H (upd H L (.lst [])) := sm0 hL
    refine ⟨_, rfl, g, rfl, ⟨_, SqL.of (s1 _ _ hg)⟩, for_list (K := K) (a := g) (xs := bs.map Prod.fst) (fun i σ H' => ∃ v3 v4 v5 : Option V, σ = [some (.ref g), some (.ref u), some (.ref L), v3, v4, v5] ∧ Same H H' ∧ H' L = some (.lst ((flowR ups ((bs.take i).map Prod.snd)).map V.int)))
      ⟨none, none, none, rfl, s1, upd_same⟩ (fun i σ H' _ h => by obtain ⟨_, _, _, _, sh, _⟩ := h; exact SqL.of (sh _ _ hg)) (fun i x σ H' hx h => ?_) fun σ H' h => ?_⟩
    · obtain ⟨v3, v4, v5, rfl, sh, hacc⟩ := h
      obtain ⟨r, ar, rfl, hr1, hbi⟩ := T3.at (h3.same fun b o e => sh b _ e) hx
      have hi := (List.getElem?_eq_some_iff.mp hbi).1
      have ok1 : okA (n : Int) ar := hok _ (List.mem_of_getElem? hbi)
      have hla : (((flowR ups ((bs.take i).map Prod.snd)).map V.int)).length < sizeLine := by
        unfold flowR
        simp only [List.length_map, List.length_take]
        exact sz_lt (by omega)
      have fin : ∀ z : Int, (z = if ar.2.1 < ar.1 then ups.getD ar.1.toNat 0 else 0) → Same H (upd H' L (.lst ((flowR ups ((bs.take i).map Prod.snd)).map V.int ++ [.int z]))) ∧ upd H' L (.lst ((flowR ups ((bs.take i).map Prod.snd)).map V.int ++ [.int z])) L = some (.lst ((flowR ups ((bs.take (i + 1)).map Prod.snd)).map V.int)) := fun z ez => by
        refine ⟨smM sh hL, ?_⟩
        rw [upd_same, take_at hbi, ez]
        unfold flowR
        rw [List.map_append, List.map_append, List.map_append]
        rfl
      refine ⟨r, _, rfl, .inl (.inl hr1), rfl, _, _, rfl, _, _, rfl, _, _, rfl, rfl, ?_⟩
      refine ⟨_, rfl, _, rfl, _, _, rfl, rfl, _, rfl, ifD (fun c => ?_) fun c => ?_⟩
      · obtain ⟨y, hy⟩ : ∃ y, ups[ar.1.toNat]? = some y := ⟨_, List.getElem?_eq_getElem (by have := ok1.1; have := ok1.2.1; omega)⟩
        refine ⟨_, rfl, .inl ⟨rfl, _, SqL.of hacc⟩, _, rfl, _, rfl, u, _, _, _, rfl, rfl, SqL.of (sh _ _ hu), at_of (j := ar.1.toNat) (by have := ok1.1; omega) (at_ints hy), L, _, _, rfl, rfl, hacc, hla, ?_⟩
        exact ⟨_, _, _, rfl, fin y (by rw [if_pos c, List.getD_eq_getElem?_getD, hy]; rfl)⟩
      · refine ⟨_, rfl, .inl ⟨rfl, _, SqL.of hacc⟩, L, _, _, rfl, rfl, hacc, hla, ?_⟩
        exact ⟨_, _, _, rfl, fin 0 (by rw [if_neg c])⟩
    · obtain ⟨v3, v4, v5, rfl, sh, hacc⟩ := h
      rw [List.length_map, List.take_length] at hacc
      exact ⟨_, rfl, k L H' sh hL hacc⟩
theorem scLEnds : FnScope ["arrows", "counts", "row", "ends", "k", "tail", "head", "price"] ["arrows", "counts", "row"] (defScope sLEnds) := ⟨rfl, rfl, rfl, by decide +kernel, rfl, by decide +kernel, by decide +kernel⟩
theorem ok_LEnds (T : Txt P w K mg base Ad1 Ad2 Ad3 Ad4 Ad5 Ad6 Ad7 Ad9 Ad10 Ad11 Ad12 Ad13 Ad14 Ad20) : Cl P w K mg base 1 "_law_ends" spEnds [] := by
  refine cl_of T.d__law_ends scLEnds (fun vs H Q E h => ?_) fun f cdv A outer s H vs Q E hr h => ?_
  · obtain ⟨g, c, r, bs, ns, row, rfl, _⟩ := h
    rfl
  · obtain ⟨g, c, r, bs, ns, row, rfl, hg, h3, hc, hr1, hok, hlr, hb, hrow, k⟩ := h
    refine ⟨_, (pss_cons (ps_set (i := 3) scLEnds.nd rfl (by first | exact Or.inl rfl | exact Or.inr rfl) (pe_callTy call_list_of (by rfl) T.b_list (by decide +kernel) (pa_cons (pv 1) pa_nil)))
  (pss_cons (ps_for (passes_of rfl) rfl (pi_range1 (by rfl) T.b_range (pa_cons (pe_callB call_len_seq (by rfl) T.b_len (by decide +kernel) (pa_cons (pv 0) pa_nil)) pa_nil)) (pg_name (i := 4) scLEnds.nd rfl (by first | exact Or.inl rfl | exact Or.inr rfl))
    (pss_cons (ps_asg (pe_ix ix_list (pv 0) (pv 4) (fun _ _ => rfl)) (pg_tup rfl (pgs_cons (pg_name (i := 5) scLEnds.nd rfl (by first | exact Or.inl rfl | exact Or.inr rfl)) (pgs_cons (pg_name (i := 6) scLEnds.nd rfl (by first | exact Or.inl rfl | exact Or.inr rfl)) (pgs_cons (pg_name (i := 7) scLEnds.nd rfl (by first | exact Or.inl rfl | exact Or.inr rfl)) pgs_nil)))))
    (pss_cons (ps_asg (pe_op op_sub (pe_ix ix_list (pv 3) (pv 5) (fun _ _ => rfl)) (pe_op op_mulW (pv 7) (pe_ix ix_list (pv 2) (pv 4) (fun _ _ => rfl)))) (pg_sub (pv 3) (pv 5) set_list))
    (pss_one (ps_asg (pe_op op_add (pe_ix ix_list (pv 3) (pv 6) (fun _ _ => rfl)) (pe_ix ix_list (pv 2) (pv 4) (fun _ _ => rfl))) (pg_sub (pv 3) (pv 6) set_list))))))
  (pss_one (ps_ret (pv 3))))), ?_⟩
    refine ⟨_, rfl, c, _, rfl, .inl (SqL.of hc), fun L hL => ?_⟩
    have s1 : Same H (upd H L (.lst (ns.map V.int))) := sm0 hL
    refine ⟨_, rfl, g, _, rfl, .inl (SqL.of (s1 _ _ hg)), _, rfl, by simp <;> omega, by simp <;> omega, ?_⟩
    rw [show ((((bs.map Prod.fst).length : Nat) : Int)).toNat = bs.length by simp]
    refine for_range (lo := 0) (n := bs.length) (fun i σ H' => ∃ v4 v5 v6 v7 : Option V, σ = [some (.ref g), some (.ref c), some (.ref r), some (.ref L), v4, v5, v6, v7] ∧ Same H H' ∧ H' L = some (.lst ((lawN (bs.map Prod.snd) row ns i).map V.int)))
      ⟨none, none, none, none, rfl, s1, upd_same⟩ (fun i σ H' hi h => ?_) fun σ H' h => ?_
    · obtain ⟨v4, v5, v6, v7, rfl, sh, hE⟩ := h
      rw [Int.zero_add]
      obtain ⟨bb, hbb⟩ : ∃ bb, bs[i]? = some bb := ⟨_, List.getElem?_eq_getElem hi⟩
      obtain ⟨t, ar, et, ht, hbi⟩ := T3.at (h3.same fun b o e => sh b _ e) (show (bs.map Prod.fst)[i]? = some bb.1 by rw [List.getElem?_map, hbb]; rfl)
      have ok1 : okA (ns.length : Nat) ar := hok _ (List.mem_of_getElem? hbi)
      obtain ⟨z, hz⟩ : ∃ z, row[i]? = some z := ⟨_, List.getElem?_eq_getElem (by omega)⟩
      have hz1 := hrow z (List.mem_of_getElem? hz)
      have en : lawN (bs.map Prod.snd) row ns (i + 1) = pay1 (lawN (bs.map Prod.snd) row ns i) ar z := by
        show (match (bs.map Prod.snd)[i]?, row[i]? with | some a, some c => pay1 (lawN (bs.map Prod.snd) row ns i) a c | _, _ => lawN (bs.map Prod.snd) row ns i) = _
        rw [List.getElem?_map, hbi, hz]
        rfl
      have hle := lawN_len (as := bs.map Prod.snd) (cs := row) (es := ns) i
      rw [en]
      generalize lawN (bs.map Prod.snd) row ns i = es at hE hle
      obtain ⟨t', hd, p⟩ := ar
      obtain ⟨t0, t1, d0, d1, _, p0, p1⟩ := ok1
      dsimp only at t0 t1 d0 d1 p0 p1
      obtain ⟨tn, rfl⟩ : ∃ tn : Nat, t' = (tn : Int) := ⟨t'.toNat, by omega⟩
      obtain ⟨hn, rfl⟩ : ∃ tn : Nat, hd = (tn : Int) := ⟨hd.toNat, by omega⟩
      obtain ⟨x, hx⟩ : ∃ x, es[tn]? = some x := ⟨_, List.getElem?_eq_getElem (by omega)⟩
      refine ⟨_, rfl, _, rfl, g, _, _, _, rfl, rfl, SqL.of (sh _ _ hg), atI_nat (by rw [List.getElem?_map, hbi]; rfl), ?_⟩
      refine ⟨t, _, rfl, .inl (.inl ht), rfl, _, _, rfl, _, _, rfl, _, _, rfl, rfl, ?_⟩
      refine ⟨_, rfl, _, rfl, L, _, _, _, rfl, rfl, SqL.of hE, atI_nat (at_ints hx), _, rfl, _, rfl, _, rfl, r, _, _, _, rfl, rfl, SqL.of (sh _ _ hr1), atI_nat (at_ints hz), _, _, rfl, rfl, cmul_small (abs_small (by show -(10 ^ 200) ≤ p; omega) (by show p ≤ 10 ^ 200; omega)) (abs_small (by have := hz1.1; omega) (by have := hz1.2; omega)), _, _, rfl, rfl, ?_⟩
      refine ⟨_, rfl, _, rfl, L, _, _, tn, rfl, rfl, hE, ixN_of rfl (by rw [List.length_map]; omega), ?_⟩
      have hE2 : upd H' L (.lst ((es.map V.int).set tn (.int (x - p * z)))) L = some (.lst ((es.set tn (x - p * z)).map V.int)) := by rw [upd_same, List.map_set]
      have s2 := smM (o := .lst ((es.map V.int).set tn (.int (x - p * z)))) sh hL
      generalize upd H' L (.lst ((es.map V.int).set tn (.int (x - p * z)))) = H2 at hE2 s2 ⊢
      obtain ⟨y, hy⟩ : ∃ y, (es.set tn (x - p * z))[hn]? = some y := ⟨_, List.getElem?_eq_getElem (by rw [List.length_set]; omega)⟩
      refine ⟨_, rfl, _, rfl, L, _, _, _, rfl, rfl, SqL.of hE2, atI_nat (at_ints hy), _, rfl, _, rfl, r, _, _, _, rfl, rfl, SqL.of (s2 _ _ hr1), atI_nat (at_ints hz), _, _, rfl, rfl, ?_⟩
      refine ⟨_, rfl, _, rfl, L, _, _, hn, rfl, rfl, hE2, ixN_of rfl (by rw [List.length_map, List.length_set]; omega), ?_⟩
      refine ⟨some (.int (i : Nat)), some (.int (tn : Nat)), some (.int (hn : Nat)), some (.int p), rfl, smM s2 hL, ?_⟩
      rw [upd_same]
      unfold pay1
      have e1 : es.getD tn 0 = x := by rw [List.getD_eq_getElem?_getD, hx]; rfl
      have e2 : (es.set tn (x - p * z)).getD hn 0 = y := by rw [List.getD_eq_getElem?_getD, hy]; rfl
      show _ = some (HO.lst ((((es.set (tn : Int).toNat (es.getD (tn : Int).toNat 0 - p * z)).set (hn : Int).toNat ((es.set (tn : Int).toNat (es.getD (tn : Int).toNat 0 - p * z)).getD (hn : Int).toNat 0 + z))).map V.int))
      rw [Int.toNat_natCast, Int.toNat_natCast, e1, e2]
      simp only [List.map_set]
    · obtain ⟨v4, v5, v6, v7, rfl, sh, hE⟩ := h
      exact ⟨_, rfl, k L H' sh hL hE⟩
end
end K12
set_option maxRecDepth 100000
set_option maxHeartbeats 4000000
namespace K12
open PySem PySem.Spec PyProof.Rows L2 SI
local macro_rules | `(tactic| walk_at "lk") => `(tactic| first | exact lk_hit | exact lk_nil | (refine lk_next (by decide +kernel) ?_; walk_at "lk"))
/-- one round: what the nodes send by what came before -/
def settled (ps qs ns ups : List Int) (t : Nat) : Prop := ∀ i, i < ps.length → ps.length ≤ i + t → ups.getD (i + 1) 0 = (ns.getD (i + 1) 0 + kV ps ups (i + 1) ps.length) / pw qs (i + 1)
/-- ups' is made of ups by one round -/
structure Round (ps qs ns ups ups' : List Int) : Prop where
  len : ups'.length = ups.length
  root : ups'.getD 0 0 = ups.getD 0 0
  at_ : ∀ i, i < ps.length → ups'.getD (i + 1) 0 = (ns.getD (i + 1) 0 + kV ps ups (i + 1) ps.length) / pw qs (i + 1)
theorem settled_next {ps qs ns ups ups' : List Int} {t : Nat} (ok : okT ps qs) (h : settled ps qs ns ups t) (r : Round ps qs ns ups ups') (hl : ups.length = ps.length + 1) : settled ps qs ns ups' (t + 1) := fun i hi ht => by
  rw [r.at_ i hi]
  congr 2
  refine kV_congr ok.par (fun u hu => ?_) ps.length
  rcases Nat.lt_or_ge u (ps.length + 1) with c | c
  · obtain ⟨j, rfl⟩ : ∃ j, u = j + 1 := ⟨u - 1, by omega⟩
    rw [r.at_ j (by omega)]
    exact h j (by omega) (by omega)
  · rw [List.getD_eq_getElem?_getD, List.getD_eq_getElem?_getD, List.getElem?_eq_none (by omega), List.getElem?_eq_none (by rw [r.len]; omega)]
def spLUps : Sp := fun vs H Q _ => ∃ (a b c : Addr) (ps qs ns : List Int), vs = [.ref a, .ref b, .ref c] ∧ H a = some (.lst (ps.map V.int)) ∧ H b = some (.lst (qs.map V.int)) ∧ H c = some (.lst (ns.map V.int)) ∧ okT ps qs ∧ ns.length = ps.length + 1 ∧
  ∀ q ups H', Same H H' → H q = none → H' q = some (.lst (List.map V.int ups)) → IsUps ps qs ns ups → Q (.ref q) H'
section
variable {P : Program} {w : World} {K : PySem.W.Frag} {mg : Str → Option Value} {base : Heap} {Ad1 Ad2 Ad3 Ad4 Ad5 Ad6 Ad7 Ad9 Ad10 Ad11 Ad12 Ad13 Ad14 Ad20 : Addr}
theorem scLUps : FnScope ["parents", "prices", "counts", "ups", "turn", "have", "at", "before"] ["parents", "prices", "counts"] (defScope sLUps) := ⟨rfl, rfl, rfl, by decide +kernel, rfl, by decide +kernel, by decide +kernel⟩
theorem ok_LUps (T : Txt P w K mg base Ad1 Ad2 Ad3 Ad4 Ad5 Ad6 Ad7 Ad9 Ad10 Ad11 Ad12 Ad13 Ad14 Ad20) : Cl P w K mg base 1 "_law_ups" spLUps [] := by
  refine cl_of T.d__law_ups scLUps (fun vs H Q E h => ?_) fun f cdv A outer s H vs Q E hr h => ?_
  · obtain ⟨a, b, c, ps, qs, ns, rfl, _⟩ := h
    rfl
  · obtain ⟨a, b, c, ps, qs, ns, rfl, ha, hb, hc, ok, hn, k⟩ := h
    refine ⟨_, (pss_cons (ps_set (i := 3) scLUps.nd rfl (by first | exact Or.inl rfl | exact Or.inr rfl) (pe_op op_rep (pe_lst (pa_cons pe_int pa_nil)) (pe_callB call_len_seq (by rfl) T.b_len (by decide +kernel) (pa_cons (pv 2) pa_nil))))
  (pss_cons (ps_for (passes_of rfl) rfl (pi_range1 (by rfl) T.b_range (pa_cons (pe_callB call_len_seq (by rfl) T.b_len (by decide +kernel) (pa_cons (pv 2) pa_nil)) pa_nil)) (pg_name (i := 4) scLUps.nd rfl (by first | exact Or.inl rfl | exact Or.inr rfl))
    (pss_cons (ps_set (i := 5) scLUps.nd rfl (by first | exact Or.inl rfl | exact Or.inr rfl) (pe_callTy call_list_of (by rfl) T.b_list (by decide +kernel) (pa_cons (pv 2) pa_nil)))
    (pss_cons (ps_for (passes_of rfl) rfl (pi_range1 (by rfl) T.b_range (pa_cons (pe_callB call_len_seq (by rfl) T.b_len (by decide +kernel) (pa_cons (pv 0) pa_nil)) pa_nil)) (pg_name (i := 6) scLUps.nd rfl (by first | exact Or.inl rfl | exact Or.inr rfl))
      (pss_one (ps_asg (pe_op op_add (pe_ix ix_list (pv 5) (pe_ix ix_list (pv 0) (pv 6) (fun _ _ => rfl)) (fun _ _ => rfl)) (pe_ix ix_list (pv 3) (pe_op op_add (pv 6) pe_int) (fun _ _ => rfl))) (pg_sub (pv 5) (pe_ix ix_list (pv 0) (pv 6) (fun _ _ => rfl)) set_list))))
    (pss_cons (ps_set (i := 7) scLUps.nd rfl (by first | exact Or.inl rfl | exact Or.inr rfl) (pe_callTy call_list_of (by rfl) T.b_list (by decide +kernel) (pa_cons (pv 3) pa_nil)))
    (pss_cons (ps_for (passes_of rfl) rfl (pi_range1 (by rfl) T.b_range (pa_cons (pe_callB call_len_seq (by rfl) T.b_len (by decide +kernel) (pa_cons (pv 0) pa_nil)) pa_nil)) (pg_name (i := 6) scLUps.nd rfl (by first | exact Or.inl rfl | exact Or.inr rfl))
      (pss_one (ps_asg (pe_op op_fdivW (pe_ix ix_list (pv 5) (pe_op op_add (pv 6) pe_int) (fun _ _ => rfl)) (pe_ix ix_list (pv 1) (pv 6) (fun _ _ => rfl))) (pg_sub (pv 3) (pe_op op_add (pv 6) pe_int) set_list))))
    (pss_one (ps_if (pt_cmpR (op_eqD hr.units) (pv 3) (pv 7) (nomark _))
      (pss_one ps_break)
      pss_nil)))))))
  (pss_one (ps_ret (pv 3))))), ?_⟩
    have hlen := ok.1
    have hlq := ok.2.1
    have lns : ((((ns.map V.int).length : Nat)) : Int) = (ps.length : Int) + 1 := by rw [List.length_map, hn]; rfl
    refine ⟨by show 1 ≤ sizeLine; decide, fun z1 h1 => ?_⟩
    have s1 : Same H (upd H z1 (.lst [.int 0])) := sm0 h1
    refine ⟨_, rfl, c, _, rfl, .inl (SqL.of (s1 _ _ hc)), z1, _, _, rfl, rfl, upd_same, by rw [lns]; omega, by rw [lns]; omega, sz_small (by rw [lns]; simp; omega), fun U hU => ?_⟩
    rw [lns, show ((ps.length : Int) + 1).toNat = ps.length + 1 by omega, rep_one]
    have s2 : Same H (upd (upd H z1 (.lst [.int 0])) U (.lst (List.replicate (ps.length + 1) (.int 0)))) := smN s1 hU
    have hU2 : upd (upd H z1 (.lst [.int 0])) U (.lst (List.replicate (ps.length + 1) (.int 0))) U = some (.lst ((List.replicate (ps.length + 1) (0 : Int)).map V.int)) := by rw [upd_same, List.map_replicate]
    have fU := s1.free hU
    generalize upd (upd H z1 (.lst [.int 0])) U (.lst (List.replicate (ps.length + 1) (.int 0))) = H2 at s2 hU2 ⊢
    refine ⟨_, rfl, c, _, rfl, .inl (SqL.of (s2 _ _ hc)), _, rfl, by rw [lns]; omega, by rw [lns]; omega, ?_⟩
    rw [lns, show ((ps.length : Int) + 1).toNat = ps.length + 1 by omega]
    have r0 : (List.replicate (ps.length + 1) (0 : Int)).getD 0 0 = 0 := by rw [List.getD_eq_getElem?_getD, List.getElem?_replicate]; split <;> rfl
    refine for_range (lo := 0) (n := ps.length + 1) (fun t σ H' => ∃ (v4 v5 v6 v7 : Option V) (ups : List Int), σ = [some (.ref a), some (.ref b), some (.ref c), some (.ref U), v4, v5, v6, v7] ∧ Same H H' ∧ H' U = some (.lst (ups.map V.int)) ∧ ups.length = ps.length + 1 ∧ ups.getD 0 0 = 0 ∧ settled ps qs ns ups t)
      ⟨none, none, none, none, _, rfl, s2, hU2, by simp, r0, fun i hi ht => by omega⟩ (fun t σ H' ht h => ?_) fun σ H' h => ?_
    · obtain ⟨v4, v5, v6, v7, ups, rfl, sh, hu, hlu, hu0, hset⟩ := h
      -- have: what lies there and what came
      refine ⟨_, rfl, c, _, rfl, .inl (SqL.of (sh _ _ hc)), fun F hF => ?_⟩
      have sF : Same H (upd H' F (.lst (ns.map V.int))) := smN sh hF
      have hF1 : upd H' F (.lst (ns.map V.int)) F = some (.lst (ns.map V.int)) := upd_same
      have hu1 := atN (q := F) (o := .lst (ns.map V.int)) hu hF
      have nUF : U ≠ F := ne_of_none hu hF
      have fF := sh.free hF
      generalize upd H' F (.lst (ns.map V.int)) = H3 at sF hF1 hu1 ⊢
      refine ⟨_, rfl, a, _, rfl, .inl (SqL.of (sF _ _ ha)), _, rfl, by simp <;> omega, by simp <;> omega, ?_⟩
      rw [show ((((ps.map V.int).length : Nat) : Int)).toNat = ps.length by simp]
      refine for_range (lo := 0) (n := ps.length) (fun i σ H4 => ∃ (v6 : Option V) (h : List Int), σ = [some (.ref a), some (.ref b), some (.ref c), some (.ref U), some (.int (0 + (t : Nat))), some (.ref F), v6, v7] ∧ Same H H4 ∧ H4 U = some (.lst (ups.map V.int)) ∧ H4 F = some (.lst (h.map V.int)) ∧ h.length = ps.length + 1 ∧ ∀ u, h.getD u 0 = ns.getD u 0 + kV ps ups u i)
        ⟨v6, ns, rfl, sF, hu1, hF1, hn, fun u => (Int.add_zero _).symm⟩ (fun i σ H4 hi h => ?_) fun σ H4 h => ?_
      · obtain ⟨v6, h, rfl, s4, hu4, hF4, hlh, hh⟩ := h
        rw [Int.zero_add]
        obtain ⟨hp, hpi⟩ := par_lt ok hi
        obtain ⟨x, hx⟩ : ∃ x, h[par ps i]? = some x := ⟨_, List.getElem?_eq_getElem (by omega)⟩
        obtain ⟨y, hy⟩ : ∃ y, ups[i + 1]? = some y := ⟨_, List.getElem?_eq_getElem (by omega)⟩
        refine ⟨_, rfl, _, rfl, _, rfl, a, _, _, _, rfl, rfl, SqL.of (s4 _ _ ha), atI_nat (at_ints hp), F, _, _, _, rfl, rfl, SqL.of hF4, atI_nat (at_ints hx), _, rfl, _, rfl, _, _, rfl, rfl, U, _, _, _, rfl, rfl, SqL.of hu4, at_of (j := i + 1) (by omega) (at_ints hy), _, _, rfl, rfl, ?_⟩
        refine ⟨_, rfl, _, rfl, _, rfl, a, _, _, _, rfl, rfl, SqL.of (s4 _ _ ha), atI_nat (at_ints hp), F, _, _, par ps i, rfl, rfl, hF4, ixN_of rfl (by rw [List.length_map]; omega), ?_⟩
        refine ⟨some (.int (i : Nat)), h.set (par ps i) (x + y), rfl, smM s4 fF, by rw [upd_ne nUF]; exact hu4, by rw [upd_same, List.map_set], by rw [List.length_set, hlh], fun u => ?_⟩
        have ey : ups.getD (i + 1) 0 = y := by rw [List.getD_eq_getElem?_getD, hy]; rfl
        have ex : h.getD (par ps i) 0 = x := by rw [List.getD_eq_getElem?_getD, hx]; rfl
        have ek : kV ps ups u (i + 1) = kV ps ups u i + (if par ps i = u then y else 0) := by
          show kV ps ups u i + (if ps[i]? = some ((u : Nat) : Int) then ups.getD (i + 1) 0 else 0) = _
          rw [hp, ey]
          by_cases c : par ps i = u
          · rw [if_pos c, if_pos (by rw [c])]
          · rw [if_neg c, if_neg (fun z : some ((par ps i : Nat) : Int) = some ((u : Nat) : Int) => c (by have := Option.some.inj z; omega))]
        rw [ek, getD_set (by omega)]
        by_cases c : par ps i = u
        · rw [if_pos c, if_pos c]
          have := hh u
          rw [← c, ex, c] at this
          omega
        · rw [if_neg c, if_neg c, Int.add_zero]
          exact hh u
      obtain ⟨v6, h, rfl, s4, hu4, hF4, hlh, hh⟩ := h
      -- before
      refine ⟨_, rfl, U, _, rfl, .inl (SqL.of hu4), fun Bf hB => ?_⟩
      have s5 : Same H (upd H4 Bf (.lst (ups.map V.int))) := smN s4 hB
      have hB5 : upd H4 Bf (.lst (ups.map V.int)) Bf = some (.lst (ups.map V.int)) := upd_same
      have hu5 := atN (q := Bf) (o := .lst (ups.map V.int)) hu4 hB
      have hF5 := atN (q := Bf) (o := .lst (ups.map V.int)) hF4 hB
      have nUB : U ≠ Bf := ne_of_none hu4 hB
      generalize upd H4 Bf (.lst (ups.map V.int)) = H5 at s5 hB5 hu5 hF5 ⊢
      refine ⟨_, rfl, a, _, rfl, .inl (SqL.of (s5 _ _ ha)), _, rfl, by simp <;> omega, by simp <;> omega, ?_⟩
      rw [show ((((ps.map V.int).length : Nat) : Int)).toNat = ps.length by simp]
      refine for_range (lo := 0) (n := ps.length) (fun i σ H6 => ∃ (v6 : Option V) (us : List Int), σ = [some (.ref a), some (.ref b), some (.ref c), some (.ref U), some (.int (0 + (t : Nat))), some (.ref F), v6, some (.ref Bf)] ∧ Same H H6 ∧ H6 U = some (.lst (us.map V.int)) ∧ H6 F = some (.lst (h.map V.int)) ∧ H6 Bf = some (.lst (ups.map V.int)) ∧ us.length = ps.length + 1 ∧ us.getD 0 0 = 0 ∧ ∀ j, j < i → us.getD (j + 1) 0 = h.getD (j + 1) 0 / pw qs (j + 1))
        ⟨v6, ups, rfl, s5, hu5, hF5, hB5, hlu, hu0, fun j hj => absurd hj (Nat.not_lt_zero _)⟩ (fun i σ H6 hi h' => ?_) fun σ H6 h' => ?_
      · obtain ⟨v6, us, rfl, s6, hu6, hF6, hB6, hl6, h06, hd⟩ := h'
        rw [Int.zero_add]
        obtain ⟨q, hq⟩ : ∃ q, qs[i]? = some q := ⟨_, List.getElem?_eq_getElem (by omega)⟩
        obtain ⟨x, hx⟩ : ∃ x, h[i + 1]? = some x := ⟨_, List.getElem?_eq_getElem (by omega)⟩
        have hqb := pw_ok ok (u := i + 1) (by omega) (by omega)
        have epw := pw_of hq
        rw [epw] at hqb
        refine ⟨_, rfl, _, rfl, _, _, rfl, rfl, F, _, _, _, rfl, rfl, SqL.of hF6, at_of (j := i + 1) (by omega) (at_ints hx), _, rfl, _, rfl, b, _, _, _, rfl, rfl, SqL.of (s6 _ _ hb), atI_nat (at_ints hq), _, _, rfl, rfl, cdiv_small (by omega) (by omega), ?_⟩
        refine ⟨_, rfl, _, rfl, _, _, rfl, rfl, U, _, _, i + 1, rfl, rfl, hu6, ixN_of (by omega) (by rw [List.length_map]; omega), ?_⟩
        refine ⟨some (.int (i : Nat)), us.set (i + 1) (x / q), rfl, smM s6 fU, by rw [upd_same, List.map_set], by rw [upd_ne (Ne.symm nUF)]; exact hF6, by rw [upd_ne (Ne.symm nUB)]; exact hB6, by rw [List.length_set, hl6], by rw [getD_set (by omega), if_neg (by omega)]; exact h06, fun j hj => ?_⟩
        rw [getD_set (by omega)]
        by_cases c : i = j
        · subst c
          have ex : h.getD (i + 1) 0 = x := by rw [List.getD_eq_getElem?_getD, hx]; rfl
          rw [if_pos rfl, ex, epw]
        · rw [if_neg (by omega)]
          exact hd j (by omega)
      obtain ⟨v6, us, rfl, s6, hu6, hF6, hB6, hl6, h06, hd⟩ := h'
      have hround : Round ps qs ns ups us := ⟨by rw [hl6, hlu], by rw [h06, hu0], fun i hi => by rw [hd i hi, hh]⟩
      refine ⟨_, rfl, _, rfl, _, _, dpL (ns := us) (SqL.of hu6), dpL (ns := ups) (SqL.of hB6), shL _, shL _, ?_⟩
      rw [eqvL]
      refine ⟨_, rfl, ifD (fun e => ?_) fun _ => ?_⟩
      · have hI : IsUps ps qs ns us := ⟨hl6, h06, fun i hi => by rw [hround.at_ i hi, e]⟩
        exact ⟨_, rfl, k U us H6 s6 fU hu6 hI⟩
      · exact ⟨_, _, _, _, us, rfl, s6, hu6, hl6, h06, settled_next ok hset hround hlu⟩
    · obtain ⟨v4, v5, v6, v7, ups, rfl, sh, hu, hlu, hu0, hset⟩ := h
      exact ⟨_, rfl, k U ups H' sh fU hu ⟨hlu, hu0, fun i hi => hset i hi (by omega)⟩⟩
end
end K12
set_option maxRecDepth 100000
set_option maxHeartbeats 4000000
namespace K12
open PySem PySem.Spec PyProof.Rows L2 SI
/-! the ends of a flow of moves up -/
def ctr (a : Ar) (c : Int) (v : Nat) : Int := (if a.2.1 = (v : Int) then c else 0) - (if a.1 = (v : Int) then a.2.2 * c else 0)
def fl (ups : List Int) (a : Ar) : Int := if a.2.1 < a.1 then ups.getD a.1.toNat 0 else 0
theorem flowR_eq (ups : List Int) (as : List Ar) : flowR ups as = as.map (fl ups) := rfl
theorem pay1_at {es : List Int} {a : Ar} {c : Int} {v : Nat} (ok : okA (es.length : Nat) a) : (pay1 es a c).getD v 0 = es.getD v 0 + ctr a c v := by
  obtain ⟨t, hd, p⟩ := a
  obtain ⟨t0, t1, d0, d1, ne, p0, p1⟩ := ok
  dsimp only at t0 t1 d0 d1 ne p0 p1
  obtain ⟨tn, rfl⟩ : ∃ tn : Nat, t = (tn : Int) := ⟨t.toNat, by omega⟩
  obtain ⟨hn, rfl⟩ : ∃ tn : Nat, hd = (tn : Int) := ⟨hd.toNat, by omega⟩
  show ((es.set tn (es.getD tn 0 - p * c)).set hn ((es.set tn (es.getD tn 0 - p * c)).getD hn 0 + c)).getD v 0 = es.getD v 0 + ((if (hn : Int) = (v : Int) then c else 0) - (if (tn : Int) = (v : Int) then p * c else 0))
  rw [getD_set (by rw [List.length_set]; omega), getD_set (by omega), getD_set (by omega)]
  by_cases h1 : hn = v
  · subst h1
    rw [if_pos rfl, if_pos rfl, if_neg (by omega), if_neg (by omega)]
    omega
  · rw [if_neg h1, if_neg (show ¬ (hn : Int) = (v : Int) by omega)]
    by_cases h2 : tn = v
    · subst h2
      rw [if_pos rfl, if_pos rfl]
      generalize p * c = z
      omega
    · rw [if_neg h2, if_neg (show ¬ (tn : Int) = (v : Int) by omega)]
      omega
theorem pay1_zero {es : List Int} {a : Ar} (ok : okA (es.length : Nat) a) : pay1 es a 0 = es := by
  refine List.ext_getElem (pay1_len) fun i h1 h2 => ?_
  have h := pay1_at (c := 0) (v := i) ok
  rw [List.getD_eq_getElem?_getD, List.getElem?_eq_getElem h1, List.getD_eq_getElem?_getD, List.getElem?_eq_getElem h2] at h
  have e : ctr a 0 i = 0 := by
    unfold ctr
    rw [Int.mul_zero]
    split <;> split <;> rfl
  rw [e, Int.add_zero] at h
  exact h
theorem aft_law {as : List Ar} {cs es : List Int} (ok : ∀ a ∈ as, okA (es.length : Nat) a) (hc : ∀ c ∈ cs, 0 ≤ c) : ∀ k, aftN as cs es k = lawN as cs es k
  | 0 => rfl
  | k + 1 => by
    have ih := aft_law ok hc k
    show (match as[k]?, cs[k]? with | some a, some c => if 0 < c then pay1 (aftN as cs es k) a c else aftN as cs es k | _, _ => aftN as cs es k) = (match as[k]?, cs[k]? with | some a, some c => pay1 (lawN as cs es k) a c | _, _ => lawN as cs es k)
    rw [ih]
    cases ea : as[k]? with
    | none => rfl
    | some a =>
      cases ec : cs[k]? with
      | none => rfl
      | some c =>
        show (if 0 < c then pay1 (lawN as cs es k) a c else lawN as cs es k) = pay1 (lawN as cs es k) a c
        by_cases h : 0 < c
        · rw [if_pos h]
        · rw [if_neg h]
          have c0 : c = 0 := by have := hc c (List.mem_of_getElem? ec); omega
          subst c0
          exact (pay1_zero (by rw [lawN_len]; exact ok a (List.mem_of_getElem? ea))).symm
theorem law_at {as : List Ar} {ups es : List Int} {v : Nat} (ok : ∀ a ∈ as, okA (es.length : Nat) a) : ∀ k, k ≤ as.length → (lawN as (flowR ups as) es k).getD v 0 = es.getD v 0 + ((as.take k).map fun a => ctr a (fl ups a) v).sum
  | 0, _ => by show es.getD v 0 = es.getD v 0 + 0; omega
  | k + 1, hk => by
    have ih := law_at (ups := ups) (v := v) ok k (by omega)
    obtain ⟨a, ha⟩ : ∃ a, as[k]? = some a := ⟨_, List.getElem?_eq_getElem (by omega)⟩
    have hc : (flowR ups as)[k]? = some (fl ups a) := by rw [flowR_eq, List.getElem?_map, ha]; rfl
    have e : lawN as (flowR ups as) es (k + 1) = pay1 (lawN as (flowR ups as) es k) a (fl ups a) := by
      show (match as[k]?, (flowR ups as)[k]? with | some a, some c => pay1 (lawN as (flowR ups as) es k) a c | _, _ => lawN as (flowR ups as) es k) = _
      rw [ha, hc]
    have et : as.take (k + 1) = as.take k ++ [a] := by rw [List.take_add_one, ha]; rfl
    rw [e, pay1_at (by rw [lawN_len]; exact ok a (List.mem_of_getElem? ha)), ih, et, List.map_append, List.sum_append, Int.add_assoc]
    show _ = es.getD v 0 + (_ + (ctr a (fl ups a) v + 0))
    rw [Int.add_zero]
theorem sum_setI : ∀ (es : List Int) (i : Nat) (x : Int), i < es.length → (es.set i x).sum = es.sum - es.getD i 0 + x
  | [], i, x, h => absurd h (by simp)
  | e :: es, 0, x, h => by show x + es.sum = e + es.sum - e + x; omega
  | e :: es, i + 1, x, h => by
    have ih := sum_setI es i x (by simpa using h)
    show e + (es.set i x).sum = e + es.sum - es.getD i 0 + x
    rw [ih]
    omega
theorem pay1_sum {es : List Int} {a : Ar} {c : Int} (ok : okA (es.length : Nat) a) (hc : 0 ≤ c) : (pay1 es a c).sum ≤ es.sum - c := by
  obtain ⟨t, hd, p⟩ := a
  obtain ⟨t0, t1, d0, d1, ne, p0, p1⟩ := ok
  dsimp only at t0 t1 d0 d1 ne p0 p1
  obtain ⟨tn, rfl⟩ : ∃ tn : Nat, t = (tn : Int) := ⟨t.toNat, by omega⟩
  obtain ⟨hn, rfl⟩ : ∃ tn : Nat, hd = (tn : Int) := ⟨hd.toNat, by omega⟩
  show ((es.set tn (es.getD tn 0 - p * c)).set hn ((es.set tn (es.getD tn 0 - p * c)).getD hn 0 + c)).sum ≤ es.sum - c
  rw [sum_setI _ _ _ (by rw [List.length_set]; omega), sum_setI _ _ _ (by omega)]
  have h : 2 * c ≤ p * c := Int.mul_le_mul_of_nonneg_right p0 hc
  generalize p * c = z at h
  omega
theorem law_sum {as : List Ar} {cs es : List Int} (ok : ∀ a ∈ as, okA (es.length : Nat) a) (hc : ∀ c ∈ cs, 0 ≤ c) (hl : cs.length = as.length) : ∀ k, k ≤ as.length → (lawN as cs es k).sum ≤ es.sum - (cs.take k).sum
  | 0, _ => by show es.sum ≤ es.sum - 0; omega
  | k + 1, hk => by
    have ih := law_sum ok hc hl k (by omega)
    obtain ⟨a, ha⟩ : ∃ a, as[k]? = some a := ⟨_, List.getElem?_eq_getElem (by omega)⟩
    obtain ⟨c, hcc⟩ : ∃ c, cs[k]? = some c := ⟨_, List.getElem?_eq_getElem (by omega)⟩
    have e : lawN as cs es (k + 1) = pay1 (lawN as cs es k) a c := by
      show (match as[k]?, cs[k]? with | some a, some c => pay1 (lawN as cs es k) a c | _, _ => lawN as cs es k) = _
      rw [ha, hcc]
    have et : cs.take (k + 1) = cs.take k ++ [c] := by rw [List.take_add_one, hcc]; rfl
    have h2 := pay1_sum (c := c) (show okA ((lawN as cs es k).length : Nat) a by rw [lawN_len]; exact ok a (List.mem_of_getElem? ha)) (hc c (List.mem_of_getElem? hcc))
    rw [e, et, List.sum_append]
    have e3 : [c].sum = c := by show c + 0 = c; omega
    omega
theorem sum_permI {α : Type} {f : α → Int} {xs ys : List α} (h : xs.Perm ys) : (xs.map f).sum = (ys.map f).sum := by
  induction h with
  | nil => rfl
  | cons x _ ih => rw [List.map_cons, List.map_cons, List.sum_cons, List.sum_cons, ih]
  | swap x y l => show f y + (f x + _) = f x + (f y + _); omega
  | trans _ _ h1 h2 => rw [h1, h2]
theorem sum_nn : ∀ (xs : List Int), (∀ x ∈ xs, 0 ≤ x) → 0 ≤ xs.sum
  | [], _ => Int.le_refl _
  | x :: xs, h => by
    have h1 := h x (List.mem_cons_self ..)
    have h2 := sum_nn xs fun y hy => h y (List.mem_cons_of_mem _ hy)
    show 0 ≤ x + xs.sum
    omega
theorem le_sumI : ∀ (xs : List Int), (∀ x ∈ xs, 0 ≤ x) → ∀ x ∈ xs, x ≤ xs.sum
  | [], _, x, h => by cases h
  | y :: xs, hn, x, h => by
    have h1 := hn y (List.mem_cons_self ..)
    have h2 := sum_nn xs fun z hz => hn z (List.mem_cons_of_mem _ hz)
    show x ≤ y + xs.sum
    rcases List.mem_cons.mp h with rfl | h
    · omega
    · have := le_sumI xs (fun z hz => hn z (List.mem_cons_of_mem _ hz)) x h
      omega
theorem sum_leI (B : Int) : ∀ (xs : List Int), (∀ x ∈ xs, x ≤ B) → xs.sum ≤ B * xs.length
  | [], _ => by simp
  | x :: xs, h => by
    have h1 := h x (List.mem_cons_self ..)
    have h2 := sum_leI B xs fun y hy => h y (List.mem_cons_of_mem _ hy)
    show x + xs.sum ≤ B * ((xs.length + 1 : Nat) : Int)
    rw [Int.natCast_add, Int.mul_add]
    show _ ≤ _ + B * 1
    omega
section
variable {ps qs : List Int} {both : Bool}
theorem kV_nn {ups : List Int} {v : Nat} (ok : parOk ps) (h : ∀ u, v < u → 0 ≤ ups.getD u 0) : ∀ i, 0 ≤ kV ps ups v i
  | 0 => Int.le_refl _
  | i + 1 => by
    have ih := kV_nn ok h i
    show 0 ≤ kV ps ups v i + (if ps[i]? = some (v : Int) then ups.getD (i + 1) 0 else 0)
    by_cases c : ps[i]? = some (v : Int)
    · rw [if_pos c]
      have := h (i + 1) (by have := ok i _ c; omega)
      omega
    · rw [if_neg c]
      omega
theorem ups_nn {ns ups : List Int} (ok : okT ps qs) (h : IsUps ps qs ns ups) (hn : ∀ v, 0 ≤ ns.getD v 0) : ∀ (d u : Nat), ps.length ≤ u + d → 0 ≤ ups.getD u 0
  | 0, u, hu => by
    rcases Nat.lt_or_ge ps.length u with c | c
    · rw [List.getD_eq_getElem?_getD, List.getElem?_eq_none (by rw [h.len]; omega)]
      exact Int.le_refl _
    · cases u with
      | zero => rw [h.root]; exact Int.le_refl _
      | succ i =>
        rw [h.at_ i (by omega)]
        refine Int.ediv_nonneg (Int.add_nonneg (hn _) (kV_nn ok.par (fun u hu2 => ?_) _)) (by have := (pw_ok ok (u := i + 1) (by omega) (by omega)).1; omega)
        rw [List.getD_eq_getElem?_getD, List.getElem?_eq_none (by rw [h.len]; omega)]
        exact Int.le_refl _
  | d + 1, u, hu => by
    rcases Nat.lt_or_ge ps.length u with c | c
    · rw [List.getD_eq_getElem?_getD, List.getElem?_eq_none (by rw [h.len]; omega)]
      exact Int.le_refl _
    · cases u with
      | zero => rw [h.root]; exact Int.le_refl _
      | succ i =>
        rw [h.at_ i (by omega)]
        refine Int.ediv_nonneg (Int.add_nonneg (hn _) (kV_nn ok.par (fun u hu2 => ups_nn ok h hn d u (by omega)) _)) (by have := (pw_ok ok (u := i + 1) (by omega) (by omega)).1; omega)
theorem tw_sum {ups : List Int} {v : Nat} (ok : okT ps qs) : ∀ i, i ≤ ps.length → ((twA ps qs both i).map fun a => ctr a (fl ups a) v).sum = kV ps ups v i - (if 1 ≤ v ∧ v ≤ i then pw qs v * ups.getD v 0 else 0)
  | 0, _ => by
    rw [if_neg (by omega)]
    rfl
  | i + 1, hi => by
    have ih := tw_sum (ups := ups) (v := v) ok i (by omega)
    obtain ⟨p0, p1, _, _⟩ := par_i ok (i := i) (by omega)
    have hp : ps[i]? = some (ps.getD i 0) := by rw [List.getD_eq_getElem?_getD, List.getElem?_eq_getElem (show i < ps.length by omega)]; rfl
    have e1 : ctr (((i + 1 : Nat) : Int), ps.getD i 0, pw qs (i + 1)) (fl ups (((i + 1 : Nat) : Int), ps.getD i 0, pw qs (i + 1))) v = (if ps[i]? = some (v : Int) then ups.getD (i + 1) 0 else 0) - (if i + 1 = v then pw qs (i + 1) * ups.getD (i + 1) 0 else 0) := by
      have e : fl ups (((i + 1 : Nat) : Int), ps.getD i 0, pw qs (i + 1)) = ups.getD (i + 1) 0 := by
        unfold fl
        rw [if_pos (show ps.getD i 0 < ((i + 1 : Nat) : Int) by omega)]
        rfl
      rw [e]
      show (if ps.getD i 0 = (v : Int) then _ else 0) - (if ((i + 1 : Nat) : Int) = (v : Int) then _ else 0) = _
      rw [hp]
      congr 1
      · by_cases c : ps.getD i 0 = (v : Int)
        · rw [if_pos c, if_pos (by rw [c])]
        · rw [if_neg c, if_neg fun z => c (Option.some.inj z)]
      · by_cases c : i + 1 = v
        · rw [if_pos (show ((i + 1 : Nat) : Int) = (v : Int) by omega), if_pos c]
        · rw [if_neg (show ¬ ((i + 1 : Nat) : Int) = (v : Int) by omega), if_neg c]
    have e2 : (((if both = true then [(ps.getD i 0, ((i + 1 : Nat) : Int), pw qs (i + 1))] else []) : List Ar).map fun a => ctr a (fl ups a) v).sum = 0 := by
      cases both with
      | false => rfl
      | true =>
        show ctr _ (fl ups (ps.getD i 0, ((i + 1 : Nat) : Int), pw qs (i + 1))) v + 0 = 0
        have e : fl ups (ps.getD i 0, ((i + 1 : Nat) : Int), pw qs (i + 1)) = 0 := by
          unfold fl
          rw [if_neg (show ¬ ((i + 1 : Nat) : Int) < ps.getD i 0 by omega)]
        rw [e]
        unfold ctr
        rw [Int.mul_zero]
        split <;> split <;> rfl
    show ((twA ps qs both i ++ ((((i + 1 : Nat) : Int), ps.getD i 0, pw qs (i + 1)) :: if both = true then [(ps.getD i 0, ((i + 1 : Nat) : Int), pw qs (i + 1))] else [])).map fun a => ctr a (fl ups a) v).sum = kV ps ups v i + (if ps[i]? = some (v : Int) then ups.getD (i + 1) 0 else 0) - _
    rw [List.map_append, List.sum_append, List.map_cons, List.sum_cons, ih, e1, e2]
    by_cases c : i + 1 = v
    · subst c
      rw [if_neg (show ¬ (1 ≤ i + 1 ∧ i + 1 ≤ i) by omega), if_pos rfl, if_pos (show 1 ≤ i + 1 ∧ i + 1 ≤ i + 1 by omega)]
      omega
    · rw [if_neg c]
      by_cases c2 : 1 ≤ v ∧ v ≤ i
      · rw [if_pos c2, if_pos (show 1 ≤ v ∧ v ≤ i + 1 by omega)]
        omega
      · rw [if_neg c2, if_neg (show ¬ (1 ≤ v ∧ v ≤ i + 1) by omega)]
        omega
/-- what the flow of the moves up leaves -/
theorem ends_at {ns ups : List Int} {as : List Ar} {v : Nat} (ok : okT ps qs) (hn : ns.length = ps.length + 1) (hp : as.Perm (twA ps qs both ps.length)) :
    (lawN as (flowR ups as) ns as.length).getD v 0 = ns.getD v 0 + kV ps ups v ps.length - (if 1 ≤ v ∧ v ≤ ps.length then pw qs v * ups.getD v 0 else 0) := by
  rw [law_at (fun a ha => by rw [hn]; exact (twA_ok ok _ (Nat.le_refl _) a (hp.mem_iff.mp ha)).1) _ (Nat.le_refl _), List.take_length, sum_permI hp, tw_sum ok _ (Nat.le_refl _)]
  omega
theorem ends_root {ns ups : List Int} {as : List Ar} (ok : okT ps qs) (hn : ns.length = ps.length + 1) (hp : as.Perm (twA ps qs both ps.length)) :
    (lawN as (flowR ups as) ns as.length).getD 0 0 = ns.getD 0 0 + kV ps ups 0 ps.length := by
  rw [ends_at ok hn hp, if_neg (by omega)]
  omega
theorem getD_nn {ns : List Int} (h : ∀ x ∈ ns, 0 ≤ x) (v : Nat) : 0 ≤ ns.getD v 0 := by
  rw [List.getD_eq_getElem?_getD]
  cases e : ns[v]? with
  | none => exact Int.le_refl _
  | some x => exact h x (List.mem_of_getElem? e)
theorem ends_nn {ns ups : List Int} {as : List Ar} (ok : okT ps qs) (h : IsUps ps qs ns ups) (hn : ns.length = ps.length + 1) (h0 : ∀ x ∈ ns, 0 ≤ x) (hp : as.Perm (twA ps qs both ps.length)) :
    ∀ x ∈ lawN as (flowR ups as) ns as.length, 0 ≤ x := by
  intro x hx
  obtain ⟨v, hv⟩ := List.mem_iff_getElem?.mp hx
  have hl := (List.getElem?_eq_some_iff.mp hv).1
  rw [lawN_len] at hl
  have e := ends_at (v := v) (ups := ups) ok hn hp
  rw [List.getD_eq_getElem?_getD, hv] at e
  have e : x = _ := e
  rw [e]
  have u0 := fun u => ups_nn ok h (getD_nn h0) ps.length u (by omega)
  cases v with
  | zero =>
    rw [if_neg (by omega)]
    have := getD_nn h0 0
    have := kV_nn (v := 0) ok.par (fun u _ => u0 u) ps.length
    omega
  | succ i =>
    rw [if_pos (show 1 ≤ i + 1 ∧ i + 1 ≤ ps.length by omega), h.at_ i (by omega)]
    have q2 := (pw_ok ok (u := i + 1) (by omega) (by omega)).1
    generalize ns.getD (i + 1) 0 + kV ps ups (i + 1) ps.length = y
    have m0 := Int.emod_nonneg y (show pw qs (i + 1) ≠ 0 by omega)
    have m1 := Int.mul_ediv_add_emod y (pw qs (i + 1))
    omega
theorem row_nn {ns ups : List Int} {as : List Ar} (ok : okT ps qs) (h : IsUps ps qs ns ups) (h0 : ∀ x ∈ ns, 0 ≤ x) : ∀ c ∈ flowR ups as, 0 ≤ c := by
  intro c hc
  obtain ⟨a, _, rfl⟩ := List.mem_map.mp hc
  split
  · exact ups_nn ok h (getD_nn h0) ps.length _ (by omega)
  · exact Int.le_refl _
theorem row_ok {ns ups : List Int} {as : List Ar} (ok : okT ps qs) (h : IsUps ps qs ns ups) (hn : ns.length = ps.length + 1) (h0 : ∀ x ∈ ns, 0 ≤ x ∧ x ≤ 10 ^ 80) (hp : as.Perm (twA ps qs both ps.length)) : okEs (flowR ups as) := by
  intro c hc
  have n0 : ∀ x ∈ ns, 0 ≤ x := fun x hx => (h0 x hx).1
  have r0 := row_nn (as := as) ok h n0
  refine ⟨r0 c hc, ?_⟩
  have hl : (flowR ups as).length = as.length := by rw [flowR_eq, List.length_map]
  have s1 := law_sum (es := ns) (fun a ha => by rw [hn]; exact (twA_ok ok _ (Nat.le_refl _) a (hp.mem_iff.mp ha)).1) r0 hl _ (Nat.le_refl _)
  have s2 := sum_nn _ (ends_nn ok h hn n0 hp)
  have s3 := le_sumI _ r0 c hc
  have s4 := sum_leI (10 ^ 80) ns fun x hx => (h0 x hx).2
  rw [← hl, List.take_length] at s1
  rw [hl] at s1
  have l60 : ns.length ≤ 60 := by have := ok.1; omega
  have s5 : (10 ^ 80 : Int) * ns.length ≤ 10 ^ 80 * 60 := Int.mul_le_mul_of_nonneg_left (by omega) (by decide +kernel)
  have s6 : (10 ^ 80 * 60 : Int) ≤ 10 ^ 120 := by decide +kernel
  omega
end
end K12
set_option maxRecDepth 100000
set_option maxHeartbeats 4000000
namespace K12
open PySem PySem.Spec PyProof.Rows L2 SI
local macro_rules | `(tactic| walk_at "lk") => `(tactic| first | exact lk_hit | exact lk_nil | (refine lk_next (by decide +kernel) ?_; walk_at "lk"))
inductive FaultRow (Ad3 Ad6 : Addr) : Addr → List (Str × V) → List V → Prop where
  | np (n : Int) : FaultRow Ad3 Ad6 Ad3 [("at", .int n)] [.str "NotPebbles", .int n]
  | ww (h n : Int) : FaultRow Ad3 Ad6 Ad6 [("need", .int n), ("have", .int h)] [.str "WrongWidth", .int h, .int n]
def spFault (Ad3 Ad6 : Addr) (a : Addr) (cls : Value) (d : Option Addr) : Sp := fun vs H Q _ => ∃ (C dd : Addr) (fs : List (Str × V)) (row : List V), vs = [.ref a] ∧ cls = .ref C ∧ d = some dd ∧ H dd = some (.xd fs) ∧ FaultRow Ad3 Ad6 C fs row ∧
  ∀ q r H', Same H H' → H' r = some (.tup row) → H' q = some (.tup [.ref r]) → Q (.ref q) H'
theorem paired4 {α β : Type} {R : α → β → Prop} {a b c d : α} {x y z u : β} (h1 : R a x) (h2 : R b y) (h3 : R c z) (h4 : R d u) : Paired R [a, b, c, d] [x, y, z, u] := .cons h1 (.cons h2 (.cons h3 (.cons h4 .nil)))
theorem kit4 {K : PySem.W.Frag} {t a b c d : Value} (h1 : PySem.W.kitOne K t a = some false) (h2 : PySem.W.kitOne K t b = some false) (h3 : PySem.W.kitOne K t c = some false) (h4 : PySem.W.kitOne K t d = some false) : PySem.W.kitAny K t [a, b, c, d] = some false :=
  kitAny_cons h1 (fun _ => kitAny_cons h2 (fun _ => kitAny_cons h3 (fun _ => kitAny_cons h4 (fun _ => kitAny_nil) fun z => nomatch z) fun z => nomatch z) fun z => nomatch z) fun z => nomatch z
/-- what _law_raised tells -/
def toldAt (H : Hp) (q : Addr) : Option (List V) → Prop
  | none => H q = some (.tup [])
  | some row => ∃ r, H q = some (.tup [.ref r]) ∧ H r = some (.tup row)
inductive DueF (ps qs : List Int) (both : Bool) (ups : List Int) : Option (List V) → Prop where
  | ok (hl : ups.length = ps.length + 1) (h : okEs (flowR ups (srtA (twA ps qs both ps.length)))) : DueF ps qs both ups none
  | bad (hl : ups.length = ps.length + 1) (i : Nat) (h : badE (flowR ups (srtA (twA ps qs both ps.length))) i) : DueF ps qs both ups (some [.str "NotPebbles", .int (i : Nat)])
  | width (hl : ups.length ≠ ps.length + 1) : DueF ps qs both ups (some [.str "WrongWidth", .int (ups.length : Nat), .int ((ps.length : Int) + 1)])
def spRaised (K : PySem.W.Frag) (C C2 : Addr) : Sp := fun vs H Q _ => ∃ (t u : Addr) (ps qs : List Int) (both : Bool), TreeAt C H t ps qs ∧ okT ps qs ∧
  ((∃ (ns : List Int) (d : Str), vs = [.str d, .ref t, .ref u, .bl both] ∧ (d = "ups" ∨ d = "most") ∧ PebAt C2 H u ns ∧ ns.length ≠ ps.length + 1 ∧ ∀ q H', Same H H' → toldAt H' q (some [.str "WrongWidth", .int (ns.length : Nat), .int ((ps.length : Int) + 1)]) → Q (.ref q) H') ∨
   (∃ ups : List Int, vs = [.str "flow", .ref t, .ref u, .bl both] ∧ RowR K H u ups ∧ ∀ due q H', DueF ps qs both ups due → Same H H' → toldAt H' q due → Q (.ref q) H'))
def spIsFlow (K : PySem.W.Frag) (CF : Addr) : Sp := fun vs H Q _ => ∃ (f r : Addr) (row : List Int), vs = [.ref f, .ref r] ∧ FlowAt CF H f row ∧ H r = some (.lst (row.map V.int)) ∧ row.length ≤ 1000 ∧ ∀ H', Same H H' → Q (.bl true) H'
def spWRight (C C4 : Addr) : Sp := fun vs H Q _ => ∃ (t a b : Addr) (ps qs : List Int) (both : Bool), vs = [.ref t, .ref a, .ref b, .bl both] ∧ TreeAt C H t ps qs ∧ okT ps qs ∧ H a = some (.lst (ps.map V.int)) ∧ H b = some (.lst (qs.map V.int)) ∧ ∀ H', Same H H' → Q (.bl true) H'
theorem da_T3 {H : Hp} {a b : Addr} {d : Nat} {bs bs' : List (V × Ar)} (ha : H a = some (.tup (bs.map Prod.fst))) (hb : H b = some (.tup (bs'.map Prod.fst))) (h : T3 H bs) (h' : T3 H bs') (e : bs.map Prod.snd = bs'.map Prod.snd) (hz : bs'.length ≤ 100000) : Da H (d + 2) (.ref a) (.ref b) := by
  have hl : bs.length = bs'.length := by have := congrArg List.length e; rwa [List.length_map, List.length_map] at this
  refine .tup (d + 1) a b _ _ ha hb (by rw [List.length_map, List.length_map, hl]) (by rw [List.length_map]; exact hz) fun i x y hx hy => ?_
  obtain ⟨t, r, rfl, ht, hbi⟩ := h.at hx
  obtain ⟨t', r', rfl, ht', hbi'⟩ := h'.at hy
  have e2 : (bs.map Prod.snd)[i]? = (bs'.map Prod.snd)[i]? := by rw [e]
  rw [List.getElem?_map, List.getElem?_map, hbi, hbi'] at e2
  obtain rfl : r = r' := Option.some.inj e2
  exact da_ints (ns := rowA r) ht ht' (by show 3 ≤ 100000; decide)
theorem da_four {H : Hp} {a b : Addr} {d : Nat} {x y z u x' y' z' u' : V} (ha : H a = some (.tup [x, y, z, u])) (hb : H b = some (.tup [x', y', z', u'])) (h1 : Da H d x x') (h2 : Da H d y y') (h3 : Da H d z z') (h4 : Da H d u u') : Da H (d + 1) (.ref a) (.ref b) :=
  .tup d a b _ _ ha hb rfl (by show 4 ≤ 100000; decide) fun i s t e1 e2 => by
    rcases i with _ | _ | _ | _ | i
    · cases e1; cases e2; exact h1
    · cases e1; cases e2; exact h2
    · cases e1; cases e2; exact h3
    · cases e1; cases e2; exact h4
    · simp at e1
theorem ints_flat (ns : List Int) : (ns.map V.int).all flatV = true := by
  rw [List.all_map]
  exact List.all_eq_true.mpr fun x _ => rfl
section
variable {P : Program} {w : World} {K : PySem.W.Frag} {mg : Str → Option Value} {base : Heap} {Ad1 Ad2 Ad3 Ad4 Ad5 Ad6 Ad7 Ad9 Ad10 Ad11 Ad12 Ad13 Ad14 Ad20 : Addr}
theorem scLFault : FnScope ["e", "told"] ["e"] (defScope sLFault) := ⟨rfl, rfl, rfl, by decide +kernel, rfl, by decide +kernel, by decide +kernel⟩
theorem ok_LFaultW (T : Txt P w K mg base Ad1 Ad2 Ad3 Ad4 Ad5 Ad6 Ad7 Ad9 Ad10 Ad11 Ad12 Ad13 Ad14 Ad20) : ClW P w K mg base 1 "_law_fault" (fun p vs H Q E => ∃ cls d, Zc cls d p.2 ∧ (∃ vs, p.2.data = .fields vs) ∧ spFault Ad3 Ad6 p.1 cls d vs H Q E) := by
  refine clW_of T.d__law_fault scLFault (fun p vs H Q E h => ?_) fun f cdv A outer s H vs Q E p hr h => ?_
  · obtain ⟨cls, d, _, _, C, dd, fs, row, rfl, _⟩ := h
    rfl
  · obtain ⟨a, oe⟩ := p
    obtain ⟨cls, d, hz, hf, C, dd, fs, row, rfl, rfl, rfl, hd, hrow, k⟩ := h
    refine ⟨_, (pss_cons (ps_set (i := 1) scLFault.nd rfl (by first | exact Or.inl rfl | exact Or.inr rfl) (pe_lst pa_nil))
  (C8.pss_cut (ps_if (pt_val (pe_callB (call_isX (X := (L2H.cxH CX0 P w K mg base ["e", "told"] "_law_fault" (defScope sLFault) f cdv A outer s H E (a, oe)).nox) T.ek (List.mem_cons_self) hz hf) (by rfl) T.b_isinstance (by decide +kernel) (pa_cons (pv 0) (pa_cons (pe_glob (v := .ref Ad3) rfl T.gNotPebbles rfl) pa_nil))))
    (pss_one (ps_expr (pe_bm PySem.F.plainAttrs_list PySem.F.slot_list_append PySem.F.type_list_append mt_append (pv 1) (pa_cons (pe_tup (pa_cons pe_str (pa_cons (pe_errF (X := (L2H.cxH CX0 P w K mg base ["e", "told"] "_law_fault" (defScope sLFault) f cdv A outer s H E (a, oe)).nox) (List.mem_cons_self) hz hf (pv 0)) pa_nil))) pa_nil))))
    pss_nil)
  (C8.pss_cut (ps_if (pt_val (pe_callB (call_isX (X := (L2H.cxH CX0 P w K mg base ["e", "told"] "_law_fault" (defScope sLFault) f cdv A outer s H E (a, oe)).nox) T.ek (List.mem_cons_self) hz hf) (by rfl) T.b_isinstance (by decide +kernel) (pa_cons (pv 0) (pa_cons (pe_glob (v := .ref Ad6) rfl T.gWrongWidth rfl) pa_nil))))
    (pss_one (ps_expr (pe_bm PySem.F.plainAttrs_list PySem.F.slot_list_append PySem.F.type_list_append mt_append (pv 1) (pa_cons (pe_tup (pa_cons pe_str (pa_cons (pe_errF (X := (L2H.cxH CX0 P w K mg base ["e", "told"] "_law_fault" (defScope sLFault) f cdv A outer s H E (a, oe)).nox) (List.mem_cons_self) hz hf (pv 0)) (pa_cons (pe_errF (X := (L2H.cxH CX0 P w K mg base ["e", "told"] "_law_fault" (defScope sLFault) f cdv A outer s H E (a, oe)).nox) (List.mem_cons_self) hz hf (pv 0)) pa_nil)))) pa_nil))))
    pss_nil)
  (C8.pss_cut (ps_if (pt_val (pe_callB (call_isXT (X := (L2H.cxH CX0 P w K mg base ["e", "told"] "_law_fault" (defScope sLFault) f cdv A outer s H E (a, oe)).nox) T.ek (List.mem_cons_self) hz hf) (by rfl) T.b_isinstance (by decide +kernel) (pa_cons (pv 0) (pa_cons (pe_tup (pa_cons (pe_glob (v := .ref Ad2) rfl T.gBadCount rfl) (pa_cons (pe_glob (v := .ref Ad4) rfl T.gNoNode rfl) (pa_cons (pe_glob (v := .ref Ad7) rfl T.gNotPayable rfl) (pa_cons (pe_glob (v := .ref Ad5) rfl T.gUnlikeWidths rfl) pa_nil))))) pa_nil))))
    (pss_one (ps_expr (pe_bm PySem.F.plainAttrs_list PySem.F.slot_list_append PySem.F.type_list_append mt_append (pv 1) (pa_cons (pe_tup (pa_cons pe_str (pa_cons pe_int pa_nil))) pa_nil))))
    pss_nil)
  (C8.pss_cut (ps_if (pt_not (pt_val (pe_callB (call_isX (X := (L2H.cxH CX0 P w K mg base ["e", "told"] "_law_fault" (defScope sLFault) f cdv A outer s H E (a, oe)).nox) T.ek (List.mem_cons_self) hz hf) (by rfl) T.b_isinstance (by decide +kernel) (pa_cons (pv 0) (pa_cons (pe_bltn (v := .ty "ValueError") (u := .type "ValueError") (by rfl) T.b_ValueError (by decide +kernel) rfl) pa_nil)))))
    (pss_one (ps_expr (pe_bm PySem.F.plainAttrs_list PySem.F.slot_list_append PySem.F.type_list_append mt_append (pv 1) (pa_cons (pe_tup (pa_cons pe_str (pa_cons pe_int pa_nil))) pa_nil))))
    pss_nil)
  (pss_one (ps_ret (pe_callTy call_tuple_of (by rfl) T.b_tuple (by decide +kernel) (pa_cons (pv 1) pa_nil))))))))), ?_⟩
    cases hrow with
    | np n =>
      refine ⟨by show 0 ≤ sizeLine; decide, fun l hl => ?_⟩
      have hd1 := atN (o := .lst []) hd hl
      have s1 : Same H (upd H l (.lst [])) := sm0 hl
      have hl1 : upd H l (.lst []) l = some (.lst []) := upd_same
      have hl0 := hl
      generalize upd H l (.lst []) = H1 at hd1 s1 hl1 ⊢
      refine ⟨fun σ' H' => ∃ (l r : Addr), σ' = [some (.ref a), some (.ref l)] ∧ Same H H' ∧ H' dd = some (.xd [("at", .int n)]) ∧ H' r = some (.tup [.str "NotPebbles", .int n]) ∧ H' l = some (.lst [.ref r]), ?_, ?_⟩
      · have tr : ∀ d0, some dd = some d0 → ∃ fs, H1 d0 = some (.xd fs) := fun d0 e => by cases e; exact ⟨_, hd1⟩
        refine ⟨_, rfl, Ad3, _, _, true, rfl, T.eNotPebbles, rfl, .own Ad3, T.tNotPebbles_NotPebbles, tr, _, rfl, iteT ?_⟩
        refine ⟨_, rfl, .inl ⟨rfl, _, SqL.of hl1⟩, Ad3, dd, rfl, T.eNotPebbles, T.fNotPebbles_at, rfl, _, rfl, rfl, _, _, hd1, (by walk_at "lk"), (by show 2 ≤ sizeLine; decide), fun r hr1 => ?_⟩
        refine ⟨l, _, _, rfl, rfl, atN hl1 hr1, (by show 0 < sizeLine; decide), ?_⟩
        have s2 := smN s1 (q := r) (o := .tup [.str "NotPebbles", .int n]) hr1
        have g1 := atN (o := .tup [.str "NotPebbles", .int n]) hd1 hr1
        have g2 := atN (o := .tup [.str "NotPebbles", .int n]) hl1 hr1
        have g3 : upd H1 r (.tup [.str "NotPebbles", .int n]) r = some (.tup [.str "NotPebbles", .int n]) := upd_same
        exact ⟨l, r, rfl, smM s2 hl0, (upd_ne (ne_of g1 g2 (by intro z; cases z))).trans g1, (upd_ne (ne_of g3 g2 (by intro z; cases z))).trans g3, upd_same⟩
      rintro _ H1 ⟨l, r, rfl, s1, hd1, hr1, hl1⟩
      refine ⟨fun σ' H' => ∃ (l r : Addr), σ' = [some (.ref a), some (.ref l)] ∧ Same H H' ∧ H' dd = some (.xd [("at", .int n)]) ∧ H' r = some (.tup [.str "NotPebbles", .int n]) ∧ H' l = some (.lst [.ref r]), ?_, ?_⟩
      · have tr : ∀ d0, some dd = some d0 → ∃ fs, H1 d0 = some (.xd fs) := fun d0 e => by cases e; exact ⟨_, hd1⟩
        refine ⟨_, rfl, Ad3, _, _, false, rfl, T.eNotPebbles, rfl, .own Ad6, T.tNotPebbles_WrongWidth, tr, _, rfl, iteF ?_⟩
        exact ⟨l, r, rfl, s1, hd1, hr1, hl1⟩
      rintro _ H1 ⟨l, r, rfl, s1, hd1, hr1, hl1⟩
      refine ⟨fun σ' H' => ∃ (l r : Addr), σ' = [some (.ref a), some (.ref l)] ∧ Same H H' ∧ H' dd = some (.xd [("at", .int n)]) ∧ H' r = some (.tup [.str "NotPebbles", .int n]) ∧ H' l = some (.lst [.ref r]), ?_, ?_⟩
      · have tr : ∀ d0, some dd = some d0 → ∃ fs, H1 d0 = some (.xd fs) := fun d0 e => by cases e; exact ⟨_, hd1⟩
        refine ⟨_, rfl, (by show 4 ≤ sizeLine; decide), fun tp htp => ?_⟩
        have tr2 : ∀ d0, some dd = some d0 → ∃ fs, upd H1 tp (.tup [.ref Ad2, .ref Ad4, .ref Ad7, .ref Ad5]) d0 = some (.xd fs) := fun d0 e => by cases e; exact ⟨_, atN hd1 htp⟩
        refine ⟨Ad3, tp, _, _, false, rfl, T.eNotPebbles, rfl, upd_same, paired4 (.own Ad2) (.own Ad4) (.own Ad7) (.own Ad5), kit4 T.tNotPebbles_BadCount T.tNotPebbles_NoNode T.tNotPebbles_NotPayable T.tNotPebbles_UnlikeWidths, tr2, _, rfl, iteF ?_⟩
        exact ⟨l, r, rfl, smN s1 htp, atN hd1 htp, atN hr1 htp, atN hl1 htp⟩
      rintro _ H1 ⟨l, r, rfl, s1, hd1, hr1, hl1⟩
      refine ⟨fun σ' H' => ∃ (l r : Addr), σ' = [some (.ref a), some (.ref l)] ∧ Same H H' ∧ H' dd = some (.xd [("at", .int n)]) ∧ H' r = some (.tup [.str "NotPebbles", .int n]) ∧ H' l = some (.lst [.ref r]), ?_, ?_⟩
      · have tr : ∀ d0, some dd = some d0 → ∃ fs, H1 d0 = some (.xd fs) := fun d0 e => by cases e; exact ⟨_, hd1⟩
        refine ⟨_, rfl, Ad3, _, _, true, rfl, T.eNotPebbles, rfl, .ty "ValueError", T.tNotPebbles_ValueError, tr, _, rfl, iteF ?_⟩
        exact ⟨l, r, rfl, s1, hd1, hr1, hl1⟩
      rintro _ H1 ⟨l, r, rfl, s1, hd1, hr1, hl1⟩
      refine ⟨_, rfl, l, _, rfl, .inl ⟨SqL.of hl1, fun q hq => ?_⟩⟩
      exact k q r _ (smN s1 hq) (atN hr1 hq) upd_same
    | ww h n =>
      refine ⟨by show 0 ≤ sizeLine; decide, fun l hl => ?_⟩
      have hd1 := atN (o := .lst []) hd hl
      have s1 : Same H (upd H l (.lst [])) := sm0 hl
      have hl1 : upd H l (.lst []) l = some (.lst []) := upd_same
      have hl0 := hl
      generalize upd H l (.lst []) = H1 at hd1 s1 hl1 ⊢
      refine ⟨fun σ' H' => ∃ (l : Addr), σ' = [some (.ref a), some (.ref l)] ∧ Same H H' ∧ H' dd = some (.xd [("need", .int n), ("have", .int h)]) ∧ H l = none ∧ H' l = some (.lst []), ?_, ?_⟩
      · have tr : ∀ d0, some dd = some d0 → ∃ fs, H1 d0 = some (.xd fs) := fun d0 e => by cases e; exact ⟨_, hd1⟩
        refine ⟨_, rfl, Ad6, _, _, false, rfl, T.eWrongWidth, rfl, .own Ad3, T.tWrongWidth_NotPebbles, tr, _, rfl, iteF ?_⟩
        exact ⟨l, rfl, s1, hd1, hl0, hl1⟩
      rintro _ H1 ⟨l, rfl, s1, hd1, hl0, hl1⟩
      refine ⟨fun σ' H' => ∃ (l r : Addr), σ' = [some (.ref a), some (.ref l)] ∧ Same H H' ∧ H' dd = some (.xd [("need", .int n), ("have", .int h)]) ∧ H' r = some (.tup [.str "WrongWidth", .int h, .int n]) ∧ H' l = some (.lst [.ref r]), ?_, ?_⟩
      · have tr : ∀ d0, some dd = some d0 → ∃ fs, H1 d0 = some (.xd fs) := fun d0 e => by cases e; exact ⟨_, hd1⟩
        refine ⟨_, rfl, Ad6, _, _, true, rfl, T.eWrongWidth, rfl, .own Ad6, T.tWrongWidth_WrongWidth, tr, _, rfl, iteT ?_⟩
        refine ⟨_, rfl, .inl ⟨rfl, _, SqL.of hl1⟩, Ad6, dd, rfl, T.eWrongWidth, T.fWrongWidth_have, rfl, _, rfl, rfl, _, _, hd1, (by walk_at "lk"), Ad6, dd, rfl, T.eWrongWidth, T.fWrongWidth_need, rfl, _, rfl, rfl, _, _, hd1, (by walk_at "lk"), (by show 3 ≤ sizeLine; decide), fun r hr1 => ?_⟩
        refine ⟨l, _, _, rfl, rfl, atN hl1 hr1, (by show 0 < sizeLine; decide), ?_⟩
        have s2 := smN s1 (q := r) (o := .tup [.str "WrongWidth", .int h, .int n]) hr1
        have g1 := atN (o := .tup [.str "WrongWidth", .int h, .int n]) hd1 hr1
        have g2 := atN (o := .tup [.str "WrongWidth", .int h, .int n]) hl1 hr1
        have g3 : upd H1 r (.tup [.str "WrongWidth", .int h, .int n]) r = some (.tup [.str "WrongWidth", .int h, .int n]) := upd_same
        exact ⟨l, r, rfl, smM s2 hl0, (upd_ne (ne_of g1 g2 (by intro z; cases z))).trans g1, (upd_ne (ne_of g3 g2 (by intro z; cases z))).trans g3, upd_same⟩
      rintro _ H1 ⟨l, r, rfl, s1, hd1, hr1, hl1⟩
      refine ⟨fun σ' H' => ∃ (l r : Addr), σ' = [some (.ref a), some (.ref l)] ∧ Same H H' ∧ H' dd = some (.xd [("need", .int n), ("have", .int h)]) ∧ H' r = some (.tup [.str "WrongWidth", .int h, .int n]) ∧ H' l = some (.lst [.ref r]), ?_, ?_⟩
      · have tr : ∀ d0, some dd = some d0 → ∃ fs, H1 d0 = some (.xd fs) := fun d0 e => by cases e; exact ⟨_, hd1⟩
        refine ⟨_, rfl, (by show 4 ≤ sizeLine; decide), fun tp htp => ?_⟩
        have tr2 : ∀ d0, some dd = some d0 → ∃ fs, upd H1 tp (.tup [.ref Ad2, .ref Ad4, .ref Ad7, .ref Ad5]) d0 = some (.xd fs) := fun d0 e => by cases e; exact ⟨_, atN hd1 htp⟩
        refine ⟨Ad6, tp, _, _, false, rfl, T.eWrongWidth, rfl, upd_same, paired4 (.own Ad2) (.own Ad4) (.own Ad7) (.own Ad5), kit4 T.tWrongWidth_BadCount T.tWrongWidth_NoNode T.tWrongWidth_NotPayable T.tWrongWidth_UnlikeWidths, tr2, _, rfl, iteF ?_⟩
        exact ⟨l, r, rfl, smN s1 htp, atN hd1 htp, atN hr1 htp, atN hl1 htp⟩
      rintro _ H1 ⟨l, r, rfl, s1, hd1, hr1, hl1⟩
      refine ⟨fun σ' H' => ∃ (l r : Addr), σ' = [some (.ref a), some (.ref l)] ∧ Same H H' ∧ H' dd = some (.xd [("need", .int n), ("have", .int h)]) ∧ H' r = some (.tup [.str "WrongWidth", .int h, .int n]) ∧ H' l = some (.lst [.ref r]), ?_, ?_⟩
      · have tr : ∀ d0, some dd = some d0 → ∃ fs, H1 d0 = some (.xd fs) := fun d0 e => by cases e; exact ⟨_, hd1⟩
        refine ⟨_, rfl, Ad6, _, _, true, rfl, T.eWrongWidth, rfl, .ty "ValueError", T.tWrongWidth_ValueError, tr, _, rfl, iteF ?_⟩
        exact ⟨l, r, rfl, s1, hd1, hr1, hl1⟩
      rintro _ H1 ⟨l, r, rfl, s1, hd1, hr1, hl1⟩
      refine ⟨_, rfl, l, _, rfl, .inl ⟨SqL.of hl1, fun q hq => ?_⟩⟩
      exact k q r _ (smN s1 hq) (atN hr1 hq) upd_same
theorem scLRaised : FnScope ["deed", "tree", "one", "both", "e"] ["deed", "tree", "one", "both"] (defScope sLRaised) := ⟨rfl, rfl, rfl, by decide +kernel, rfl, by decide +kernel, by decide +kernel⟩
theorem ok_LRaised (T : Txt P w K mg base Ad1 Ad2 Ad3 Ad4 Ad5 Ad6 Ad7 Ad9 Ad10 Ad11 Ad12 Ad13 Ad14 Ad20) : Cl P w K mg base 9 "_law_raised" (spRaised K Ad11 Ad12) [] := by
  have c_TreeUps := (ok_TreeUps T).cl
  have c_TreeMost := (ok_TreeMost T).cl
  have c_UpsFlow : Cl P w K mg base 7 "ups_flow" (spFl K Ad3 Ad6 Ad11 Ad13) [] := (ok_UpsFlow T).cl 3 1 (by simp) rfl fun T kV doc pm an cdv ct us its l1 l2 => match us, its, l1, l2 with | [_, _, _], [_], _, _ => ⟨_, rfl, rfl⟩
  have w_LFault := ok_LFaultW T
  refine cl_of T.d__law_raised scLRaised (fun vs H Q E h => ?_) fun f cdv A outer s H vs Q E hr h => ?_
  · obtain ⟨t, u, ps, qs, both, _, _, h⟩ := h
    rcases h with ⟨_, _, rfl, _⟩ | ⟨_, rfl, _⟩ <;> rfl
  · refine ⟨_, (pss_cons (ps_try_as (i := 4) rfl rfl scLRaised.nd rfl rfl ⟨rfl, by decide, Or.inl T.gPebbleError⟩ takes0
    (fun W pn xe tk po => (pss_one (ps_if (pt_cmpR op_eq (pv 0) pe_str (nomark _))
      (pss_one (ps_expr (pe_cX tk c_TreeUps hr (by decide) rfl (pa_cons (pv 1) (pa_cons (pv 2) pa_nil)))))
      (pss_one (ps_if (pt_cmpR op_eq (pv 0) pe_str (nomark _))
        (pss_one (ps_expr (pe_cX tk c_TreeMost hr (by decide) rfl (pa_cons (pv 1) (pa_cons (pv 2) pa_nil)))))
        (pss_one (ps_expr (pe_cX tk c_UpsFlow hr (by decide) rfl (pa_cons (pv 1) (pa_cons (pv 2) (pa_cons (pv 3) pa_nil)))))))))))
    (fun a oe cls d pn hz hf => (pss_one (ps_ret (pe_cWE (X := cxd P w K mg base ["deed", "tree", "one", "both", "e"] "_law_raised" sLRaised f cdv A outer s H E) (sp' := spFault Ad3 Ad6) hz hf w_LFault hr (by decide) rfl (pa_cons (pv 4) pa_nil))))))
  (pss_one (ps_ret (pe_tup pa_nil)))), ?_⟩
    obtain ⟨t, u, ps, qs, both, hT, ok, h⟩ := h
    rcases h with ⟨ns, d, rfl, hd, hP, hne, k⟩ | ⟨ups, rfl, hU, k⟩
    · rcases hd with rfl | rfl
      · refine ⟨_, rfl, rfl, _, rfl, ifT (by decide +kernel) ?_⟩
        refine ⟨_, rfl, _, rfl, t, u, ps, qs, ns, rfl, hT, ok, hP, (fun c => absurd c hne), fun _ d hd => ?_⟩
        exact ⟨true, T.xWrongWidth_PebbleError, fun _ e na => ⟨_, rfl, Ad6, d, _, _, rfl, rfl, rfl, upd_same, .ww _ _, fun q r H2 s2 hr2 hq2 => k q _ ((sm0 hd).trans s2) ⟨r, hq2, hr2⟩⟩, fun z => nomatch z⟩
      · refine ⟨_, rfl, rfl, _, rfl, ifF (by decide +kernel) ?_⟩
        refine ⟨_, rfl, rfl, _, rfl, ifT (by decide +kernel) ?_⟩
        refine ⟨_, rfl, _, rfl, t, u, ps, qs, ns, rfl, hT, ok, hP, (fun c => absurd c hne), fun _ d hd => ?_⟩
        exact ⟨true, T.xWrongWidth_PebbleError, fun _ e na => ⟨_, rfl, Ad6, d, _, _, rfl, rfl, rfl, upd_same, .ww _ _, fun q r H2 s2 hr2 hq2 => k q _ ((sm0 hd).trans s2) ⟨r, hq2, hr2⟩⟩, fun z => nomatch z⟩
    · refine ⟨_, rfl, rfl, _, rfl, ifF (by decide +kernel) ?_⟩
      refine ⟨_, rfl, rfl, _, rfl, ifF (by decide +kernel) ?_⟩
      refine ⟨_, rfl, _, rfl, _, rfl, t, u, ps, qs, ups, both, rfl, hT, ok, hU, fun hl => ⟨fun h q0 H' s' _ => ?_, fun i hb d H' s' hd => ?_⟩, fun hl d hd => ?_⟩
      · exact ⟨by show 0 ≤ sizeLine; decide, fun q hq => k none q _ (.ok hl h) (smN s' hq) upd_same⟩
      · exact ⟨true, T.xNotPebbles_PebbleError, fun _ e na => ⟨_, rfl, Ad3, d, _, _, rfl, rfl, rfl, upd_same, .np _, fun q r H2 s2 hr2 hq2 => k (some _) q _ (.bad hl i hb) ((smN s' hd).trans s2) ⟨r, hq2, hr2⟩⟩, fun z => nomatch z⟩
      · exact ⟨true, T.xWrongWidth_PebbleError, fun _ e na => ⟨_, rfl, Ad6, d, _, _, rfl, rfl, rfl, upd_same, .ww _ _, fun q r H2 s2 hr2 hq2 => k (some _) q _ (.width hl) ((sm0 hd).trans s2) ⟨r, hq2, hr2⟩⟩, fun z => nomatch z⟩
theorem scLIsFlow : FnScope ["told", "row"] ["told", "row"] (defScope sLIsFlow) := ⟨rfl, rfl, rfl, by decide +kernel, rfl, by decide +kernel, by decide +kernel⟩
theorem ok_LIsFlow (T : Txt P w K mg base Ad1 Ad2 Ad3 Ad4 Ad5 Ad6 Ad7 Ad9 Ad10 Ad11 Ad12 Ad13 Ad14 Ad20) : Cl P w K mg base 3 "_law_is_flow" (spIsFlow K Ad13) [] := by
  have c_LSame := ok_LSame T 1
  refine cl_of T.d__law_is_flow scLIsFlow (fun vs H Q E h => ?_) fun f cdv A outer s H vs Q E hr h => ?_
  · obtain ⟨fl, r, row, rfl, _⟩ := h
    rfl
  · obtain ⟨fl, r, row, rfl, ⟨dx, c, hf, hc⟩, hrow, hz, k⟩ := h
    refine ⟨_, (pss_cons (ps_if (PW.pt (pw_or (pt_not (pt_val (pe_callB call_isi (by rfl) T.b_isinstance (by decide +kernel) (pa_cons (pv 0) (pa_cons (pe_glob (v := .ref Ad13) rfl T.gFlow rfl) pa_nil))))) (pw_or1 (pt_not (pt_val (pe_c c_LSame hr (by decide) rfl (pa_cons (pe_fld (pv 0) rfl) (pa_cons (pe_callTy call_tuple_of (by rfl) T.b_tuple (by decide +kernel) (pa_cons (pv 1) pa_nil)) pa_nil))))))))
    (pss_one (ps_ret pe_bl))
    pss_nil)
  (pss_one (ps_ret (pe_c c_LSame hr (by decide) rfl (pa_cons (pe_fld (pv 0) rfl) (pa_cons (pe_callB (cr_sum rfl) (by rfl) T.b_sum (by decide +kernel) (pa_cons (pv 1) pa_nil)) pa_nil)))))), ?_⟩
    have l1 : (flowF c row.sum).lookup ("counts" : Str) = some (V.ref c) := by walk_at "lk"
    have l2 : (flowF c row.sum).lookup ("total" : Str) = some (V.int row.sum) := by walk_at "lk"
    refine ⟨_, rfl, _, _, _, _, _, rfl, .own Ad13, .base (.ins hf T.lFlow T.iFlow.ca T.iFlow.cn T.iFlow.ct T.iFlow.cm), kit_self, _, rfl, iteF ?_⟩
    refine ⟨_, rfl, fl, Ad13, dx, _, _, rfl, hf, T.lFlow, T.nFlow_counts, l1, _, rfl, r, _, rfl, .inl ⟨SqL.of hrow, fun q hq => ?_⟩⟩
    have s1 := sm0 (o := .tup (row.map V.int)) hq
    refine same_of (da_ints (atN hc hq) upd_same (by omega)) ⟨_, rfl, ifF rfl ?_⟩
    refine ⟨_, rfl, fl, Ad13, dx, _, _, rfl, atN hf hq, T.lFlow, T.nFlow_total, l2, _, rfl, r, row, rfl, SqL.of (s1 _ _ hrow), ?_⟩
    exact same_of (.int _ _) (k _ s1)
theorem scLArrows : FnScope ["parents", "prices", "both", "arrows", "at"] ["parents", "prices", "both"] (defScope sLArrows) := ⟨rfl, rfl, rfl, by decide +kernel, rfl, by decide +kernel, by decide +kernel⟩
theorem ok_LArrows (T : Txt P w K mg base Ad1 Ad2 Ad3 Ad4 Ad5 Ad6 Ad7 Ad9 Ad10 Ad11 Ad12 Ad13 Ad14 Ad20) : Cl P w K mg base 1 "_law_arrows" spArs [] := by
  refine cl_of T.d__law_arrows scLArrows (fun vs H Q E h => ?_) fun f cdv A outer s H vs Q E hr h => ?_
  · obtain ⟨a, b, ps, qs, both, rfl, _⟩ := h
    rfl
  · obtain ⟨a, b, ps, qs, both, rfl, ha, hb, ok, k⟩ := h
    have hl := ok.1
    have hl2 := ok.2.1
    refine ⟨_, (pss_cons (ps_set (i := 3) scLArrows.nd rfl (by first | exact Or.inl rfl | exact Or.inr rfl) (pe_lst pa_nil))
  (pss_cons (ps_for (passes_of rfl) rfl (pi_range1 (by rfl) T.b_range (pa_cons (pe_callB call_len_seq (by rfl) T.b_len (by decide +kernel) (pa_cons (pv 0) pa_nil)) pa_nil)) (pg_name (i := 4) scLArrows.nd rfl (by first | exact Or.inl rfl | exact Or.inr rfl))
    (pss_cons (ps_expr (pe_bm PySem.F.plainAttrs_list PySem.F.slot_list_append PySem.F.type_list_append mt_append (pv 3) (pa_cons (pe_tup (pa_cons (pe_op op_add (pv 4) pe_int) (pa_cons (pe_ix ix_list (pv 0) (pv 4) (fun _ _ => rfl)) (pa_cons (pe_ix ix_list (pv 1) (pv 4) (fun _ _ => rfl)) pa_nil)))) pa_nil)))
    (pss_one (ps_if (pt_val (pv 2))
      (pss_one (ps_expr (pe_bm PySem.F.plainAttrs_list PySem.F.slot_list_append PySem.F.type_list_append mt_append (pv 3) (pa_cons (pe_tup (pa_cons (pe_ix ix_list (pv 0) (pv 4) (fun _ _ => rfl)) (pa_cons (pe_op op_add (pv 4) pe_int) (pa_cons (pe_ix ix_list (pv 1) (pv 4) (fun _ _ => rfl)) pa_nil)))) pa_nil))))
      pss_nil))))
  (pss_one (ps_ret (pe_callB (cr_sort3 hr.units) (by rfl) T.b_sorted (by decide +kernel) (pa_cons (pv 3) pa_nil)))))), ?_⟩
    refine ⟨by show 0 ≤ sizeLine; decide, fun L hL => ?_⟩
    have s1 : Same H (upd H L (.lst [])) := sm0 hL
    refine ⟨_, rfl, a, _, rfl, .inl (SqL.of (s1 _ _ ha)), _, rfl, by simp <;> omega, by simp <;> omega, ?_⟩
    rw [show ((((ps.map V.int).length : Nat) : Int)).toNat = ps.length by simp]
    refine for_range (lo := 0) (n := ps.length) (fun i σ H' => ∃ (v4 : Option V) (bs : List (V × Ar)), σ = [some (.ref a), some (.ref b), some (.bl both), some (.ref L), v4] ∧ Same H H' ∧ H' L = some (.lst (bs.map Prod.fst)) ∧ T3 H' bs ∧ bs.map Prod.snd = twA ps qs both i)
      ⟨none, [], rfl, s1, upd_same, .nil, rfl⟩ (fun i σ H' hi h => ?_) fun σ H' h => ?_
    · obtain ⟨v4, bs, rfl, sh, hacc, h3, es⟩ := h
      rw [Int.zero_add]
      obtain ⟨p, hp⟩ : ∃ p, ps[i]? = some p := ⟨_, List.getElem?_eq_getElem hi⟩
      obtain ⟨q, hq⟩ : ∃ q, qs[i]? = some q := ⟨_, List.getElem?_eq_getElem (by omega)⟩
      have ep : ps.getD i 0 = p := by rw [List.getD_eq_getElem?_getD, hp]; rfl
      have eq : pw qs (i + 1) = q := pw_of hq
      have hbl : bs.length ≤ 2 * i := by have := twA_len (ps := ps) (qs := qs) (both := both) i; rw [← es, List.length_map] at this; exact this
      have ei : (((i : Nat) : Int) + 1) = ((i + 1 : Nat) : Int) := rfl
      refine ⟨_, rfl, .inl ⟨rfl, _, SqL.of hacc⟩, _, rfl, _, _, rfl, rfl, _, rfl, _, rfl, a, _, _, _, rfl, rfl, SqL.of (sh _ _ ha), atI_nat (at_ints hp), _, rfl, _, rfl, b, _, _, _, rfl, rfl, SqL.of (sh _ _ hb), atI_nat (at_ints hq), by show 3 ≤ sizeLine; decide, fun r hr1 => ?_⟩
      refine ⟨L, _, _, rfl, rfl, atN hacc hr1, by rw [List.length_map]; exact sz_lt (by omega), ?_⟩
      have sr := smN sh (o := .tup [.int (((i : Nat) : Int) + 1), .int p, .int q]) hr1
      have er : upd H' r (.tup [.int (((i : Nat) : Int) + 1), .int p, .int q]) r = some (.tup (vA (((i + 1 : Nat) : Int), p, q))) := upd_same
      have hacc1 := atN (o := .tup [.int (((i : Nat) : Int) + 1), .int p, .int q]) hacc hr1
      have h31 : T3 (upd H' r (.tup [.int (((i : Nat) : Int) + 1), .int p, .int q])) bs := h3.same fun b o e => atN e hr1
      generalize upd H' r (.tup [.int (((i : Nat) : Int) + 1), .int p, .int q]) = H1 at sr er hacc1 h31 ⊢
      have s2 : Same H (upd H1 L (.lst (bs.map Prod.fst ++ [.ref r]))) := smM sr hL
      have nrL : r ≠ L := ne_of er hacc1 (by intro z; cases z)
      have tk : ∀ b o, H1 b = some (HO.tup o) → upd H1 L (.lst (bs.map Prod.fst ++ [.ref r])) b = some (.tup o) := fun b o e => by rw [upd_ne (ne_of e hacc1 (by intro z; cases z))]; exact e
      have h32 : T3 (upd H1 L (.lst (bs.map Prod.fst ++ [.ref r]))) (bs ++ [(.ref r, (((i + 1 : Nat) : Int), p, q))]) := (h31.same tk).snoc (tk _ _ er)
      have hacc2 : upd H1 L (.lst (bs.map Prod.fst ++ [.ref r])) L = some (.lst ((bs ++ [(V.ref r, (((i + 1 : Nat) : Int), p, q))]).map Prod.fst)) := by rw [upd_same, List.map_append]; rfl
      have es2 : (bs ++ [(V.ref r, (((i + 1 : Nat) : Int), p, q))]).map Prod.snd = twA ps qs both i ++ [(((i + 1 : Nat) : Int), p, q)] := by rw [List.map_append, es]; rfl
      have hb2 : (bs ++ [(V.ref r, (((i + 1 : Nat) : Int), p, q))]).length ≤ 2 * i + 1 := by rw [List.length_append]; show bs.length + 1 ≤ _; omega
      generalize upd H1 L (.lst (bs.map Prod.fst ++ [.ref r])) = H2 at s2 h32 hacc2 ⊢
      generalize bs ++ [(V.ref r, (((i + 1 : Nat) : Int), p, q))] = bs2 at h32 hacc2 es2 hb2
      cases both with
      | false =>
        refine ⟨_, rfl, _, rfl, ifF rfl ?_⟩
        refine ⟨some (.int (i : Nat)), bs2, rfl, s2, hacc2, h32, ?_⟩
        rw [es2, ← ep, ← eq]
        rfl
      | true =>
        refine ⟨_, rfl, _, rfl, ifT rfl ?_⟩
        refine ⟨_, rfl, .inl ⟨rfl, _, SqL.of hacc2⟩, _, rfl, _, rfl, a, _, _, _, rfl, rfl, SqL.of (s2 _ _ ha), atI_nat (at_ints hp), _, rfl, _, _, rfl, rfl, _, rfl, _, rfl, b, _, _, _, rfl, rfl, SqL.of (s2 _ _ hb), atI_nat (at_ints hq), by show 3 ≤ sizeLine; decide, fun r' hr2 => ?_⟩
        refine ⟨L, _, _, rfl, rfl, atN hacc2 hr2, by rw [List.length_map]; exact sz_lt (by omega), ?_⟩
        have sr' := smN s2 (o := .tup [.int p, .int (((i : Nat) : Int) + 1), .int q]) hr2
        have er' : upd H2 r' (.tup [.int p, .int (((i : Nat) : Int) + 1), .int q]) r' = some (.tup (vA (p, ((i + 1 : Nat) : Int), q))) := upd_same
        have hacc3 := atN (o := .tup [.int p, .int (((i : Nat) : Int) + 1), .int q]) hacc2 hr2
        have h33 : T3 (upd H2 r' (.tup [.int p, .int (((i : Nat) : Int) + 1), .int q])) bs2 := h32.same fun b o e => atN e hr2
        generalize upd H2 r' (.tup [.int p, .int (((i : Nat) : Int) + 1), .int q]) = H3 at sr' er' hacc3 h33 ⊢
        have tk' : ∀ b o, H3 b = some (HO.tup o) → upd H3 L (.lst (bs2.map Prod.fst ++ [.ref r'])) b = some (.tup o) := fun b o e => by rw [upd_ne (ne_of e hacc3 (by intro z; cases z))]; exact e
        refine ⟨some (.int (i : Nat)), bs2 ++ [(.ref r', (p, ((i + 1 : Nat) : Int), q))], rfl, smM sr' hL, by rw [upd_same, List.map_append]; rfl, (h33.same tk').snoc (tk' _ _ er'), ?_⟩
        rw [List.map_append, es2, List.append_assoc, ← ep, ← eq]
        rfl
    · obtain ⟨v4, bs, rfl, sh, hacc, h3, es⟩ := h
      refine ⟨_, rfl, L, bs, rfl, SqL.of hacc, h3, fun q hq => ?_⟩
      have h3' : T3 (upd H' q (.lst ((srtB bs).map Prod.fst))) (srtB bs) := (h3.perm (srtB_perm bs)).same fun b o e => atN e hq
      exact k q (srtB bs) _ (smN sh hq) (sh.free hq) upd_same h3' (by rw [srtB_snd, es])
theorem scLCounts : FnScope ["pool", "parents", "counts", "thick", "node", "pick", "count"] ["pool", "parents"] (defScope sLCounts) := ⟨rfl, rfl, rfl, by decide +kernel, rfl, by decide +kernel, by decide +kernel⟩
theorem ok_LCounts (T : Txt P w K mg base Ad1 Ad2 Ad3 Ad4 Ad5 Ad6 Ad7 Ad9 Ad10 Ad11 Ad12 Ad13 Ad14 Ad20) : Cl P w K mg base 2 "_law_counts" spCounts [] := by
  have c_LDraw := ok_LDraw T
  refine cl_of T.d__law_counts scLCounts (fun vs H Q E h => ?_) fun f cdv A outer s H vs Q E hr h => ?_
  · obtain ⟨p, a, ps, b, rfl, _⟩ := h
    rfl
  · obtain ⟨p, a, ps, b, rfl, hp, hb, hap, ha, h59, k⟩ := h
    refine ⟨_, (pss_cons (ps_set (i := 2) scLCounts.nd rfl (by first | exact Or.inl rfl | exact Or.inr rfl) (pe_lst pa_nil))
  (pss_cons (ps_set (i := 3) scLCounts.nd rfl (by first | exact Or.inl rfl | exact Or.inr rfl) (pe_c c_LDraw hr (by decide) rfl (pa_cons (pv 0) (pa_cons pe_int pa_nil))))
  (pss_cons (ps_for (passes_of rfl) rfl (pi_range1 (by rfl) T.b_range (pa_cons (pe_op op_add (pe_callB call_len_seq (by rfl) T.b_len (by decide +kernel) (pa_cons (pv 1) pa_nil)) pe_int) pa_nil)) (pg_name (i := 4) scLCounts.nd rfl (by first | exact Or.inl rfl | exact Or.inr rfl))
    (pss_cons (ps_set (i := 5) scLCounts.nd rfl (by first | exact Or.inl rfl | exact Or.inr rfl) (pe_c c_LDraw hr (by decide) rfl (pa_cons (pv 0) (pa_cons pe_int pa_nil))))
    (pss_cons (ps_set (i := 6) scLCounts.nd rfl (by first | exact Or.inl rfl | exact Or.inr rfl) (pe_op op_sub pe_int (pe_c c_LDraw hr (by decide) rfl (pa_cons (pv 0) (pa_cons pe_int pa_nil)))))
    (C8.pss_cut (ps_if (PW.pt (pw_and (pt_cmpR op_eq (pv 3) pe_int (nomark _)) (pw_and1 (pt_cmpR op_in_seq (pv 4) (pv 1) rfl))))
      (pss_one (ps_set (i := 6) scLCounts.nd rfl (by first | exact Or.inl rfl | exact Or.inr rfl) pe_int))
      pss_nil)
    (C8.pss_cut (ps_if (PW.pt (pw_and (pt_cmpR op_eq (pv 3) pe_int (nomark _)) (pw_and1 (pt_cmpR op_gt (pv 5) pe_int (nomark _)))))
      (pss_one (ps_set (i := 6) scLCounts.nd rfl (by first | exact Or.inl rfl | exact Or.inr rfl) (pe_op op_sub (pe_op op_mulW (pe_op op_pow pe_int pe_int) (pe_op op_pow pe_int pe_int)) (pe_c c_LDraw hr (by decide) rfl (pa_cons (pv 0) (pa_cons pe_int pa_nil))))))
      pss_nil)
    (C8.pss_cut (ps_if (PW.pt (pw_and (pt_cmpR op_eq (pv 3) pe_int (nomark _)) (pw_and1 (pt_cmpR op_eq (pv 5) pe_int (nomark _)))))
      (pss_one (ps_set (i := 6) scLCounts.nd rfl (by first | exact Or.inl rfl | exact Or.inr rfl) (pe_op op_mulW (pv 6) pe_int)))
      pss_nil)
    (pss_one (ps_expr (pe_bm PySem.F.plainAttrs_list PySem.F.slot_list_append PySem.F.type_list_append mt_append (pv 2) (pa_cons (pv 6) pa_nil))))))))))
  (pss_one (ps_ret (pv 2)))))), ?_⟩
    have hb6 : b ≤ 1000000 := hb
    have G : ∀ {c : Nat}, c ≤ b + 1000 → c ≤ 10 ^ 100 := fun h => big6 (by show _ ≤ 10000000; omega)
    have N : ∀ {n : Int}, n ≤ 1000 → n ≤ 10 ^ 130 := fun h => Int.le_trans h (by decide +kernel)
    have big : (1000 : Int) ≤ 10 ^ 80 := by decide +kernel
    refine ⟨by show 0 ≤ sizeLine; decide, fun L hL => ?_⟩
    have nL := hp.ne hL
    refine ⟨_, rfl, draw_of (hp.new hL) (G (by omega)) (by decide) (N (by decide)) fun th H1 b1 p1 t0 t1 => ?_⟩
    have e1 : H1 L = some (.lst (([] : List Int).map V.int)) := b1 L _ nL upd_same
    have bH1 : But p H H1 := (But.of (sm0 hL)).trans b1
    have ha1 := bH1 a _ hap ha
    refine ⟨_, rfl, a, _, rfl, .inl (SqL.of ha1), _, _, rfl, rfl, _, rfl, by simp <;> omega, by simp <;> omega, ?_⟩
    rw [show ((((ps.map V.int).length : Nat) : Int) + 1).toNat = ps.length + 1 by rw [List.length_map]; omega]
    refine for_range (lo := 0) (n := ps.length + 1) (fun i σ H' => ∃ (v4 v5 v6 : Option V) (ns : List Int), σ = [some (.ref p), some (.ref a), some (.ref L), some (.int th), v4, v5, v6] ∧ But p H H' ∧ PoolB H' p (b + 1 + 3 * i) ∧ H' L = some (.lst (ns.map V.int)) ∧ ns.length = i ∧ ∀ x ∈ ns, 0 ≤ x ∧ x ≤ 10 ^ 80)
      ⟨none, none, none, [], rfl, bH1, p1, e1, rfl, fun x hx => by cases hx⟩ (fun i σ H' hi h => ?_) fun σ H' h => ?_
    · obtain ⟨v4, v5, v6, ns, rfl, bH, pH, hacc, hn, hns⟩ := h
      rw [Int.zero_add]
      refine ⟨_, rfl, draw_of pH (G (by omega)) (by decide) (N (by decide)) fun pk H2 b2 p2 k0 k1 => ?_⟩
      refine ⟨_, rfl, draw_of p2 (G (by omega)) (by decide) (N (by decide)) fun c H3 b3 p3 c0 c1 => ?_⟩
      refine ⟨_, _, rfl, rfl, ?_⟩
      have bH3 := (bH.trans b2).trans b3
      have hacc3 := b3 L _ nL (b2 L _ nL hacc)
      have ha3 := bH3 a _ hap ha
      have p3 : PoolB H3 p (b + 1 + 3 * i + 2) := p3
      have z0 : 0 ≤ (9 : Int) - c ∧ (9 : Int) - c ≤ 9 := by omega
      refine ⟨fun σ' H' => ∃ z : Int, σ' = [some (.ref p), some (.ref a), some (.ref L), some (.int th), some (.int (i : Nat)), some (.int pk), some (.int z)] ∧ H' = H3 ∧ 0 ≤ z ∧ z ≤ 9, ?_, ?_⟩
      · refine ⟨_, rfl, rfl, _, rfl, ?_⟩
        by_cases c1 : th = 1
        · refine ifT (by simp [c1]) ?_
          refine ⟨_, rfl, _, rfl, a, _, rfl, .inl (SqL.of ha3), rfl, ints_flat _, _, rfl, ?_⟩
          cases inV (V.int (i : Nat)) (ps.map V.int) with
          | true => exact ifT rfl ⟨0, rfl, rfl, by decide, by decide⟩
          | false => exact ifF rfl ⟨9 - c, rfl, rfl, z0.1, z0.2⟩
        · refine ifF (by simp [c1]) ?_
          exact ⟨9 - c, rfl, rfl, z0.1, z0.2⟩
      clear z0
      rintro _ H' ⟨z, rfl, e3, z0, z9⟩
      subst e3
      refine ⟨fun σ' H' => ∃ z : Int, σ' = [some (.ref p), some (.ref a), some (.ref L), some (.int th), some (.int (i : Nat)), some (.int pk), some (.int z)] ∧ 0 ≤ z ∧ z ≤ 10 ^ 80 ∧ (th = 1 → z ≤ 9) ∧ But p H H' ∧ PoolB H' p (b + 1 + 3 * i + 3) ∧ H' L = some (.lst (ns.map V.int)), ?_, ?_⟩
      · have stay : ∃ z' : Int, [some (V.ref p), some (.ref a), some (.ref L), some (.int th), some (.int (i : Nat)), some (.int pk), some (.int z)] = [some (.ref p), some (.ref a), some (.ref L), some (.int th), some (.int (i : Nat)), some (.int pk), some (.int z')] ∧ 0 ≤ z' ∧ z' ≤ 10 ^ 80 ∧ (th = 1 → z' ≤ 9) ∧ But p H H' ∧ PoolB H' p (b + 1 + 3 * i + 3) ∧ H' L = some (.lst (ns.map V.int)) :=
          ⟨z, rfl, z0, by omega, fun _ => z9, bH3, p3.up (by omega), hacc3⟩
        refine ⟨_, rfl, rfl, _, rfl, ?_⟩
        by_cases c1 : th = 2
        · refine ifT (by simp [c1]) ?_
          refine ⟨_, rfl, _, _, rfl, rfl, _, rfl, ?_⟩
          refine ifD (fun c2 => ?_) fun c2 => stay
          refine ⟨_, _, rfl, rfl, pow10 (by decide) (by decide), _, _, rfl, rfl, pow10 (by decide) (by decide), _, _, rfl, rfl, cmul_small (abs_small (by decide +kernel) (by decide +kernel)) (abs_small (by decide +kernel) (by decide +kernel)), ?_⟩
          refine ⟨_, rfl, draw_of p3 (G (by omega)) (by decide) (N (by decide)) fun d H4 b4 p4 d0 d1 => ?_⟩
          refine ⟨_, _, rfl, rfl, ?_⟩
          have e80 : (10 ^ Int.toNat 60 * 10 ^ Int.toNat 20 : Int) = 10 ^ 80 := by decide +kernel
          exact ⟨_, rfl, by omega, by omega, fun c => by omega, bH3.trans b4, p4, b4 L _ nL hacc3⟩
        · exact ifF (by simp [c1]) stay
      clear z0 z9
      rintro _ H4 ⟨z, rfl, z0, z80, z9, bH4, p4, hacc4⟩
      refine ⟨fun σ' H5 => ∃ z : Int, σ' = [some (.ref p), some (.ref a), some (.ref L), some (.int th), some (.int (i : Nat)), some (.int pk), some (.int z)] ∧ H5 = H4 ∧ 0 ≤ z ∧ z ≤ 10 ^ 80, ?_, ?_⟩
      · refine ⟨_, rfl, rfl, _, rfl, ?_⟩
        by_cases c1 : th = 1
        · have := z9 c1
          refine ifT (by simp [c1]) ?_
          refine ⟨_, rfl, rfl, _, rfl, ?_⟩
          refine ifD (fun c2 => ?_) fun c2 => ⟨z, rfl, rfl, z0, z80⟩
          refine ⟨_, rfl, _, _, rfl, rfl, cmul_small (abs_small (by omega) (by omega)) (abs_small (by omega) (by omega)), ?_⟩
          exact ⟨_, rfl, rfl, by omega, by omega⟩
        · exact ifF (by simp [c1]) ⟨z, rfl, rfl, z0, z80⟩
      clear z0 z80 z9
      rintro _ H5 ⟨z, rfl, e5, z0, z80⟩
      subst e5
      refine ⟨_, rfl, .inl ⟨rfl, _, SqL.of hacc4⟩, _, rfl, L, _, _, rfl, rfl, hacc4, by rw [List.length_map]; exact sz_lt (by omega), ?_⟩
      refine ⟨_, _, _, ns ++ [z], rfl, fun x o nx e => by rw [upd_ne (ne_of_none e hL)]; exact bH4 x o nx e, (p4.put nL).up (by omega), by rw [upd_same, List.map_append]; rfl, by simp [hn], fun x hx => ?_⟩
      rcases List.mem_append.mp hx with hx | hx
      · exact hns x hx
      · rw [List.mem_singleton] at hx
        subst hx
        exact ⟨z0, z80⟩
    · obtain ⟨v4, v5, v6, ns, rfl, bH, pH, hacc, hn, hns⟩ := h
      exact ⟨_, rfl, k L ns H' bH (pH.up (by omega)) hL hacc hn hns⟩
theorem scLWebRight : FnScope ["tree", "parents", "prices", "both", "web", "arrows", "facts"] ["tree", "parents", "prices", "both"] (defScope sLWebRight) := ⟨rfl, rfl, rfl, by decide +kernel, rfl, by decide +kernel, by decide +kernel⟩
theorem ok_LWebRight (T : Txt P w K mg base Ad1 Ad2 Ad3 Ad4 Ad5 Ad6 Ad7 Ad9 Ad10 Ad11 Ad12 Ad13 Ad14 Ad20) : Cl P w K mg base 8 "_law_web_right" (spWRight Ad11 Ad14) [] := by
  have c_LSame := ok_LSame T 3
  have c_LArrows := ok_LArrows T
  have c_TreeWeb : Cl P w K mg base 6 "tree_web" (spTWeb Ad11 Ad14) [] := (ok_TreeWeb T).cl 2 1 (by simp) rfl fun T kV doc pm an cdv ct us its l1 l2 => match us, its, l1, l2 with | [_, _], [_], _, _ => ⟨_, rfl, rfl⟩
  refine cl_of T.d__law_web_right scLWebRight (fun vs H Q E h => ?_) fun f cdv A outer s H vs Q E hr h => ?_
  · obtain ⟨t, a, b, ps, qs, both, rfl, _⟩ := h
    rfl
  · obtain ⟨t, a, b, ps, qs, both, rfl, hT, ok, ha, hb, k⟩ := h
    have hl := ok.1
    refine ⟨_, (pss_cons (ps_set (i := 4) scLWebRight.nd rfl (by first | exact Or.inl rfl | exact Or.inr rfl) (pe_c c_TreeWeb hr (by decide) rfl (pa_cons (pv 0) (pa_cons (pv 3) pa_nil))))
  (pss_cons (ps_set (i := 5) scLWebRight.nd rfl (by first | exact Or.inl rfl | exact Or.inr rfl) (pe_c c_LArrows hr (by decide) rfl (pa_cons (pv 1) (pa_cons (pv 2) (pa_cons (pv 3) pa_nil)))))
  (pss_cons (ps_if (pt_not (pt_val (pe_callB call_isi (by rfl) T.b_isinstance (by decide +kernel) (pa_cons (pv 4) (pa_cons (pe_glob (v := .ref Ad14) rfl T.gWeb rfl) pa_nil)))))
    (pss_one (ps_ret pe_bl))
    pss_nil)
  (pss_cons (ps_set (i := 6) scLWebRight.nd rfl (by first | exact Or.inl rfl | exact Or.inr rfl) (pe_tup (pa_cons (pe_fld (pv 4) rfl) (pa_cons (pe_fld (pv 4) rfl) (pa_cons (pe_fld (pv 4) rfl) (pa_cons (pe_fld (pv 4) rfl) pa_nil))))))
  (pss_one (ps_ret (pe_c c_LSame hr (by decide) rfl (pa_cons (pv 6) (pa_cons (pe_tup (pa_cons (pe_op op_add (pe_callB call_len_seq (by rfl) T.b_len (by decide +kernel) (pa_cons (pv 1) pa_nil)) pe_int) (pa_cons (pe_callTy call_tuple_of (by rfl) T.b_tuple (by decide +kernel) (pa_cons (pv 5) pa_nil)) (pa_cons (pe_tup pa_nil) (pa_cons (pe_callB call_len_seq (by rfl) T.b_len (by decide +kernel) (pa_cons (pv 5) pa_nil)) pa_nil))))) pa_nil))))))))), ?_⟩
    refine ⟨_, rfl, _, rfl, t, ps, qs, both, rfl, hT, ok, fun w H1 s1 hW => ?_⟩
    refine ⟨_, rfl, _, rfl, _, rfl, a, b, ps, qs, both, rfl, s1 _ _ ha, s1 _ _ hb, ok, fun g bs H2 s2 _ hg h3 es => ?_⟩
    have s12 := s1.trans s2
    obtain ⟨dx, A1, Bp, Bu, He, Nu, bs', cs, hw, hA, h3', es', hB, _⟩ := hW.same s2
    have hlen : (srtA (twA ps qs both ps.length)).length ≤ 118 := by rw [(srtA_perm _).length_eq]; have := twA_len (ps := ps) (qs := qs) (both := both) ps.length; omega
    have hbl : bs.length = (srtA (twA ps qs both ps.length)).length := by rw [← es, List.length_map]
    generalize srtA (twA ps qs both ps.length) = as at es es' hw hlen hbl
    have l1 : (webF ((ps.length : Int) + 1) A1 Bp (as.length : Nat) Bu He Nu).lookup ("nodes" : Str) = some (V.int ((ps.length : Int) + 1)) := by walk_at "lk"
    have l2 : (webF ((ps.length : Int) + 1) A1 Bp (as.length : Nat) Bu He Nu).lookup ("arrows" : Str) = some (V.ref A1) := by walk_at "lk"
    have l3 : (webF ((ps.length : Int) + 1) A1 Bp (as.length : Nat) Bu He Nu).lookup ("pairs" : Str) = some (V.ref Bp) := by walk_at "lk"
    have l4 : (webF ((ps.length : Int) + 1) A1 Bp (as.length : Nat) Bu He Nu).lookup ("move_count" : Str) = some (V.int (as.length : Nat)) := by walk_at "lk"
    refine ⟨_, rfl, _, _, _, _, _, rfl, .own Ad14, .base (.ins hw T.lWeb T.iWeb.ca T.iWeb.cn T.iWeb.ct T.iWeb.cm), kit_self, _, rfl, iteF ?_⟩
    refine ⟨_, rfl, w, Ad14, dx, _, _, rfl, hw, T.lWeb, T.nWeb_nodes, l1, _, rfl, w, Ad14, dx, _, _, rfl, hw, T.lWeb, T.nWeb_arrows, l2, _, rfl, w, Ad14, dx, _, _, rfl, hw, T.lWeb, T.nWeb_pairs, l3, _, rfl, w, Ad14, dx, _, _, rfl, hw, T.lWeb, T.nWeb_move_count, l4, by show 4 ≤ sizeLine; decide, fun p1 hp1 => ?_⟩
    have s3 := smN s12 (o := .tup [.int ((ps.length : Int) + 1), .ref A1, .ref Bp, .int (as.length : Nat)]) hp1
    have e3 : upd H2 p1 (.tup [.int ((ps.length : Int) + 1), .ref A1, .ref Bp, .int (as.length : Nat)]) p1 = some (.tup [.int ((ps.length : Int) + 1), .ref A1, .ref Bp, .int (as.length : Nat)]) := upd_same
    have u3 := sm0 (o := .tup [.int ((ps.length : Int) + 1), .ref A1, .ref Bp, .int (as.length : Nat)]) hp1
    generalize upd H2 p1 (.tup [.int ((ps.length : Int) + 1), .ref A1, .ref Bp, .int (as.length : Nat)]) = H3 at s3 e3 u3 ⊢
    refine ⟨_, rfl, _, rfl, a, _, rfl, .inl (SqL.of (s3 _ _ ha)), _, _, rfl, rfl, _, rfl, g, _, rfl, .inl ⟨SqL.of (u3 _ _ hg), fun q1 hq1 => ?_⟩⟩
    have s4 := smN s3 (o := .tup (bs.map Prod.fst)) hq1
    have u4 := smN u3 (o := .tup (bs.map Prod.fst)) hq1
    have e4 := atN (o := .tup (bs.map Prod.fst)) e3 hq1
    have g4 : upd H3 q1 (.tup (bs.map Prod.fst)) q1 = some (.tup (bs.map Prod.fst)) := upd_same
    generalize upd H3 q1 (.tup (bs.map Prod.fst)) = H4 at s4 u4 e4 g4 ⊢
    refine ⟨by show 0 ≤ sizeLine; decide, fun q2 hq2 => ?_⟩
    have s5 := smN s4 (o := .tup []) hq2
    have u5 := smN u4 (o := .tup []) hq2
    have e5 := atN (o := .tup []) e4 hq2
    have g5 := atN (o := .tup []) g4 hq2
    have f5 : upd H4 q2 (.tup []) q2 = some (.tup (([] : List Int).map V.int)) := upd_same
    generalize upd H4 q2 (.tup []) = H5 at s5 u5 e5 g5 f5 ⊢
    refine ⟨_, rfl, g, _, rfl, .inl (SqL.of (u5 _ _ hg)), by show 4 ≤ sizeLine; decide, fun p2 hp2 => ?_⟩
    have i5 := fun {xs} (e : H5 p2 = none) => (sm0 (H := H5) (q := p2) (o := .tup xs) e)
    refine same_of (da_four (atN e5 hp2) upd_same (by rw [List.length_map]; exact .int _ _) (da_T3 (atN (u5 _ _ hA) hp2) (atN g5 hp2) ((h3'.same fun b o e => u5 _ _ e).same fun b o e => atN e hp2) ((h3.same fun b o e => u5 _ _ e).same fun b o e => atN e hp2) (es'.trans es.symm) (by omega)) (da_ints (ns := []) (atN (u5 _ _ hB) hp2) (atN f5 hp2) (by decide)) (by rw [show (bs.map Prod.fst).length = as.length by rw [List.length_map, hbl]]; exact .int _ _)) (k _ (smN s5 hp2))
end
end K12
set_option maxRecDepth 100000
set_option maxHeartbeats 4000000
namespace K12
open PySem PySem.Spec PyProof.Rows L2 SI
local macro_rules | `(tactic| walk_at "lk") => `(tactic| first | exact lk_hit | exact lk_nil | (refine lk_next (by decide +kernel) ?_; walk_at "lk"))
theorem cut_tail {ns : List Int} (h : 1 ≤ ns.length) : cutV (ns.map V.int) (some 1) none = (ns.drop 1).map V.int := by
  obtain ⟨ms, e, _, e2⟩ := cut_map V.int ns (some 1) none
  rw [e, e2]
  have e3 : HT.sIx ns.length 0 (some 1) = 1 := by
    unfold HT.sIx
    simp <;> omega
  have e4 : HT.sIx ns.length ns.length none = ns.length := rfl
  rw [e3, e4, List.take_of_length_le (by rw [List.length_drop]; omega)]
def spPushed (C : Addr) : Sp := fun vs H Q _ => ∃ (t a b c : Addr) (ps qs ns : List Int), vs = [.ref t, .ref a, .ref b, .ref c] ∧ TreeAt C H t ps qs ∧ okT ps qs ∧ H a = some (.lst (ps.map V.int)) ∧ H b = some (.lst (qs.map V.int)) ∧ H c = some (.lst (ns.map V.int)) ∧ ns.length = ps.length + 1 ∧ (∀ x ∈ ns, 0 ≤ x ∧ x ≤ 10 ^ 80) ∧ ∀ H', Same H H' → Q (.bl true) H'
def spWidths (C : Addr) : Sp := fun vs H Q _ => ∃ (t c : Addr) (ps qs ns : List Int), vs = [.ref t, .ref c] ∧ TreeAt C H t ps qs ∧ okT ps qs ∧ H c = some (.lst (ns.map V.int)) ∧ ns.length = ps.length + 1 ∧ (∀ x ∈ ns, 0 ≤ x ∧ x ≤ 10 ^ 80) ∧ ∀ H', Same H H' → Q (.bl true) H'
theorem ns_okP {ns : List Int} {n : Nat} (hl : ns.length = n) (h1 : 1 ≤ n) (h64 : n ≤ 64) (h : ∀ x ∈ ns, 0 ≤ x ∧ x ≤ 10 ^ 80) : okP ns :=
  ⟨by omega, by omega, fun x hx => ⟨(h x hx).1, Int.le_trans (h x hx).2 (by decide +kernel)⟩⟩
theorem no_badE {ns : List Int} {i : Nat} (h : okEs ns) (b : badE ns i) : False := by
  obtain ⟨_, x, hx, hn⟩ := b
  exact hn (h x (List.mem_of_getElem? hx))
theorem bs_ok {ps qs : List Int} {both : Bool} {bs : List (V × Ar)} (ok : okT ps qs) (es : bs.map Prod.snd = srtA (twA ps qs both ps.length)) : ∀ b ∈ bs, okA ((ps.length : Int) + 1) b.2 := fun b hb => by
  have h : b.2 ∈ srtA (twA ps qs both ps.length) := by rw [← es]; exact List.mem_map_of_mem hb
  exact (twA_ok ok _ (Nat.le_refl _) _ ((srtA_perm _).mem_iff.mp h)).1
theorem srt_len {ps qs : List Int} {both : Bool} (ok : okT ps qs) : (srtA (twA ps qs both ps.length)).length ≤ 118 := by
  rw [(srtA_perm _).length_eq]
  have := twA_len (ps := ps) (qs := qs) (both := both) ps.length
  have := ok.1
  omega
section
variable {P : Program} {w : World} {K : PySem.W.Frag} {mg : Str → Option Value} {base : Heap} {Ad1 Ad2 Ad3 Ad4 Ad5 Ad6 Ad7 Ad9 Ad10 Ad11 Ad12 Ad13 Ad14 Ad20 : Addr}
theorem scLPushed : FnScope ["tree", "parents", "prices", "counts", "placing", "ups", "most", "told", "both", "arrows", "row", "flow", "ends"] ["tree", "parents", "prices", "counts"] (defScope sLPushed) := ⟨rfl, rfl, rfl, by decide +kernel, rfl, by decide +kernel, by decide +kernel⟩
theorem ok_LPushed (T : Txt P w K mg base Ad1 Ad2 Ad3 Ad4 Ad5 Ad6 Ad7 Ad9 Ad10 Ad11 Ad12 Ad13 Ad14 Ad20) : Cl P w K mg base 9 "_law_pushed" (spPushed Ad11) [] := by
  have c_LSame := ok_LSame T 1
  have c_LArrows := ok_LArrows T
  have c_LUps := ok_LUps T
  have c_LMostUp := ok_LMostUp T
  have c_LFlowRow := ok_LFlowRow T
  have c_LEnds := ok_LEnds T
  have c_LIsFlow := ok_LIsFlow T
  have c_After := ok_After T
  have k_Pebbles := (ok_Pebbles T).mkr
  have d_TreeUps := ok_TreeUps T
  have d_TreeMost := ok_TreeMost T
  have c_TreeUps := d_TreeUps.cl
  have c_TreeMost := d_TreeMost.cl
  have c_UpsFlow : Cl P w K mg base 7 "ups_flow" (spFl K Ad3 Ad6 Ad11 Ad13) [] := (ok_UpsFlow T).cl 3 1 (by simp) rfl fun T kV doc pm an cdv ct us its l1 l2 => match us, its, l1, l2 with | [_, _, _], [_], _, _ => ⟨_, rfl, rfl⟩
  have c_TreeWeb : Cl P w K mg base 6 "tree_web" (spTWeb Ad11 Ad14) [] := (ok_TreeWeb T).cl 2 1 (by simp) rfl fun T kV doc pm an cdv ct us its l1 l2 => match us, its, l1, l2 with | [_, _], [_], _, _ => ⟨_, rfl, rfl⟩
  refine cl_of T.d__law_pushed scLPushed (fun vs H Q E h => ?_) fun f cdv A outer s H vs Q E hr h => ?_
  · obtain ⟨t, a, b, c, ps, qs, ns, rfl, _⟩ := h
    rfl
  · obtain ⟨t, a, b, c, ps, qs, ns, rfl, hT, ok, ha, hb, hc, hn, hns, k⟩ := h
    have h59 := ok.1
    have hokP := ns_okP hn (by omega) (by omega) hns
    refine ⟨_, (pss_cons (ps_set (i := 4) scLPushed.nd rfl (by first | exact Or.inl rfl | exact Or.inr rfl) (pe_mk k_Pebbles hr (by decide) rfl (pa_cons (pe_callTy call_list_of (by rfl) T.b_list (by decide +kernel) (pa_cons (pv 3) pa_nil)) pa_nil)))
  (pss_cons (ps_set (i := 5) scLPushed.nd rfl (by first | exact Or.inl rfl | exact Or.inr rfl) (pe_c c_LUps hr (by decide) rfl (pa_cons (pv 1) (pa_cons (pv 2) (pa_cons (pv 3) pa_nil)))))
  (pss_cons (ps_set (i := 6) scLPushed.nd rfl (by first | exact Or.inl rfl | exact Or.inr rfl) (pe_c c_LMostUp hr (by decide) rfl (pa_cons (pv 1) (pa_cons (pv 3) (pa_cons (pv 5) pa_nil)))))
  (pss_cons (ps_set (i := 7) scLPushed.nd rfl (by first | exact Or.inl rfl | exact Or.inr rfl) (pe_c c_TreeUps hr (by decide) rfl (pa_cons (pv 0) (pa_cons (pv 4) pa_nil))))
  (pss_cons (ps_if (pt_not (pt_val (pe_c c_LSame hr (by decide) rfl (pa_cons (pv 7) (pa_cons (pe_callTy call_tuple_of (by rfl) T.b_tuple (by decide +kernel) (pa_cons (pv 5) pa_nil)) pa_nil)))))
    (pss_one (ps_ret pe_bl))
    pss_nil)
  (pss_cons (ps_if (pt_not (pt_val (pe_c c_LSame hr (by decide) rfl (pa_cons (pe_c c_TreeMost hr (by decide) rfl (pa_cons (pv 0) (pa_cons (pv 4) pa_nil))) (pa_cons (pv 6) pa_nil)))))
    (pss_one (ps_ret pe_bl))
    pss_nil)
  (pss_cons (ps_for (passes_of rfl) rfl (pi_list (pe_lst (pa_cons pe_bl (pa_cons pe_bl pa_nil)))) (pg_name (i := 8) scLPushed.nd rfl (by first | exact Or.inl rfl | exact Or.inr rfl))
    (pss_cons (ps_set (i := 9) scLPushed.nd rfl (by first | exact Or.inl rfl | exact Or.inr rfl) (pe_c c_LArrows hr (by decide) rfl (pa_cons (pv 1) (pa_cons (pv 2) (pa_cons (pv 8) pa_nil)))))
    (pss_cons (ps_set (i := 10) scLPushed.nd rfl (by first | exact Or.inl rfl | exact Or.inr rfl) (pe_c c_LFlowRow hr (by decide) rfl (pa_cons (pv 9) (pa_cons (pv 5) pa_nil))))
    (pss_cons (ps_set (i := 11) scLPushed.nd rfl (by first | exact Or.inl rfl | exact Or.inr rfl) (pe_c c_UpsFlow hr (by decide) rfl (pa_cons (pv 0) (pa_cons (pv 7) (pa_cons (pv 8) pa_nil)))))
    (pss_cons (ps_if (pt_not (pt_val (pe_c c_LIsFlow hr (by decide) rfl (pa_cons (pv 11) (pa_cons (pv 10) pa_nil)))))
      (pss_one (ps_ret pe_bl))
      pss_nil)
    (pss_cons (ps_set (i := 12) scLPushed.nd rfl (by first | exact Or.inl rfl | exact Or.inr rfl) (pe_c c_LEnds hr (by decide) rfl (pa_cons (pv 9) (pa_cons (pv 3) (pa_cons (pv 10) pa_nil)))))
    (pss_cons (ps_if (pt_not (pt_val (pe_c c_LSame hr (by decide) rfl (pa_cons (pe_c c_After hr (by decide) rfl (pa_cons (pe_c c_TreeWeb hr (by decide) rfl (pa_cons (pv 0) (pa_cons (pv 8) pa_nil))) (pa_cons (pv 4) (pa_cons (pv 11) pa_nil)))) (pa_cons (pe_callTy call_tuple_of (by rfl) T.b_tuple (by decide +kernel) (pa_cons (pv 12) pa_nil)) pa_nil)))))
      (pss_one (ps_ret pe_bl))
      pss_nil)
    (pss_one (ps_if (PW.pt (pw_or (pt_cmpR op_ne (pe_ix ix_list (pv 12) pe_int (fun _ _ => rfl)) (pv 6) (nomark _)) (pw_or1 (pt_cmpR op_lt (pe_callB (cr_min rfl) (by rfl) T.b_min (by decide +kernel) (pa_cons (pv 12) pa_nil)) pe_int (nomark _)))))
      (pss_one (ps_ret pe_bl))
      pss_nil)))))))))
  (pss_cons (ps_if (pt_not (pt_val (pe_c c_LSame hr (by decide) rfl (pa_cons (pe_cK0 (ks := ["placing", "tree"]) (g := swp) d_TreeUps hr (by decide) rfl (pk_cons (pv 4) (pk_cons (pv 0) pk_nil)) (fun _ _ _ _ _ _ ws hl => match ws, hl with | [_, _], _ => rfl) swp_rel) (pa_cons (pe_callTy call_tuple_of (by rfl) T.b_tuple (by decide +kernel) (pa_cons (pv 5) pa_nil)) pa_nil)))))
    (pss_one (ps_ret pe_bl))
    pss_nil)
  (pss_cons (ps_if (pt_not (pt_val (pe_c c_LSame hr (by decide) rfl (pa_cons (pe_cK0 (ks := ["placing", "tree"]) (g := swp) d_TreeMost hr (by decide) rfl (pk_cons (pv 4) (pk_cons (pv 0) pk_nil)) (fun _ _ _ _ _ _ ws hl => match ws, hl with | [_, _], _ => rfl) swp_rel) (pa_cons (pv 6) pa_nil)))))
    (pss_one (ps_ret pe_bl))
    pss_nil)
  (pss_one (ps_ret (pe_c c_LSame hr (by decide) rfl (pa_cons (pe_fld (pv 4) rfl) (pa_cons (pe_callTy call_tuple_of (by rfl) T.b_tuple (by decide +kernel) (pa_cons (pv 3) pa_nil)) pa_nil)))))))))))))), ?_⟩
    refine ⟨_, rfl, c, _, rfl, .inl (SqL.of hc), fun l1 hl1 => ?_⟩
    have s1 := sm0 (o := .lst (ns.map V.int)) hl1
    have f1 : upd H l1 (.lst (ns.map V.int)) l1 = some (.lst (ns.map V.int)) := upd_same
    generalize upd H l1 (.lst (ns.map V.int)) = H1 at s1 f1 ⊢
    refine fun x dx hx hdx ne => peb_ok hx hdx hokP (.inl (SqL.of f1)) fun H2 s2 hP => ⟨rfl, ?_⟩
    have u2 := s1.trans s2
    refine ⟨_, rfl, _, rfl, _, rfl, a, b, c, ps, qs, ns, rfl, u2 _ _ ha, u2 _ _ hb, u2 _ _ hc, ok, hn, fun U ups H3 s3 _ hU isU => ?_⟩
    have u3 := u2.trans s3
    refine ⟨_, rfl, _, rfl, _, rfl, a, c, U, ps, ns, ups, rfl, u3 _ _ ha, u3 _ _ hc, hU, h59, hn, isU.len, ?_⟩
    refine ⟨_, rfl, _, rfl, t, x, ps, qs, ns, rfl, hT.same u3, ok, hP.same s3, (fun _ tq ups' H4 s4 hq4 isU' => ?_), fun e => absurd hn e⟩
    obtain rfl := ups_uniq ok isU' isU
    have hl60 : ups'.length ≤ 60 := by rw [isU.len]; omega
    have u4 := u3.trans s4
    refine ⟨_, rfl, _, rfl, U, _, rfl, .inl ⟨SqL.of (s4 _ _ hU), fun q1 hq1 => ?_⟩⟩
    refine same_of (da_ints (atN hq4 hq1) upd_same (by omega)) ⟨_, rfl, ifF rfl ?_⟩
    have s5 := sm0 (o := .tup (ups'.map V.int)) hq1
    have u5 := u4.trans s5
    have hq5 := s5 _ _ hq4
    have hU5 := s5 _ _ (s4 _ _ hU)
    have hP5 := (hP.same (s3.trans s4)).same s5
    generalize upd H4 q1 (.tup (ups'.map V.int)) = H5 at u5 hq5 hU5 hP5 ⊢
    refine ⟨_, rfl, _, rfl, t, x, ps, qs, ns, rfl, hT.same u5, ok, hP5, (fun _ ups'' H6 s6 isU'' => ?_), fun e => absurd hn e⟩
    obtain rfl := ups_uniq ok isU'' isU
    refine ⟨_, rfl, same_of (.int _ _) ⟨_, rfl, ifF rfl ?_⟩⟩
    have u6 := u5.trans s6
    have hq6 := s6 _ _ hq5
    have hU6 := s6 _ _ hU5
    have hP6 := hP5.same s6
    clear isU' u2 u3 u4 u5 hq5 hU5 hP5 s6
    refine ⟨by show 2 ≤ sizeLine; decide, fun lb hlb => ?_⟩
    have u7 := smN u6 (o := .lst [.bl false, .bl true]) hlb
    have hq7 := atN (o := .lst [.bl false, .bl true]) hq6 hlb
    have hU7 := atN (o := .lst [.bl false, .bl true]) hU6 hlb
    have hP7 := hP6.same (sm0 (o := .lst [.bl false, .bl true]) hlb)
    have hlb7 : upd H6 lb (.lst [.bl false, .bl true]) lb = some (.lst [.bl false, .bl true]) := upd_same
    generalize upd H6 lb (.lst [.bl false, .bl true]) = G at u7 hq7 hU7 hP7 hlb7 ⊢
    refine ⟨lb, rfl, ⟨_, SqL.of hlb7⟩, for_list (K := K) (a := lb) (xs := [.bl false, .bl true]) (fun i σ H' => ∃ v8 v9 v10 v11 v12 : Option V, σ = [some (.ref t), some (.ref a), some (.ref b), some (.ref c), some (.ref x), some (.ref U), some (.int (ns.getD 0 0 + kV ps ups'' 0 ps.length)), some (.ref tq), v8, v9, v10, v11, v12] ∧ Same G H')
      ⟨none, none, none, none, none, rfl, Same.refl G⟩ (fun i σ H' _ h => by obtain ⟨_, _, _, _, _, _, sh⟩ := h; exact SqL.of (sh _ _ hlb7)) (fun i y σ H' hy h => ?_) fun σ H' h => ?_⟩
    · obtain ⟨v8, v9, v10, v11, v12, rfl, sh⟩ := h
      obtain ⟨both, rfl⟩ : ∃ both : Bool, y = .bl both := by
        rcases i with _ | _ | i
        · cases hy; exact ⟨_, rfl⟩
        · cases hy; exact ⟨_, rfl⟩
        · simp at hy
      have w0 := u7.trans sh
      refine ⟨_, rfl, _, rfl, _, rfl, a, b, ps, qs, both, rfl, w0 _ _ ha, w0 _ _ hb, ok, fun g bs H1 t1 _ hg h3 es => ?_⟩
      have hok := bs_ok ok es
      have hbl : bs.length ≤ 118 := by have := srt_len (both := both) ok; rw [← es, List.length_map] at this; exact this
      have w1 := w0.trans t1
      have x1 := sh.trans t1
      refine ⟨_, rfl, _, rfl, g, U, bs, ups'', ps.length + 1, rfl, hg, h3, x1 _ _ hU7, hok, isU.len, hbl, fun r H2 t2 _ hr1 => ?_⟩
      have hperm : (bs.map Prod.snd).Perm (twA ps qs both ps.length) := by rw [es]; exact srtA_perm _
      have hrow := row_ok ok isU hn hns hperm
      have hbl2 : (bs.map Prod.snd).length = bs.length := List.length_map ..
      have hrl : (flowR ups'' (bs.map Prod.snd)).length = bs.length := by rw [flowR_eq, List.length_map, List.length_map]
      have hroot := ends_root (ups := ups'') ok hn hperm
      have hnn := ends_nn ok isU hn (fun x hx => (hns x hx).1) hperm
      have haft : aftN (bs.map Prod.snd) (flowR ups'' (bs.map Prod.snd)) ns (bs.map Prod.snd).length = lawN (bs.map Prod.snd) (flowR ups'' (bs.map Prod.snd)) ns (bs.map Prod.snd).length :=
        aft_law (fun a ha => by rw [hn]; exact (twA_ok ok _ (Nat.le_refl _) a (hperm.mem_iff.mp ha)).1) (fun c hc => (hrow c hc).1) _
      have hll : (lawN (bs.map Prod.snd) (flowR ups'' (bs.map Prod.snd)) ns (bs.map Prod.snd).length).length = ps.length + 1 := by rw [lawN_len, hn]
      rw [hbl2] at hroot hnn haft hll
      have w2 := w1.trans t2
      have x2 := x1.trans t2
      refine ⟨_, rfl, _, rfl, _, rfl, t, tq, ps, qs, ups'', both, rfl, hT.same w2, ok, .inr (x2 _ _ hq7), (fun _ => ⟨fun _ fl H3 t3 hF => ?_, fun i hbad => absurd hbad fun hbad => no_badE (by rw [← es]; exact hrow) hbad⟩), fun e => absurd isU.len e⟩
      have w3 := w2.trans t3
      have x3 := x2.trans t3
      rw [← es] at hF
      refine ⟨_, rfl, _, rfl, fl, r, _, rfl, hF, t3 _ _ hr1, by rw [hrl]; omega, fun H4 t4 => ⟨_, rfl, ifF rfl ?_⟩⟩
      have w4 := w3.trans t4
      have x4 := x3.trans t4
      have y4 := (t2.trans t3).trans t4
      have okn : ∀ b ∈ bs, okA (ns.length : Nat) b.2 := by rw [hn]; exact hok
      refine ⟨_, rfl, _, rfl, _, rfl, g, c, r, bs, ns, _, rfl, y4 _ _ hg, h3.same (fun b o e => y4 _ _ e), w4 _ _ hc, (t3.trans t4) _ _ hr1, okn, hrl, hbl, hrow, fun e H5 t5 _ he => ?_⟩
      generalize lawN (bs.map Prod.snd) (flowR ups'' (bs.map Prod.snd)) ns bs.length = es5 at hroot hnn haft hll he
      have w5 := w4.trans t5
      have x5 := x4.trans t5
      refine ⟨_, rfl, _, rfl, t, ps, qs, both, rfl, hT.same w5, ok, fun wb H6 t6 hW => ?_⟩
      have x6 := x5.trans t6
      refine ⟨_, rfl, _, rfl, wb, x, fl, bs.map Prod.snd, ns, flowR ups'' (bs.map Prod.snd), rfl, by rw [hn, es]; exact hW, (fun a ha => by obtain ⟨b, hb, rfl⟩ := List.mem_map.mp ha; exact okn b hb), hP7.same x6, hF.same ((t4.trans t5).trans t6), by rw [hrl, hbl2], hrow, by omega, fun q7 H7 t7 hq7' => ?_⟩
      rw [hbl2, haft] at hq7'
      have z7 := t6.trans t7
      refine ⟨_, rfl, e, _, rfl, .inl ⟨SqL.of (z7 _ _ he), fun q8 hq8 => ?_⟩⟩
      refine same_of (da_ints (atN hq7' hq8) upd_same (by omega)) ⟨_, rfl, ifF rfl ?_⟩
      have x8 := smN (x6.trans t7) (o := .tup (es5.map V.int)) hq8
      have he8 := atN (o := .tup (es5.map V.int)) (z7 _ _ he) hq8
      generalize upd H7 q8 (.tup (es5.map V.int)) = H8 at x8 he8 ⊢
      obtain ⟨e0, he0⟩ : ∃ e0, es5[0]? = some e0 := ⟨_, List.getElem?_eq_getElem (by omega)⟩
      have ee0 : e0 = ns.getD 0 0 + kV ps ups'' 0 ps.length := by rw [← hroot, List.getD_eq_getElem?_getD, he0]; rfl
      refine ⟨_, rfl, e, _, _, _, rfl, rfl, SqL.of he8, at_of (j := 0) rfl (at_ints he0), _, rfl, rfl, _, rfl, ifIN (fun z => absurd ee0 z) fun _ => ?_⟩
      refine ⟨_, rfl, e, es5, rfl, SqL.of he8, by omega, fun m hm _ => ?_⟩
      refine ⟨_, _, rfl, rfl, _, rfl, ifD (fun z => absurd z (by have := hnn m hm; omega)) fun _ => ?_⟩
      exact ⟨_, _, _, _, _, rfl, x8⟩
    · obtain ⟨v8, v9, v10, v11, v12, rfl, sh⟩ := h
      have w0 := u7.trans sh
      refine ⟨_, rfl, _, rfl, rfl, t, x, ps, qs, ns, rfl, hT.same w0, ok, hP7.same sh, (fun _ tq2 ups3 H1 t1 hq1 isU3 => ?_), fun e => absurd hn e⟩
      obtain rfl := ups_uniq ok isU3 isU
      refine ⟨_, rfl, U, _, rfl, .inl ⟨SqL.of (t1 _ _ (sh _ _ hU7)), fun q2 hq2 => ?_⟩⟩
      refine same_of (da_ints (atN hq1 hq2) upd_same (by omega)) ⟨_, rfl, ifF rfl ?_⟩
      have x2 := smN (sh.trans t1) (o := .tup (ups3.map V.int)) hq2
      generalize upd H1 q2 (.tup (ups3.map V.int)) = H2 at x2 ⊢
      refine ⟨_, rfl, _, rfl, rfl, t, x, ps, qs, ns, rfl, hT.same (u7.trans x2), ok, hP7.same x2, (fun _ ups4 H3 t3 isU4 => ?_), fun e => absurd hn e⟩
      obtain rfl := ups_uniq ok isU4 isU
      refine ⟨_, rfl, same_of (.int _ _) ⟨_, rfl, ifF rfl ?_⟩⟩
      have x3 := x2.trans t3
      obtain ⟨dx3, cc, hp3, hc3⟩ := hP7.same x3
      have l1 : (pebF cc (ns.length : Nat) ns.sum).lookup ("counts" : Str) = some (V.ref cc) := by walk_at "lk"
      have w3 := u7.trans x3
      refine ⟨_, rfl, x, Ad12, dx3, _, _, rfl, hp3, T.lPebbles, T.nPebbles_counts, l1, _, rfl, c, _, rfl, .inl ⟨SqL.of (w3 _ _ hc), fun q4 hq4 => ?_⟩⟩
      exact same_of (da_ints (atN hc3 hq4) upd_same (by omega)) (k _ (smN w3 hq4))
end
end K12
set_option maxRecDepth 100000
set_option maxHeartbeats 4000000
namespace K12
open PySem PySem.Spec PyProof.Rows L2 SI
local macro_rules | `(tactic| walk_at "lk") => `(tactic| first | exact lk_hit | exact lk_nil | (refine lk_next (by decide +kernel) ?_; walk_at "lk"))
def rev3 {α : Type} : List α → List α
  | [x, y, z] => [z, y, x]
  | l => l
theorem rev3_rel {zs : List V} {ws : List Value} (r : L2.Vals zs ws) : L2.Vals (rev3 zs) (rev3 ws) := by
  cases r with
  | nil => exact .nil
  | cons a r => cases r with
    | nil => exact .cons a .nil
    | cons b r => cases r with
      | nil => exact .cons a (.cons b .nil)
      | cons c r => cases r with
        | nil => exact .cons c (.cons b (.cons a .nil))
        | cons d r => exact .cons a (.cons b (.cons c (.cons d r)))
/-! what is wrong in a row -/
def badV (x : Int) : Prop := x < 0 ∨ x > 10 ^ 120
instance (x : Int) : Decidable (badV x) := by unfold badV; infer_instance
def bads (row : List Int) : Nat → List Int
  | 0 => []
  | i + 1 => bads row i ++ (if badV (row.getD i 0) then [(i : Int)] else [])
theorem bads_len (row : List Int) : ∀ n, (bads row n).length ≤ n
  | 0 => Nat.le_refl _
  | i + 1 => by
    have := bads_len row i
    show (bads row i ++ _).length ≤ _
    rw [List.length_append]
    split <;> simp <;> omega
theorem bads_spec (row : List Int) : ∀ n, (bads row n = [] ∧ ∀ j, j < n → ¬ badV (row.getD j 0)) ∨ ∃ (i : Nat) (rest : List Int), bads row n = (i : Int) :: rest ∧ i < n ∧ badV (row.getD i 0) ∧ ∀ j, j < i → ¬ badV (row.getD j 0)
  | 0 => .inl ⟨rfl, fun j hj => absurd hj (Nat.not_lt_zero _)⟩
  | n + 1 => by
    have e : bads row (n + 1) = bads row n ++ (if badV (row.getD n 0) then [(n : Int)] else []) := rfl
    rcases bads_spec row n with ⟨h, hn⟩ | ⟨i, rest, h, hi, hb, hj⟩
    · rw [h, List.nil_append] at e
      by_cases c : badV (row.getD n 0)
      · rw [if_pos c] at e
        exact .inr ⟨n, [], e, Nat.lt_succ_self _, c, hn⟩
      · rw [if_neg c] at e
        refine .inl ⟨e, fun j hj => ?_⟩
        by_cases e2 : j = n
        · rw [e2]; exact c
        · exact hn j (by omega)
    · rw [h] at e
      exact .inr ⟨i, rest ++ _, e, by omega, hb, hj⟩
theorem ok_iff {x : Int} : okE1 x ↔ ¬ badV x := by
  unfold okE1 badV
  omega
theorem bads_due {ps qs us : List Int} {both : Bool} {row : List Int} (e : row = flowR us (srtA (twA ps qs both ps.length))) (hl : us.length = ps.length + 1) :
    (bads row row.length = [] ∧ DueF ps qs both us none) ∨ ∃ (i : Nat) (rest : List Int), bads row row.length = (i : Int) :: rest ∧ DueF ps qs both us (some [.str "NotPebbles", .int (i : Nat)]) := by
  have gd : ∀ (j : Nat) x, row[j]? = some x → row.getD j 0 = x := fun j x h => by rw [List.getD_eq_getElem?_getD, h]; rfl
  rcases bads_spec row row.length with ⟨h, hn⟩ | ⟨i, rest, h, hi, hb, hj⟩
  · refine .inl ⟨h, .ok hl ?_⟩
    rw [← e]
    intro x hx
    obtain ⟨j, hj⟩ := List.mem_iff_getElem?.mp hx
    have := hn j (List.getElem?_eq_some_iff.mp hj).1
    rw [gd j x hj] at this
    exact ok_iff.mpr this
  · refine .inr ⟨i, rest, h, .bad hl i ?_⟩
    rw [← e]
    refine ⟨fun j x hji hx => ?_, _, List.getElem?_eq_getElem hi, fun z => ?_⟩
    · have := hj j hji
      rw [gd j x hx] at this
      exact ok_iff.mpr this
    · rw [gd i _ (List.getElem?_eq_getElem hi)] at hb
      exact ok_iff.mp z hb
theorem due_uniq {ps qs us : List Int} {both : Bool} {d d' : Option (List V)} (h : DueF ps qs both us d) (h' : DueF ps qs both us d') : d = d' := by
  cases h with
  | ok hl h => cases h' with
    | ok => rfl
    | bad _ i b => exact (no_badE h b).elim
    | width hl' => exact absurd hl hl'
  | bad hl i b => cases h' with
    | ok _ h => exact (no_badE h b).elim
    | bad _ j c =>
      have e : i = j := by
        obtain ⟨b1, x, hx, hn⟩ := b
        obtain ⟨c1, y, hy, hm⟩ := c
        rcases Nat.lt_trichotomy i j with h | h | h
        · exact absurd (c1 i x h hx) hn
        · exact h
        · exact absurd (b1 j y h hy) hm
      rw [e]
    | width hl' => exact absurd hl hl'
  | width hl => cases h' with
    | ok hl' _ => exact absurd hl' hl
    | bad hl' _ _ => exact absurd hl' hl
    | width _ => rfl
theorem told_da {H : Hp} {q q' : Addr} {due : Option (List V)} (h : toldAt H q due) (h' : toldAt H q' due) (hr : ∀ row, due = some row → row.length ≤ 100000 ∧ ∀ x ∈ row, Da H 0 x x) : Da H 2 (.ref q) (.ref q') := by
  cases due with
  | none => exact da_ints (ns := []) h h' (by decide)
  | some row =>
    obtain ⟨r, h1, h2⟩ := h
    obtain ⟨r', h1', h2'⟩ := h'
    refine da_one h1 h1' (da_map (F := fun x : V => x) (xs := row) (by rw [List.map_id']; exact h2) (by rw [List.map_id']; exact h2') (hr row rfl).1 (hr row rfl).2)
theorem due_row {H : Hp} {ps qs us : List Int} {both : Bool} {due : Option (List V)} (h : DueF ps qs both us due) : ∀ row, due = some row → row.length ≤ 100000 ∧ ∀ x ∈ row, Da H 0 x x := by
  intro row e
  cases h with
  | ok => cases e
  | bad _ i _ =>
    cases e
    refine ⟨by show 2 ≤ 100000; decide, fun x hx => ?_⟩
    rcases List.mem_cons.mp hx with rfl | hx
    · exact .str _ _ (by decide +kernel)
    · rw [List.mem_singleton] at hx
      subst hx
      exact .int _ _
  | width _ =>
    cases e
    refine ⟨by show 3 ≤ 100000; decide, fun x hx => ?_⟩
    rcases List.mem_cons.mp hx with rfl | hx
    · exact .str _ _ (by decide +kernel)
    · rcases List.mem_cons.mp hx with rfl | hx
      · exact .int _ _
      · rw [List.mem_singleton] at hx
        subst hx
        exact .int _ _
theorem ww_row {H : Hp} {x y : Int} : ∀ row, some [V.str "WrongWidth", .int x, .int y] = some row → row.length ≤ 100000 ∧ ∀ z ∈ row, Da H 0 z z := by
  intro row e
  cases e
  refine ⟨by show 3 ≤ 100000; decide, fun z hx => ?_⟩
  rcases List.mem_cons.mp hx with rfl | hx
  · exact .str _ _ (by decide +kernel)
  · rcases List.mem_cons.mp hx with rfl | hx
    · exact .int _ _
    · rw [List.mem_singleton] at hx
      subst hx
      exact .int _ _
theorem toldAt.same {H H' : Hp} {q : Addr} {due : Option (List V)} (s : Same H H') (h : toldAt H q due) : toldAt H' q due := by
  cases due with
  | none => exact s _ _ h
  | some row =>
    obtain ⟨r, h1, h2⟩ := h
    exact ⟨r, s _ _ h1, s _ _ h2⟩
theorem T3.but {H H' : Hp} {p : Addr} {b : Nat} {bs : List (V × Ar)} (hp : PoolB H p b) (s : But p H H') (h : T3 H bs) : T3 H' bs := h.same fun c o e => s c _ (fun z => by
  obtain ⟨z1, ns, hp1, _⟩ := hp
  rw [z, hp1] at e
  cases e) e
section
variable {P : Program} {w : World} {K : PySem.W.Frag} {mg : Str → Option Value} {base : Heap} {Ad1 Ad2 Ad3 Ad4 Ad5 Ad6 Ad7 Ad9 Ad10 Ad11 Ad12 Ad13 Ad14 Ad20 : Addr}
theorem scLWidths : FnScope ["tree", "counts", "nodes", "deed", "due"] ["tree", "counts"] (defScope sLWidths) := ⟨rfl, rfl, rfl, by decide +kernel, rfl, by decide +kernel, by decide +kernel⟩
theorem ok_LWidths (T : Txt P w K mg base Ad1 Ad2 Ad3 Ad4 Ad5 Ad6 Ad7 Ad9 Ad10 Ad11 Ad12 Ad13 Ad14 Ad20) : Cl P w K mg base 10 "_law_widths" (spWidths Ad11) [] := by
  have c_LSame := ok_LSame T 2
  have c_LRaised := ok_LRaised T
  have k_Pebbles := (ok_Pebbles T).mkr
  refine cl_of T.d__law_widths scLWidths (fun vs H Q E h => ?_) fun f cdv A outer s H vs Q E hr h => ?_
  · obtain ⟨t, c, ps, qs, ns, rfl, _⟩ := h
    rfl
  · obtain ⟨t, c, ps, qs, ns, rfl, hT, ok, hc, hn, hns, k⟩ := h
    have h59 := ok.1
    have hlm : ((((ns.map V.int).length : Nat)) : Int) = (ps.length : Int) + 1 := by rw [List.length_map, hn]; rfl
    refine ⟨_, (pss_cons (ps_set (i := 2) scLWidths.nd rfl (by first | exact Or.inl rfl | exact Or.inr rfl) (pe_callB call_len_seq (by rfl) T.b_len (by decide +kernel) (pa_cons (pv 1) pa_nil)))
  (pss_cons (ps_for (passes_of rfl) rfl (pi_list (pe_lst (pa_cons pe_str (pa_cons pe_str pa_nil)))) (pg_name (i := 3) scLWidths.nd rfl (by first | exact Or.inl rfl | exact Or.inr rfl))
    (pss_cons (ps_set (i := 4) scLWidths.nd rfl (by first | exact Or.inl rfl | exact Or.inr rfl) (pe_tup (pa_cons (pe_tup (pa_cons pe_str (pa_cons (pe_op op_add (pv 2) pe_int) (pa_cons (pv 2) pa_nil)))) pa_nil)))
    (pss_cons (ps_if (pt_not (pt_val (pe_c c_LSame hr (by decide) rfl (pa_cons (pe_c c_LRaised hr (by decide) rfl (pa_cons (pv 3) (pa_cons (pv 0) (pa_cons (pe_mk k_Pebbles hr (by decide) rfl (pa_cons (pe_op op_cat (pv 1) (pe_lst (pa_cons pe_int pa_nil))) pa_nil)) (pa_cons pe_bl pa_nil))))) (pa_cons (pv 4) pa_nil)))))
      (pss_one (ps_ret pe_bl))
      pss_nil)
    (pss_one (ps_if (pt_cmpR op_gt (pv 2) pe_int (nomark _))
      (pss_cons (ps_set (i := 4) scLWidths.nd rfl (by first | exact Or.inl rfl | exact Or.inr rfl) (pe_tup (pa_cons (pe_tup (pa_cons pe_str (pa_cons (pe_op op_sub (pv 2) pe_int) (pa_cons (pv 2) pa_nil)))) pa_nil)))
      (pss_one (ps_if (pt_not (pt_val (pe_c c_LSame hr (by decide) rfl (pa_cons (pe_c c_LRaised hr (by decide) rfl (pa_cons (pv 3) (pa_cons (pv 0) (pa_cons (pe_mk k_Pebbles hr (by decide) rfl (pa_cons (pe_slice sl_list (pv 1) (po_some pe_int) po_none) pa_nil)) (pa_cons pe_bl pa_nil))))) (pa_cons (pv 4) pa_nil)))))
        (pss_one (ps_ret pe_bl))
        pss_nil)))
      pss_nil)))))
  (pss_one (ps_ret pe_bl)))), ?_⟩
    refine ⟨_, rfl, c, _, rfl, .inl (SqL.of hc), ?_⟩
    rw [hlm]
    refine ⟨by show 2 ≤ sizeLine; decide, fun lb hlb => ?_⟩
    have u0 := sm0 (o := .lst [.str "ups", .str "most"]) hlb
    have hlb0 : upd H lb (.lst [.str "ups", .str "most"]) lb = some (.lst [.str "ups", .str "most"]) := upd_same
    generalize upd H lb (.lst [.str "ups", .str "most"]) = G at u0 hlb0 ⊢
    refine ⟨lb, rfl, ⟨_, SqL.of hlb0⟩, for_list (K := K) (a := lb) (xs := [.str "ups", .str "most"]) (fun i σ H' => ∃ v3 v4 : Option V, σ = [some (.ref t), some (.ref c), some (.int ((ps.length : Int) + 1)), v3, v4] ∧ Same G H')
      ⟨none, none, rfl, Same.refl G⟩ (fun i σ H' _ h => by obtain ⟨_, _, _, sh⟩ := h; exact SqL.of (sh _ _ hlb0)) (fun i y σ H' hy h => ?_) fun σ H' h => ?_⟩
    · obtain ⟨v3, v4, rfl, sh⟩ := h
      obtain ⟨d, rfl, hd⟩ : ∃ d : Str, y = .str d ∧ (d = "ups" ∨ d = "most") := by
        rcases i with _ | _ | i
        · cases hy; exact ⟨_, rfl, .inl rfl⟩
        · cases hy; exact ⟨_, rfl, .inr rfl⟩
        · simp at hy
      have w0 := u0.trans sh
      refine ⟨_, rfl, _, _, rfl, rfl, _, rfl, by show 3 ≤ sizeLine; decide, fun r hr1 => ?_⟩
      have s1 := sm0 (o := .tup [.str "WrongWidth", .int ((ps.length : Int) + 1 + 1), .int ((ps.length : Int) + 1)]) hr1
      have e1 : upd H' r (.tup [.str "WrongWidth", .int ((ps.length : Int) + 1 + 1), .int ((ps.length : Int) + 1)]) r = some (.tup [.str "WrongWidth", .int ((ps.length : Int) + 1 + 1), .int ((ps.length : Int) + 1)]) := upd_same
      generalize upd H' r (.tup [.str "WrongWidth", .int ((ps.length : Int) + 1 + 1), .int ((ps.length : Int) + 1)]) = H1 at s1 e1 ⊢
      refine ⟨by show 1 ≤ sizeLine; decide, fun q hq => ?_⟩
      have s2 := smN s1 (o := .tup [.ref r]) hq
      have e2 : toldAt (upd H1 q (.tup [.ref r])) q (some [.str "WrongWidth", .int ((ps.length : Int) + 1 + 1), .int ((ps.length : Int) + 1)]) := ⟨r, upd_same, atN e1 hq⟩
      generalize upd H1 q (.tup [.ref r]) = H2 at s2 e2 ⊢
      have w2 := w0.trans s2
      refine ⟨_, rfl, _, rfl, _, rfl, by show 1 ≤ sizeLine; decide, fun l hl => ?_⟩
      have x3 := sm0 (o := .lst [.int 1]) hl
      have w3 := w2.trans x3
      have e3 : upd H2 l (.lst [.int 1]) l = some (.lst [.int 1]) := upd_same
      generalize upd H2 l (.lst [.int 1]) = H3 at x3 w3 e3 ⊢
      refine ⟨c, l, _, _, rfl, rfl, w3 _ _ hc, e3, sz_small (by simp; omega), fun l2 hl2 => ?_⟩
      have x4 := smN x3 (o := .lst (ns.map V.int ++ [.int 1])) hl2
      have w4 := smN w3 (o := .lst (ns.map V.int ++ [.int 1])) hl2
      have e4 : upd H3 l2 (.lst (ns.map V.int ++ [.int 1])) l2 = some (.lst ((ns ++ [1]).map V.int)) := by rw [upd_same, List.map_append]; rfl
      generalize upd H3 l2 (.lst (ns.map V.int ++ [.int 1])) = H4 at x4 w4 e4 ⊢
      have hl1 : (ns ++ [1]).length = ps.length + 2 := by rw [List.length_append, hn]; rfl
      have hP1 : okP (ns ++ [1]) := ns_okP hl1 (by omega) (by omega) fun x hx => by
        rcases List.mem_append.mp hx with hx | hx
        · exact hns x hx
        · rw [List.mem_singleton] at hx
          subst hx
          decide +kernel
      refine fun x dx hx hdx ne => peb_ok hx hdx hP1 (.inl (SqL.of e4)) fun H5 x5 hPb => ⟨rfl, ?_⟩
      have w5 := w4.trans x5
      refine ⟨t, x, ps, qs, false, hT.same w5, ok, .inl ⟨ns ++ [1], d, rfl, hd, hPb, by omega, fun q2 H6 x6 told => ?_⟩⟩
      have w6 := w5.trans x6
      have x26 := (x4.trans x5).trans x6
      rw [hl1] at told
      refine ⟨_, rfl, same_of (told_da told (e2.same x26) ww_row) ⟨_, rfl, ifF rfl ?_⟩⟩
      have g6 := (sh.trans s2).trans x26
      refine ⟨_, rfl, _, _, rfl, rfl, _, rfl, ifD (fun c1 => ?_) fun c1 => ⟨_, _, rfl, g6⟩⟩
      refine ⟨_, rfl, _, _, rfl, rfl, _, rfl, by show 3 ≤ sizeLine; decide, fun r7 hr7 => ?_⟩
      have s7 := sm0 (o := .tup [.str "WrongWidth", .int ((ps.length : Int) + 1 - 1), .int ((ps.length : Int) + 1)]) hr7
      have e7 : upd H6 r7 (.tup [.str "WrongWidth", .int ((ps.length : Int) + 1 - 1), .int ((ps.length : Int) + 1)]) r7 = some (.tup [.str "WrongWidth", .int ((ps.length : Int) + 1 - 1), .int ((ps.length : Int) + 1)]) := upd_same
      generalize upd H6 r7 (.tup [.str "WrongWidth", .int ((ps.length : Int) + 1 - 1), .int ((ps.length : Int) + 1)]) = H7 at s7 e7 ⊢
      refine ⟨by show 1 ≤ sizeLine; decide, fun q8 hq8 => ?_⟩
      have s8 := smN s7 (o := .tup [.ref r7]) hq8
      have e8 : toldAt (upd H7 q8 (.tup [.ref r7])) q8 (some [.str "WrongWidth", .int ((ps.length : Int) + 1 - 1), .int ((ps.length : Int) + 1)]) := ⟨r7, upd_same, atN e7 hq8⟩
      generalize upd H7 q8 (.tup [.ref r7]) = H8 at s8 e8 ⊢
      have w8 := w6.trans s8
      refine ⟨_, rfl, _, rfl, _, rfl, _, rfl, c, _, rfl, SqL.of (w8 _ _ hc), ?_⟩
      rw [cut_tail (by omega)]
      intro l9 hl9
      have x9 := sm0 (o := .lst ((ns.drop 1).map V.int)) hl9
      have w9 := w8.trans x9
      have e9 : upd H8 l9 (.lst ((ns.drop 1).map V.int)) l9 = some (.lst ((ns.drop 1).map V.int)) := upd_same
      generalize upd H8 l9 (.lst ((ns.drop 1).map V.int)) = H9 at x9 w9 e9 ⊢
      have hl9 : (ns.drop 1).length = ps.length := by rw [List.length_drop, hn]; rfl
      have hP9 : okP (ns.drop 1) := ns_okP hl9 (by omega) (by omega) fun x hx => hns x (List.mem_of_mem_drop hx)
      refine fun x' dx' hx' hdx' ne' => peb_ok hx' hdx' hP9 (.inl (SqL.of e9)) fun H10 x10 hPb' => ⟨rfl, ?_⟩
      have w10 := w9.trans x10
      refine ⟨t, x', ps, qs, false, hT.same w10, ok, .inl ⟨ns.drop 1, d, rfl, hd, hPb', by omega, fun q11 H11 x11 told' => ?_⟩⟩
      rw [hl9] at told'
      have x811 := (x9.trans x10).trans x11
      have e8' := e8.same x811
      rw [show (ps.length : Int) + 1 - 1 = (ps.length : Int) by omega] at e8'
      refine ⟨_, rfl, same_of (told_da told' e8' ww_row) ⟨_, rfl, ifF rfl ?_⟩⟩
      exact ⟨_, _, rfl, (g6.trans s8).trans x811⟩
    · obtain ⟨v3, v4, rfl, sh⟩ := h
      exact k _ (u0.trans sh)
end
end K12
set_option maxRecDepth 100000
set_option maxHeartbeats 4000000
namespace K12
open PySem PySem.Spec PyProof.Rows L2 SI
local macro_rules | `(tactic| walk_at "lk") => `(tactic| first | exact lk_hit | exact lk_nil | (refine lk_next (by decide +kernel) ?_; walk_at "lk"))
def spAnyRow (C : Addr) : Sp := fun vs H Q _ => ∃ (p t a b : Addr) (ps qs : List Int) (both : Bool) (z : Nat), vs = [.ref p, .ref t, .ref a, .ref b, .bl both] ∧ PoolB H p z ∧ z ≤ 10 ^ 6 ∧ a ≠ p ∧ b ≠ p ∧ TreeAt C H t ps qs ∧ okT ps qs ∧ H a = some (.lst (ps.map V.int)) ∧ H b = some (.lst (qs.map V.int)) ∧
  ∀ H', But p H H' → PoolB H' p (z + 400) → Q (.bl true) H'
def okTail (us : List Int) : Prop := ∀ (j : Nat) x, us[j + 1]? = some x → okE1 x
theorem okTail.set0 {us : List Int} {z : Int} (h : okTail us) : okTail (us.set 0 z) := fun j x e => by
  rw [List.getElem?_set_ne (by omega)] at e
  exact h j x e
theorem okTail.set {us : List Int} {z : Int} {i : Nat} (h : okTail us) (hz : okE1 z) : okTail (us.set i z) := fun j x e => by
  by_cases c : i = j + 1
  · subst c
    rw [List.getElem?_set] at e
    split at e
    · split at e
      · cases e; exact hz
      · cases e
    · exact h j x e
  · rw [List.getElem?_set_ne c] at e
    exact h j x e
theorem row_tail {us : List Int} {as : List Ar} {n : Int} (h : okTail us) (ha : ∀ a ∈ as, okA n a) : okEs (flowR us as) := by
  intro c hc
  obtain ⟨a, ham, rfl⟩ := List.mem_map.mp hc
  split
  · rename_i c1
    have hb := ha a ham
    obtain ⟨j, hj⟩ : ∃ j : Nat, a.1.toNat = j + 1 := ⟨a.1.toNat - 1, by have := hb.2.2.1; omega⟩
    rw [hj, List.getD_eq_getElem?_getD]
    cases e : us[j + 1]? with
    | none => exact ⟨Int.le_refl _, by show (0 : Int) ≤ 10 ^ 120; decide +kernel⟩
    | some x => exact h j x e
  · exact ⟨Int.le_refl _, by decide +kernel⟩
section
variable {P : Program} {w : World} {K : PySem.W.Frag} {mg : Str → Option Value} {base : Heap} {Ad1 Ad2 Ad3 Ad4 Ad5 Ad6 Ad7 Ad9 Ad10 Ad11 Ad12 Ad13 Ad14 Ad20 : Addr}
theorem scLAnyRow : FnScope ["pool", "tree", "parents", "prices", "both", "most", "arrows", "ups", "node", "row", "handed", "turn", "odd", "at", "bad", "k", "due"] ["pool", "tree", "parents", "prices", "both"] (defScope sLAnyRow) := ⟨rfl, rfl, rfl, by decide +kernel, rfl, by decide +kernel, by decide +kernel⟩
theorem ok_LAnyRow (T : Txt P w K mg base Ad1 Ad2 Ad3 Ad4 Ad5 Ad6 Ad7 Ad9 Ad10 Ad11 Ad12 Ad13 Ad14 Ad20) : Cl P w K mg base 10 "_law_any_row" (spAnyRow Ad11) [] := by
  have c_LSame := ok_LSame T 2
  have c_LDraw := ok_LDraw T
  have c_LRaised := ok_LRaised T
  have c_LArrows := ok_LArrows T
  have c_LFlowRow := ok_LFlowRow T
  have c_LIsFlow := ok_LIsFlow T
  have d_UpsFlow := ok_UpsFlow T
  have c_UpsFlow : Cl P w K mg base 7 "ups_flow" (spFl K Ad3 Ad6 Ad11 Ad13) [] := d_UpsFlow.cl 3 1 (by simp) rfl fun T kV doc pm an cdv ct us its l1 l2 => match us, its, l1, l2 with | [_, _, _], [_], _, _ => ⟨_, rfl, rfl⟩
  have c_UpsFlow2 : Cl P w K mg base 7 "ups_flow" (spFl K Ad3 Ad6 Ad11 Ad13) [.bl false] := d_UpsFlow.cl 2 0 (by simp) rfl fun T kV doc pm an cdv ct us its l1 l2 => match us, its, l1, l2 with | [_, _], [_], _, _ => ⟨_, rfl, rfl⟩
  refine cl_of T.d__law_any_row scLAnyRow (fun vs H Q E h => ?_) fun f cdv A outer s H vs Q E hr h => ?_
  · obtain ⟨p, t, a, b, ps, qs, both, z, rfl, _⟩ := h
    rfl
  · obtain ⟨p, t, a, b, ps, qs, both, z, rfl, hp, hz, nap, nbp, hT, ok, ha, hb, k⟩ := h
    have h59 := ok.1
    refine ⟨_, (pss_cons (ps_set (i := 5) scLAnyRow.nd rfl (by first | exact Or.inl rfl | exact Or.inr rfl) (pe_op op_mulW (pe_op op_pow pe_int pe_int) (pe_op op_pow pe_int pe_int)))
  (pss_cons (ps_set (i := 6) scLAnyRow.nd rfl (by first | exact Or.inl rfl | exact Or.inr rfl) (pe_c c_LArrows hr (by decide) rfl (pa_cons (pv 2) (pa_cons (pv 3) (pa_cons (pv 4) pa_nil)))))
  (pss_cons (ps_setLc (i := 7) (own := [(("node" : Str), 8)]) (g := gName 8) (by rfl) scLAnyRow.nd rfl rfl (sw_true rfl rfl rfl (by decide +kernel)) (pi_range1 (by rfl) T.b_range (pa_cons (pe_op op_add (pe_callB call_len_seq (by rfl) T.b_len (by decide +kernel) (pa_cons (pv 2) pa_nil)) pe_int) pa_nil)) (blkOk_by (own := [(("node" : Str), 8)]) (N := ["pool", "tree", "parents", "prices", "both", "most", "arrows", "ups", "node", "row", "handed", "turn", "odd", "at", "bad", "k", "due"]) (sc := defScope sLAnyRow) (by decide +kernel)) (fun _ _ _ _ _ => (pg_name (i := 8) scLAnyRow.nd rfl (by first | exact Or.inl rfl | exact Or.inr rfl))) (fun _ _ _ _ _ => pts_nil) (fun _ _ _ _ _ => (pe_c c_LDraw hr (by decide) rfl (pa_cons (pv 0) (pa_cons pe_int pa_nil)))))
  (pss_cons (ps_asg (pe_ix ix_list (pe_lst (pa_cons pe_int (pa_cons (pe_un un_neg pe_int) (pa_cons (pe_op op_add (pv 5) pe_int) (pa_cons pe_int pa_nil))))) (pe_c c_LDraw hr (by decide) rfl (pa_cons (pv 0) (pa_cons pe_int pa_nil))) (fun _ _ => rfl)) (pg_sub (pv 7) pe_int set_list))
  (C8.pss_cut (ps_if (PW.pt (pw_and (pt_cmpR (op_neD hr.units) (pv 2) (pe_lst pa_nil) (nomark _)) (pw_and1 (pt_cmpR op_eq (pe_c c_LDraw hr (by decide) rfl (pa_cons (pv 0) (pa_cons pe_int pa_nil))) pe_int (nomark _)))))
    (pss_one (ps_asg (pv 5) (pg_sub (pv 7) (pe_op op_add pe_int (pe_c c_LDraw hr (by decide) rfl (pa_cons (pv 0) (pa_cons (pe_callB call_len_seq (by rfl) T.b_len (by decide +kernel) (pa_cons (pv 2) pa_nil)) pa_nil)))) set_list)))
    pss_nil)
  (pss_cons (ps_set (i := 9) scLAnyRow.nd rfl (by first | exact Or.inl rfl | exact Or.inr rfl) (pe_c c_LFlowRow hr (by decide) rfl (pa_cons (pv 6) (pa_cons (pv 7) pa_nil))))
  (pss_cons (ps_set (i := 10) scLAnyRow.nd rfl (by first | exact Or.inl rfl | exact Or.inr rfl) (pe_callTy call_list_of (by rfl) T.b_list (by decide +kernel) (pa_cons (pv 7) pa_nil)))
  (pss_cons (ps_if (PW.pt (pw_or (pt_not (pt_val (pe_c c_LIsFlow hr (by decide) rfl (pa_cons (pe_c c_UpsFlow hr (by decide) rfl (pa_cons (pv 1) (pa_cons (pv 10) (pa_cons (pv 4) pa_nil)))) (pa_cons (pv 9) pa_nil))))) (pw_or1 (pt_cmpR (op_neD hr.units) (pv 10) (pv 7) (nomark _)))))
    (pss_one (ps_ret pe_bl))
    pss_nil)
  (pss_cons (ps_if (pt_not (pt_val (pe_c c_LIsFlow hr (by decide) rfl (pa_cons (pe_cKD (ks := ["both", "ups", "tree"]) (g := fun _ zs => rev3 zs) d_UpsFlow hr (by decide) rfl (pk_cons (pv 4) (pk_cons (pe_callTy call_tuple_of (by rfl) T.b_tuple (by decide +kernel) (pa_cons (pv 7) pa_nil)) (pk_cons (pv 1) pk_nil))) (by simp) (fun _ r => rev3_rel r) (fun _ _ _ _ _ _ _ us its ws l0 l1 l2 => match us, its, ws, l0, l1, l2 with | [], [_], [_, _, _], _, _, _ => ⟨_, rfl, rfl⟩)) (pa_cons (pv 9) pa_nil)))))
    (pss_one (ps_ret pe_bl))
    pss_nil)
  (C8.pss_cut (ps_if (PW.pt (pw_and (pt_not (pt_val (pv 4))) (pw_and1 (pt_not (pt_val (pe_c c_LIsFlow hr (by decide) rfl (pa_cons (pe_c c_UpsFlow2 hr (by decide) rfl (pa_cons (pv 1) (pa_cons (pe_callTy call_tuple_of (by rfl) T.b_tuple (by decide +kernel) (pa_cons (pv 7) pa_nil)) pa_nil))) (pa_cons (pv 9) pa_nil))))))))
    (pss_one (ps_ret pe_bl))
    pss_nil)
  (pss_cons (ps_for (passes_of rfl) rfl (pi_range1 (by rfl) T.b_range (pa_cons pe_int pa_nil)) (pg_name (i := 11) scLAnyRow.nd rfl (by first | exact Or.inl rfl | exact Or.inr rfl))
    (pss_one (ps_if (pt_cmpR (op_neD hr.units) (pv 2) (pe_lst pa_nil) (nomark _))
      (pss_cons (ps_set (i := 12) scLAnyRow.nd rfl (by first | exact Or.inl rfl | exact Or.inr rfl) (pe_lst (pa_cons (pe_un un_neg pe_int) (pa_cons (pe_op op_add (pv 5) pe_int) (pa_cons (pe_op op_sub pe_int (pv 5)) (pa_cons (pe_op op_mulW (pv 5) pe_int) pa_nil))))))
      (pss_cons (ps_set (i := 13) scLAnyRow.nd rfl (by first | exact Or.inl rfl | exact Or.inr rfl) (pe_op op_add pe_int (pe_c c_LDraw hr (by decide) rfl (pa_cons (pv 0) (pa_cons (pe_callB call_len_seq (by rfl) T.b_len (by decide +kernel) (pa_cons (pv 2) pa_nil)) pa_nil)))))
      (pss_one (ps_asg (pe_ix ix_list (pv 12) (pe_c c_LDraw hr (by decide) rfl (pa_cons (pv 0) (pa_cons pe_int pa_nil))) (fun _ _ => rfl)) (pg_sub (pv 7) (pv 13) set_list)))))
      pss_nil)))
  (pss_cons (ps_set (i := 9) scLAnyRow.nd rfl (by first | exact Or.inl rfl | exact Or.inr rfl) (pe_c c_LFlowRow hr (by decide) rfl (pa_cons (pv 6) (pa_cons (pv 7) pa_nil))))
  (pss_cons (ps_setLc (i := 14) (own := [(("k" : Str), 15)]) (g := gName 15) (by rfl) scLAnyRow.nd rfl rfl (sw_true rfl rfl rfl (by decide +kernel)) (pi_range1 (by rfl) T.b_range (pa_cons (pe_callB call_len_seq (by rfl) T.b_len (by decide +kernel) (pa_cons (pv 9) pa_nil)) pa_nil)) (blkOk_by (own := [(("k" : Str), 15)]) (N := ["pool", "tree", "parents", "prices", "both", "most", "arrows", "ups", "node", "row", "handed", "turn", "odd", "at", "bad", "k", "due"]) (sc := defScope sLAnyRow) (by decide +kernel)) (fun _ _ _ _ _ => (pg_name (i := 15) scLAnyRow.nd rfl (by first | exact Or.inl rfl | exact Or.inr rfl))) (fun _ _ _ _ _ => (pts_one (PW.pt (pw_or (pt_cmpR op_lt (pe_ix ix_listB (pv 9) (pv 15) (fun _ _ => rfl)) pe_int (nomark _)) (pw_or1 (pt_cmpR op_gt (pe_ix ix_listB (pv 9) (pv 15) (fun _ _ => rfl)) (pv 5) (nomark _))))))) (fun _ _ _ _ _ => (pv 15)))
  (pss_cons (ps_set (i := 16) scLAnyRow.nd rfl (by first | exact Or.inl rfl | exact Or.inr rfl) (pe_tup pa_nil))
  (C8.pss_cut (ps_if (pt_cmpR (op_neD hr.units) (pv 14) (pe_lst pa_nil) (nomark _))
    (pss_one (ps_set (i := 16) scLAnyRow.nd rfl (by first | exact Or.inl rfl | exact Or.inr rfl) (pe_tup (pa_cons (pe_tup (pa_cons pe_str (pa_cons (pe_ix ix_list (pv 14) pe_int (fun _ _ => rfl)) pa_nil))) pa_nil))))
    pss_nil)
  (pss_cons (ps_if (pt_not (pt_val (pe_c c_LSame hr (by decide) rfl (pa_cons (pe_c c_LRaised hr (by decide) rfl (pa_cons pe_str (pa_cons (pv 1) (pa_cons (pe_callTy call_list_of (by rfl) T.b_list (by decide +kernel) (pa_cons (pv 7) pa_nil)) (pa_cons (pv 4) pa_nil))))) (pa_cons (pv 16) pa_nil)))))
    (pss_one (ps_ret pe_bl))
    pss_nil)
  (pss_cons (ps_set (i := 16) scLAnyRow.nd rfl (by first | exact Or.inl rfl | exact Or.inr rfl) (pe_tup (pa_cons (pe_tup (pa_cons pe_str (pa_cons (pe_op op_add (pe_callB call_len_seq (by rfl) T.b_len (by decide +kernel) (pa_cons (pv 7) pa_nil)) pe_int) (pa_cons (pe_callB call_len_seq (by rfl) T.b_len (by decide +kernel) (pa_cons (pv 7) pa_nil)) pa_nil)))) pa_nil)))
  (pss_cons (ps_if (pt_not (pt_val (pe_c c_LSame hr (by decide) rfl (pa_cons (pe_c c_LRaised hr (by decide) rfl (pa_cons pe_str (pa_cons (pv 1) (pa_cons (pe_op op_cat (pv 7) (pe_lst (pa_cons (pe_un un_neg pe_int) pa_nil))) (pa_cons (pv 4) pa_nil))))) (pa_cons (pv 16) pa_nil)))))
    (pss_one (ps_ret pe_bl))
    pss_nil)
  (pss_cons (ps_set (i := 16) scLAnyRow.nd rfl (by first | exact Or.inl rfl | exact Or.inr rfl) (pe_tup (pa_cons (pe_tup (pa_cons pe_str (pa_cons (pe_op op_sub (pe_callB call_len_seq (by rfl) T.b_len (by decide +kernel) (pa_cons (pv 7) pa_nil)) pe_int) (pa_cons (pe_callB call_len_seq (by rfl) T.b_len (by decide +kernel) (pa_cons (pv 7) pa_nil)) pa_nil)))) pa_nil)))
  (pss_one (ps_ret (pe_c c_LSame hr (by decide) rfl (pa_cons (pe_c c_LRaised hr (by decide) rfl (pa_cons pe_str (pa_cons (pv 1) (pa_cons (pe_slice sl_list (pv 7) (po_some pe_int) po_none) (pa_cons (pv 4) pa_nil))))) (pa_cons (pv 16) pa_nil)))))))))))))))))))))))), ?_⟩
    have hb6 : z ≤ 1000000 := hz
    have G : ∀ {c : Nat}, c ≤ z + 1000 → c ≤ 10 ^ 100 := fun h => big6 (by show _ ≤ 10000000; omega)
    have N : ∀ {n : Int}, n ≤ 1000 → n ≤ 10 ^ 130 := fun h => Int.le_trans h (by decide +kernel)
    have eM : (10 ^ Int.toNat 60 * 10 ^ Int.toNat 60 : Int) = 10 ^ 120 := by decide +kernel
    have lp : (((ps.map V.int).length : Nat) : Int) = (ps.length : Int) := by rw [List.length_map]
    refine ⟨_, _, rfl, rfl, pow10 (by decide) (by decide), _, _, rfl, rfl, pow10 (by decide) (by decide), _, _, rfl, rfl, cmul_small (abs_small (by decide +kernel) (by decide +kernel)) (abs_small (by decide +kernel) (by decide +kernel)), ?_⟩
    refine ⟨_, rfl, _, rfl, _, rfl, a, b, ps, qs, both, rfl, ha, hb, ok, fun g bs H1 s1 hg0 hg h3 es => ?_⟩
    have ha1 := s1 _ _ ha
    have hT1 := hT.same s1
    have p1 := hp.same s1
    have ngp := hp.ne hg0
    have hok := bs_ok ok es
    have hbl : bs.length ≤ 118 := by have := srt_len (both := both) ok; rw [← es, List.length_map] at this; exact this
    refine ⟨_, rfl, a, _, rfl, .inl (SqL.of ha1), _, _, rfl, rfl, _, rfl, by simp <;> omega, by simp <;> omega, fun U hU => ?_⟩
    rw [show ((((ps.map V.int).length : Nat) : Int) + 1).toNat = ps.length + 1 by rw [List.length_map]; omega]
    have nU := p1.ne hU
    have K1 : ∀ {H' : Hp} {o : HO}, But p H1 H' → But p H1 (upd H' U o) := fun bH x o nx e => by rw [upd_ne (ne_of_none e hU)]; exact bH x o nx e
    refine lc_range (lo := 0) (n := ps.length + 1) (fun i H' => But p H1 H' ∧ PoolB H' p (z + i) ∧ ∃ us : List Int, H' U = some (.lst (us.map V.int)) ∧ us.length = i ∧ ∀ x ∈ us, 0 ≤ x ∧ x ≤ 8)
      ⟨But.of (sm0 hU), p1.new hU, [], upd_same, rfl, fun x hx => by cases hx⟩ (fun i H' hi zz => ?_) fun H2 zz => ?_
    · obtain ⟨bH, pH, us, hacc, lq, hq⟩ := zz
      refine ⟨rfl, ?_⟩
      refine ⟨_, rfl, draw_of pH (G (by omega)) (by omega) (N (by omega)) fun d H3 b3 p3 d0 d1 => ?_⟩
      have hacc3 := b3 U _ nU hacc
      refine ⟨_, hacc3, by rw [List.length_map]; exact sz_lt (by omega), K1 (bH.trans b3), p3.put nU, us ++ [d], by rw [upd_same, List.map_append]; rfl, by simp [lq], fun x hx => ?_⟩
      rcases List.mem_append.mp hx with hx | hx
      · exact hq x hx
      · rw [List.mem_singleton] at hx
        subst hx
        omega
    obtain ⟨b2, p2, us, hU2, lus, hus⟩ := zz
    have tl0 : okTail us := fun j x e => by
      have := hus x (List.mem_of_getElem? e)
      exact ⟨this.1, Int.le_trans this.2 (by decide +kernel)⟩
    -- ups[0] = ..
    refine ⟨_, rfl, _, rfl, _, _, rfl, rfl, by show 4 ≤ sizeLine; decide, fun l hl => ?_⟩
    have nl := p2.ne hl
    refine ⟨_, rfl, draw_of (p2.new hl) (G (by omega)) (by decide) (N (by decide)) fun d3 H3 b3 p3 d30 d31 => ?_⟩
    have e3 := b3 _ _ nl upd_same
    obtain ⟨y, hy, hat⟩ := pick (L := [0, -1, (10 ^ Int.toNat 60 * 10 ^ Int.toNat 60) + 1, 5]) d30 d31
    have hU3 := b3 _ _ nU (atN hU2 hl)
    have b13 : But p H1 H3 := (b2.trans (But.of (sm0 hl))).trans b3
    refine ⟨l, _, _, _, rfl, rfl, SqL.of e3, hat, ?_⟩
    refine ⟨_, rfl, U, _, _, 0, rfl, rfl, hU3, ixN_of rfl (by rw [List.length_map]; omega), ?_⟩
    have b14 := K1 (o := .lst ((us.map V.int).set 0 (.int y))) b13
    have p4 : PoolB (upd H3 U (.lst ((us.map V.int).set 0 (.int y)))) p (z + 62) := (p3.put nU).up (by omega)
    have hU4 : upd H3 U (.lst ((us.map V.int).set 0 (.int y))) U = some (.lst ((us.set 0 y).map V.int)) := by rw [upd_same, List.map_set]
    have l4 : (us.set 0 y).length = ps.length + 1 := by rw [List.length_set, lus]
    have tl4 : okTail (us.set 0 y) := tl0.set0
    generalize upd H3 U (.lst ((us.map V.int).set 0 (.int y))) = H4 at b14 p4 hU4 ⊢
    generalize us.set 0 y = us4 at hU4 l4 tl4
    -- one entry at its most
    refine ⟨fun σ' H' => ∃ us : List Int, σ' = [some (.ref p), some (.ref t), some (.ref a), some (.ref b), some (.bl both), some (.int (10 ^ Int.toNat 60 * 10 ^ Int.toNat 60)), some (.ref g), some (.ref U), none, none, none, none, none, none, none, none, none] ∧ But p H1 H' ∧ PoolB H' p (z + 70) ∧ H' U = some (.lst (us.map V.int)) ∧ us.length = ps.length + 1 ∧ okTail us, ?_, ?_⟩
    · refine ⟨_, rfl, by show 0 ≤ sizeLine; decide, fun l0 hl0 => ?_⟩
      have st := sm0 (o := .lst []) hl0
      have b15 := b14.trans (But.of st)
      have p5 := p4.new (o := .lst []) hl0
      have hU5 := st _ _ hU4
      have ha5 := b15 _ _ nap ha1
      refine ⟨_, _, dpL (ns := ps) (SqL.of ha5), dpL (ns := []) (SqL.of upd_same), shL _, shL _, ?_⟩
      rw [eqvL]
      generalize upd H4 l0 (.lst []) = H5 at b15 p5 hU5 ha5 ⊢
      refine ⟨_, rfl, ifN (fun cn => ?_) fun _ => ⟨us4, rfl, b15, p5.up (by omega), hU5, l4, tl4⟩⟩
      have hpos : 0 < ps.length := List.length_pos_iff.mpr cn
      refine ⟨_, rfl, draw_of p5 (G (by omega)) (by decide) (N (by decide)) fun d6 H6 b6 p6 d60 d61 => ?_⟩
      have b16 := b15.trans b6
      have hU6 := b6 _ _ nU hU5
      refine ⟨rfl, _, rfl, ifI (fun _ => ?_) fun _ => ⟨us4, rfl, b16, p6.up (by omega), hU6, l4, tl4⟩⟩
      refine ⟨_, rfl, _, rfl, _, rfl, _, rfl, a, _, rfl, .inl (SqL.of (b16 _ _ nap ha1)), draw_of p6 (G (by omega)) (by rw [lp]; omega) (N (by rw [lp]; omega)) fun d7 H7 b7 p7 d70 d71 => ?_⟩
      rw [lp] at d71
      obtain ⟨j, rfl⟩ : ∃ j : Nat, d7 = (j : Int) := ⟨d7.toNat, by omega⟩
      have b17 := b16.trans b7
      have hU7 := b7 _ _ nU hU6
      refine ⟨_, _, rfl, rfl, U, _, _, 1 + j, rfl, rfl, hU7, ixN_of rfl (by rw [List.length_map]; omega), ?_⟩
      exact ⟨us4.set (1 + j) (10 ^ Int.toNat 60 * 10 ^ Int.toNat 60), rfl, K1 b17, (p7.put nU).up (by omega), by rw [upd_same, List.map_set], by rw [List.length_set, l4], tl4.set ⟨by rw [eM]; decide +kernel, by rw [eM]; exact Int.le_refl _⟩⟩
    clear hU4 l4 tl4 b14 p4 tl0 hus lus hU2 b2 p2
    rintro _ H5 ⟨us5, rfl, b5, p5, hU5, l5, tl5⟩
    have hg5 := b5 _ _ ngp hg
    have h35 := T3.but p1 b5 h3
    refine ⟨_, rfl, _, rfl, g, U, bs, us5, ps.length + 1, rfl, hg5, h35, hU5, hok, l5, hbl, fun r H6 s6 _ hr6 => ?_⟩
    have b6 := b5.trans (But.of s6)
    have p6 := p5.same s6
    have hU6 := s6 _ _ hU5
    refine ⟨_, rfl, U, _, rfl, .inl (SqL.of hU6), fun hd hhd => ?_⟩
    have s7 := sm0 (o := .lst (us5.map V.int)) hhd
    have hd7 : upd H6 hd (.lst (us5.map V.int)) hd = some (.lst (us5.map V.int)) := upd_same
    generalize upd H6 hd (.lst (us5.map V.int)) = H7 at s7 hd7 ⊢
    have b7 := b6.trans (But.of s7)
    have p7 := p6.same s7
    have hU7 := s7 _ _ hU6
    have hr7 := s7 _ _ hr6
    have hT7 := hT1.but p1 b7
    have hrow := row_tail tl5 (as := bs.map Prod.snd) (n := (ps.length : Int) + 1) fun x hx => by obtain ⟨b, hb, rfl⟩ := List.mem_map.mp hx; exact hok b hb
    have hrl : (flowR us5 (bs.map Prod.snd)).length = bs.length := by rw [flowR_eq, List.length_map, List.length_map]
    have hnb : ∀ i, badE (flowR us5 (srtA (twA ps qs both ps.length))) i → False := fun i hbad => no_badE (by rw [← es]; exact hrow) hbad
    refine ⟨_, rfl, _, rfl, _, rfl, t, hd, ps, qs, us5, both, rfl, hT7, ok, .inl (SqL.of hd7), (fun _ => ⟨fun _ fl H8 s8 hF => ?_, fun i hbad => (hnb i hbad).elim⟩), fun e => absurd l5 e⟩
    rw [← es] at hF
    refine ⟨_, rfl, fl, r, _, rfl, hF, s8 _ _ hr7, by rw [hrl]; omega, fun H9 s9 => ⟨_, rfl, ifF rfl ?_⟩⟩
    have s79 := s8.trans s9
    refine ⟨_, rfl, _, rfl, _, _, dpL (ns := us5) (SqL.of (s79 _ _ hd7)), dpL (ns := us5) (SqL.of (s79 _ _ hU7)), shL _, shL _, ?_⟩
    rw [eqvL]
    refine ⟨_, rfl, ifN (fun c => absurd rfl c) fun _ => ?_⟩
    refine ⟨_, rfl, _, rfl, U, _, rfl, .inl ⟨SqL.of (s79 _ _ hU7), fun q10 hq10 => ?_⟩⟩
    have s10 := smN s79 (o := .tup (us5.map V.int)) hq10
    have e10 : upd H9 q10 (.tup (us5.map V.int)) q10 = some (.tup (us5.map V.int)) := upd_same
    generalize upd H9 q10 (.tup (us5.map V.int)) = H10 at s10 e10 ⊢
    have hT10 := hT7.same s10
    refine ⟨_, rfl, rfl, t, q10, ps, qs, us5, both, rfl, hT10, ok, .inr e10, (fun _ => ⟨fun _ fl2 H11 s11 hF2 => ?_, fun i hbad => (hnb i hbad).elim⟩), fun e => absurd l5 e⟩
    rw [← es] at hF2
    refine ⟨_, rfl, fl2, r, _, rfl, hF2, (s10.trans s11) _ _ hr7, by rw [hrl]; omega, fun H12 s12 => ⟨_, rfl, ifF rfl ?_⟩⟩
    have s712 := (s10.trans s11).trans s12
    refine ⟨fun σ' H' => σ' = [some (.ref p), some (.ref t), some (.ref a), some (.ref b), some (.bl both), some (.int (10 ^ Int.toNat 60 * 10 ^ Int.toNat 60)), some (.ref g), some (.ref U), none, some (.ref r), some (.ref hd), none, none, none, none, none, none] ∧ Same H7 H', ?_, ?_⟩
    · cases both with
      | true => exact ⟨_, rfl, _, rfl, iteF ⟨rfl, s712⟩⟩
      | false =>
        refine ⟨_, rfl, _, rfl, iteT ?_⟩
        refine ⟨_, rfl, _, rfl, U, _, rfl, .inl ⟨SqL.of (s712 _ _ hU7), fun q13 hq13 => ?_⟩⟩
        have s13 := smN s712 (o := .tup (us5.map V.int)) hq13
        have e13 : upd H12 q13 (.tup (us5.map V.int)) q13 = some (.tup (us5.map V.int)) := upd_same
        generalize upd H12 q13 (.tup (us5.map V.int)) = H13 at s13 e13 ⊢
        refine ⟨t, q13, ps, qs, us5, false, rfl, hT7.same s13, ok, .inr e13, (fun _ => ⟨fun _ fl3 H14 s14 hF3 => ?_, fun i hbad => (hnb i hbad).elim⟩), fun e => absurd l5 e⟩
        rw [← es] at hF3
        refine ⟨_, rfl, fl3, r, _, rfl, hF3, (s13.trans s14) _ _ hr7, by rw [hrl]; omega, fun H15 s15 => ⟨_, rfl, ifF rfl ?_⟩⟩
        exact ⟨rfl, (s13.trans s14).trans s15⟩
    rintro _ H13 ⟨rfl, s13⟩
    have b13 := b7.trans (But.of s13)
    have p13 := p7.same s13
    have hU13 := s13 _ _ hU7
    clear s712 s12 hF2 s11 hT10 s10 e10 s79 s8 s9 hF hnb hrow hrl hT7 hr7 hU7 p7 b7 hd7 s7 hU6 p6 b6 hr6 s6 h35 hg5 s13
    -- odd entries
    refine ⟨_, rfl, by decide, by decide, ?_⟩
    refine for_range (lo := 0) (n := 2) (fun i σ' H' => ∃ (v11 v12 v13 : Option V) (us : List Int), σ' = [some (.ref p), some (.ref t), some (.ref a), some (.ref b), some (.bl both), some (.int (10 ^ Int.toNat 60 * 10 ^ Int.toNat 60)), some (.ref g), some (.ref U), none, some (.ref r), some (.ref hd), v11, v12, v13, none, none, none] ∧ But p H1 H' ∧ PoolB H' p (z + 70 + 2 * i) ∧ H' U = some (.lst (us.map V.int)) ∧ us.length = ps.length + 1)
      ⟨none, none, none, us5, rfl, b13, p13, hU13, l5⟩ (fun i σ H' hi h => ?_) fun σ H' h => ?_
    · obtain ⟨v11, v12, v13, us, rfl, bH, pH, hUH, lus⟩ := h
      rw [Int.zero_add]
      refine ⟨_, rfl, by show 0 ≤ sizeLine; decide, fun l0 hl0 => ?_⟩
      have st := sm0 (o := .lst []) hl0
      have b15 := bH.trans (But.of st)
      have p5 := pH.new (o := .lst []) hl0
      have hU5 := st _ _ hUH
      have ha5 := b15 _ _ nap ha1
      refine ⟨_, _, dpL (ns := ps) (SqL.of ha5), dpL (ns := []) (SqL.of upd_same), shL _, shL _, ?_⟩
      rw [eqvL]
      generalize upd H' l0 (.lst []) = H5 at b15 p5 hU5 ha5 ⊢
      refine ⟨_, rfl, ifN (fun cn => ?_) fun _ => ⟨_, _, _, us, rfl, b15, p5.up (by omega), hU5, lus⟩⟩
      have hpos : 0 < ps.length := List.length_pos_iff.mpr cn
      refine ⟨_, rfl, _, rfl, _, _, rfl, rfl, _, rfl, _, _, rfl, rfl, _, rfl, _, _, rfl, rfl, cmul_small (abs_small (by decide +kernel) (by decide +kernel)) (abs_small (by decide +kernel) (by decide +kernel)), by show 4 ≤ sizeLine; decide, fun l hl => ?_⟩
      have nl := p5.ne hl
      have p6 := p5.new (o := .lst ([-1, (10 ^ Int.toNat 60 * 10 ^ Int.toNat 60) + 1, 0 - (10 ^ Int.toNat 60 * 10 ^ Int.toNat 60), (10 ^ Int.toNat 60 * 10 ^ Int.toNat 60) * 10].map V.int)) hl
      have e6 : upd H5 l (.lst ([-1, (10 ^ Int.toNat 60 * 10 ^ Int.toNat 60) + 1, 0 - (10 ^ Int.toNat 60 * 10 ^ Int.toNat 60), (10 ^ Int.toNat 60 * 10 ^ Int.toNat 60) * 10].map V.int)) l = some (.lst ([-1, (10 ^ Int.toNat 60 * 10 ^ Int.toNat 60) + 1, 0 - (10 ^ Int.toNat 60 * 10 ^ Int.toNat 60), (10 ^ Int.toNat 60 * 10 ^ Int.toNat 60) * 10].map V.int)) := upd_same
      have s6 := sm0 (o := .lst ([-1, (10 ^ Int.toNat 60 * 10 ^ Int.toNat 60) + 1, 0 - (10 ^ Int.toNat 60 * 10 ^ Int.toNat 60), (10 ^ Int.toNat 60 * 10 ^ Int.toNat 60) * 10].map V.int)) hl
      refine ⟨_, rfl, _, rfl, a, _, rfl, .inl (SqL.of (s6 _ _ ha5)), draw_of p6 (G (by omega)) (by rw [lp]; omega) (N (by rw [lp]; omega)) fun d7 H7 b7 p7 d70 d71 => ?_⟩
      rw [lp] at d71
      obtain ⟨j, rfl⟩ : ∃ j : Nat, d7 = (j : Int) := ⟨d7.toNat, by omega⟩
      have e7 := b7 _ _ nl e6
      have hU7 := b7 _ _ nU (s6 _ _ hU5)
      have b17 := (b15.trans (But.of s6)).trans b7
      refine ⟨_, _, rfl, rfl, ?_⟩
      refine ⟨_, rfl, _, rfl, draw_of p7 (G (by omega)) (by decide) (N (by decide)) fun d8 H8 b8 p8 d80 d81 => ?_⟩
      have e8 := b8 _ _ nl e7
      obtain ⟨y, hy, hat⟩ := pick (L := [-1, (10 ^ Int.toNat 60 * 10 ^ Int.toNat 60) + 1, 0 - (10 ^ Int.toNat 60 * 10 ^ Int.toNat 60), (10 ^ Int.toNat 60 * 10 ^ Int.toNat 60) * 10]) d80 d81
      have hU8 := b8 _ _ nU hU7
      refine ⟨l, _, _, _, rfl, rfl, SqL.of e8, hat, ?_⟩
      refine ⟨_, rfl, _, rfl, U, _, _, 1 + j, rfl, rfl, hU8, ixN_of rfl (by rw [List.length_map]; omega), ?_⟩
      exact ⟨_, _, _, us.set (1 + j) y, rfl, K1 (b17.trans b8), (p8.put nU).up (by omega), by rw [upd_same, List.map_set], by rw [List.length_set, lus]⟩
    obtain ⟨v11, v12, v13, us, rfl, bH, pH, hUH, lus⟩ := h
    clear hU13 p13 b13 hU5 tl5 l5 p5 b5
    have hgH := bH _ _ ngp hg
    refine ⟨_, rfl, _, rfl, g, U, bs, us, ps.length + 1, rfl, hgH, T3.but p1 bH h3, hUH, hok, lus, hbl, fun r2 H2 s2 _ hr2 => ?_⟩
    have b2 := bH.trans (But.of s2)
    have p2 := pH.same s2
    have hU2 := s2 _ _ hUH
    have hrl : (flowR us (bs.map Prod.snd)).length = bs.length := by rw [flowR_eq, List.length_map, List.length_map]
    have hdue := bads_due (both := both) (row := flowR us (bs.map Prod.snd)) (by rw [es]) lus
    generalize flowR us (bs.map Prod.snd) = row at hr2 hrl hdue
    -- bad = [..]
    refine ⟨_, rfl, r2, _, rfl, .inl (SqL.of hr2), _, rfl, by simp <;> omega, by simp <;> omega, fun B hB => ?_⟩
    rw [show ((((row.map V.int).length : Nat) : Int)).toNat = row.length by simp]
    refine lc_range (lo := 0) (n := row.length) (fun i H' => Same H2 H' ∧ H' B = some (.lst ((bads row i).map V.int)))
      ⟨sm0 hB, upd_same⟩ (fun i H' hi zz => ?_) fun H3 zz => ?_
    · obtain ⟨sh, hacc⟩ := zz
      obtain ⟨x, hx⟩ : ∃ x, row[i]? = some x := ⟨_, List.getElem?_eq_getElem hi⟩
      have ex : row.getD i 0 = x := by rw [List.getD_eq_getElem?_getD, hx]; rfl
      have add : badV x → Same H2 (upd H' B (.lst ((bads row i).map V.int ++ [.int (i : Nat)]))) ∧ upd H' B (.lst ((bads row i).map V.int ++ [.int (i : Nat)])) B = some (.lst ((bads row (i + 1)).map V.int)) := fun hb => by
        refine ⟨smM sh hB, ?_⟩
        rw [upd_same]
        show _ = some (HO.lst ((bads row i ++ (if badV (row.getD i 0) then [(i : Int)] else [])).map V.int))
        rw [ex, if_pos hb, List.map_append]
        rfl
      have hsz : ((bads row i).map V.int).length < sizeLine := by rw [List.length_map]; exact sz_lt (by have := bads_len row i; omega)
      rw [Int.zero_add]
      refine ⟨rfl, _, rfl, _, rfl, r2, _, _, _, rfl, rfl, SqL.of (sh _ _ hr2), atI_nat (at_ints hx), _, _, rfl, rfl, _, rfl, ifD (fun c => ?_) fun c => ?_⟩
      · exact ⟨_, rfl, _, hacc, hsz, add (.inl c)⟩
      · refine ⟨_, rfl, _, rfl, r2, _, _, _, rfl, rfl, SqL.of (sh _ _ hr2), atI_nat (at_ints hx), _, rfl, _, _, rfl, rfl, _, rfl, ifD (fun c2 => ?_) fun c2 => ?_⟩
        · exact ⟨_, rfl, _, hacc, hsz, add (.inr (by rw [← eM]; exact c2))⟩
        · refine ⟨sh, ?_⟩
          show _ = some (HO.lst ((bads row i ++ (if badV (row.getD i 0) then [(i : Int)] else [])).map V.int))
          rw [ex, if_neg (fun z : badV x => Or.elim z c fun z => c2 (by rw [eM]; exact z)), List.append_nil]
          exact hacc
    obtain ⟨s3, hB3⟩ := zz
    -- due
    refine ⟨by show 0 ≤ sizeLine; decide, fun q4 hq4 => ?_⟩
    have s4 := smN s3 (o := .tup []) hq4
    have hB4 := atN (o := .tup []) hB3 hq4
    have e4 : upd H3 q4 (.tup []) q4 = some (.tup []) := upd_same
    generalize upd H3 q4 (.tup []) = H4 at s4 hB4 e4 ⊢
    refine ⟨fun σ' H' => ∃ (q : Addr) (due : Option (List V)), σ' = [some (.ref p), some (.ref t), some (.ref a), some (.ref b), some (.bl both), some (.int (10 ^ Int.toNat 60 * 10 ^ Int.toNat 60)), some (.ref g), some (.ref U), none, some (.ref r2), some (.ref hd), v11, v12, v13, some (.ref B), none, some (.ref q)] ∧ Same H2 H' ∧ toldAt H' q due ∧ DueF ps qs both us due, ?_, ?_⟩
    · refine ⟨_, rfl, by show 0 ≤ sizeLine; decide, fun l0 hl0 => ?_⟩
      have s5 := smN s4 (o := .lst []) hl0
      have hB5 := atN (o := .lst []) hB4 hl0
      have e5 := atN (o := .lst []) e4 hl0
      refine ⟨_, _, dpL (ns := bads row row.length) (SqL.of hB5), dpL (ns := []) (SqL.of upd_same), shL _, shL _, ?_⟩
      rw [eqvL]
      generalize upd H4 l0 (.lst []) = H5 at s5 hB5 e5 ⊢
      rcases hdue with ⟨e, hd2⟩ | ⟨i, rest, e, hd2⟩
      · rw [e]
        refine ⟨_, rfl, ifN (fun c => absurd rfl c) fun _ => ?_⟩
        exact ⟨q4, none, rfl, s5, e5, hd2⟩
      · rw [e] at hB5 ⊢
        refine ⟨_, rfl, ifN (fun _ => ?_) fun c => absurd (show (i : Int) :: rest = [] from c) (by simp)⟩
        refine ⟨_, rfl, B, _, _, _, rfl, rfl, SqL.of hB5, atI0, by show 2 ≤ sizeLine; decide, fun r6 hr6 => ?_⟩
        have s6 := smN s5 (o := .tup [.str "NotPebbles", .int (i : Nat)]) hr6
        have e6 : upd H5 r6 (.tup [.str "NotPebbles", .int (i : Nat)]) r6 = some (.tup [.str "NotPebbles", .int (i : Nat)]) := upd_same
        generalize upd H5 r6 (.tup [.str "NotPebbles", .int (i : Nat)]) = H6 at s6 e6 ⊢
        refine ⟨by show 1 ≤ sizeLine; decide, fun q7 hq7 => ?_⟩
        exact ⟨q7, some [.str "NotPebbles", .int (i : Nat)], rfl, smN s6 hq7, ⟨r6, upd_same, atN e6 hq7⟩, hd2⟩
    clear hdue e4 hB4 s4 hq4 hB3 s3
    rintro _ H5 ⟨q, due, rfl, s5, td, hdue⟩
    have hT2 := hT1.but p1 b2
    have ull : (((us.map V.int).length : Nat) : Int) = (ps.length : Int) + 1 := by rw [List.length_map, lus]; rfl
    refine ⟨_, rfl, _, rfl, U, _, rfl, .inl (SqL.of (s5 _ _ hU2)), fun l6 hl6 => ?_⟩
    have s6 := sm0 (o := .lst (us.map V.int)) hl6
    have e6 : upd H5 l6 (.lst (us.map V.int)) l6 = some (.lst (us.map V.int)) := upd_same
    generalize upd H5 l6 (.lst (us.map V.int)) = H6 at s6 e6 ⊢
    refine ⟨_, rfl, t, l6, ps, qs, both, (hT2.same s5).same s6, ok, .inr ⟨us, rfl, .inl (SqL.of e6), fun due2 q7 H7 hdue2 s7 td7 => ?_⟩⟩
    obtain rfl := due_uniq hdue2 hdue
    have s57 := s6.trans s7
    refine ⟨_, rfl, same_of (told_da td7 (td.same s57) (due_row hdue)) ⟨_, rfl, ifF rfl ?_⟩⟩
    have s27 := s5.trans s57
    clear td hdue td7 hdue2 s57 s7 e6 s6 s5
    -- one more
    refine ⟨_, rfl, U, _, rfl, .inl (SqL.of (s27 _ _ hU2)), _, _, rfl, rfl, _, rfl, U, _, rfl, .inl (SqL.of (s27 _ _ hU2)), by show 3 ≤ sizeLine; decide, fun r8 hr8 => ?_⟩
    rw [ull]
    have s8 := smN s27 (o := .tup [.str "WrongWidth", .int ((ps.length : Int) + 1 + 1), .int ((ps.length : Int) + 1)]) hr8
    have e8 : upd H7 r8 (.tup [.str "WrongWidth", .int ((ps.length : Int) + 1 + 1), .int ((ps.length : Int) + 1)]) r8 = some (.tup [.str "WrongWidth", .int ((ps.length : Int) + 1 + 1), .int ((ps.length : Int) + 1)]) := upd_same
    generalize upd H7 r8 (.tup [.str "WrongWidth", .int ((ps.length : Int) + 1 + 1), .int ((ps.length : Int) + 1)]) = H8 at s8 e8 ⊢
    refine ⟨by show 1 ≤ sizeLine; decide, fun q9 hq9 => ?_⟩
    have s9 := smN s8 (o := .tup [.ref r8]) hq9
    have e9 : toldAt (upd H8 q9 (.tup [.ref r8])) q9 (some [.str "WrongWidth", .int ((ps.length : Int) + 1 + 1), .int ((ps.length : Int) + 1)]) := ⟨r8, upd_same, atN e8 hq9⟩
    generalize upd H8 q9 (.tup [.ref r8]) = H9 at s9 e9 ⊢
    refine ⟨_, rfl, _, rfl, _, rfl, by show 1 ≤ sizeLine; decide, fun l10 hl10 => ?_⟩
    have x10 := sm0 (o := .lst [.int (-1)]) hl10
    have e10 : upd H9 l10 (.lst [.int (-1)]) l10 = some (.lst [.int (-1)]) := upd_same
    have w10 := s9.trans x10
    generalize upd H9 l10 (.lst [.int (-1)]) = H10 at x10 e10 w10 ⊢
    refine ⟨U, l10, _, _, rfl, rfl, w10 _ _ hU2, e10, sz_small (by simp; omega), fun l11 hl11 => ?_⟩
    have x11 := smN x10 (o := .lst (us.map V.int ++ [.int (-1)])) hl11
    have w11 := smN w10 (o := .lst (us.map V.int ++ [.int (-1)])) hl11
    have e11 : upd H10 l11 (.lst (us.map V.int ++ [.int (-1)])) l11 = some (.lst ((us ++ [-1]).map V.int)) := by rw [upd_same, List.map_append]; rfl
    generalize upd H10 l11 (.lst (us.map V.int ++ [.int (-1)])) = H11 at x11 w11 e11 ⊢
    have l11 : (us ++ [-1]).length = ps.length + 2 := by rw [List.length_append, lus]; rfl
    refine ⟨_, rfl, t, _, ps, qs, both, hT2.same w11, ok, .inr ⟨us ++ [-1], rfl, .inl (SqL.of e11), fun due3 q12 H12 hdue3 s12 td12 => ?_⟩⟩
    obtain rfl := due_uniq hdue3 (.width (by omega))
    rw [l11] at td12
    have x12 := x11.trans s12
    have w12 := w11.trans s12
    refine ⟨_, rfl, same_of (told_da td12 (e9.same x12) ww_row) ⟨_, rfl, ifF rfl ?_⟩⟩
    clear e9 td12 hdue3 e11 x11 w11 s9 s8 e8 x10 e10 w10 x12
    -- one fewer
    refine ⟨_, rfl, U, _, rfl, .inl (SqL.of (w12 _ _ hU2)), _, _, rfl, rfl, _, rfl, U, _, rfl, .inl (SqL.of (w12 _ _ hU2)), by show 3 ≤ sizeLine; decide, fun r8 hr8 => ?_⟩
    rw [ull]
    have s8 := smN w12 (o := .tup [.str "WrongWidth", .int ((ps.length : Int) + 1 - 1), .int ((ps.length : Int) + 1)]) hr8
    have e8 : upd H12 r8 (.tup [.str "WrongWidth", .int ((ps.length : Int) + 1 - 1), .int ((ps.length : Int) + 1)]) r8 = some (.tup [.str "WrongWidth", .int ((ps.length : Int) + 1 - 1), .int ((ps.length : Int) + 1)]) := upd_same
    generalize upd H12 r8 (.tup [.str "WrongWidth", .int ((ps.length : Int) + 1 - 1), .int ((ps.length : Int) + 1)]) = H13 at s8 e8 ⊢
    refine ⟨by show 1 ≤ sizeLine; decide, fun q9 hq9 => ?_⟩
    have s9 := smN s8 (o := .tup [.ref r8]) hq9
    have e9 : toldAt (upd H13 q9 (.tup [.ref r8])) q9 (some [.str "WrongWidth", .int ((ps.length : Int) + 1 - 1), .int ((ps.length : Int) + 1)]) := ⟨r8, upd_same, atN e8 hq9⟩
    generalize upd H13 q9 (.tup [.ref r8]) = H14 at s9 e9 ⊢
    refine ⟨_, rfl, _, rfl, _, rfl, U, _, rfl, SqL.of (s9 _ _ hU2), ?_⟩
    rw [cut_tail (by omega)]
    intro l15 hl15
    have x15 := sm0 (o := .lst ((us.drop 1).map V.int)) hl15
    have w15 := smN s9 (o := .lst ((us.drop 1).map V.int)) hl15
    have e15 : upd H14 l15 (.lst ((us.drop 1).map V.int)) l15 = some (.lst ((us.drop 1).map V.int)) := upd_same
    generalize upd H14 l15 (.lst ((us.drop 1).map V.int)) = H15 at x15 w15 e15 ⊢
    have ld : (us.drop 1).length = ps.length := by rw [List.length_drop, lus]; rfl
    refine ⟨_, rfl, t, _, ps, qs, both, hT2.same w15, ok, .inr ⟨us.drop 1, rfl, .inl (SqL.of e15), fun due4 q16 H16 hdue4 s16 td16 => ?_⟩⟩
    obtain rfl := due_uniq hdue4 (.width (by omega))
    rw [ld] at td16
    have e9' := e9.same (x15.trans s16)
    rw [show (ps.length : Int) + 1 - 1 = (ps.length : Int) by omega] at e9'
    have w16 := w15.trans s16
    refine ⟨_, rfl, same_of (told_da td16 e9' ww_row) ?_⟩
    exact k _ ((But.of s1).trans (b2.trans (But.of w16))) ((p2.same w16).up (by omega))
end
end K12
set_option maxRecDepth 100000
set_option maxHeartbeats 4000000
namespace K12
open PySem PySem.Spec PyProof.Rows L2 SI
local macro_rules | `(tactic| walk_at "lk") => `(tactic| first | exact lk_hit | exact lk_nil | (refine lk_next (by decide +kernel) ?_; walk_at "lk"))
def spLaw (K : PySem.W.Frag) : Sp := fun vs H Q _ => ∃ (a : Addr) (ns : List Int), vs = [.ref a] ∧ SqL K H a (ns.map V.int) ∧ ns.length ≤ 63 ∧ ∀ H', Q (.bl true) H'
section
variable {P : Program} {w : World} {K : PySem.W.Frag} {mg : Str → Option Value} {base : Heap} {Ad1 Ad2 Ad3 Ad4 Ad5 Ad6 Ad7 Ad9 Ad10 Ad11 Ad12 Ad13 Ad14 Ad20 : Addr}
theorem scLaw : FnScope ["script", "pool", "parents", "prices", "tree", "turn", "counts", "both", "arrows"] ["script"] (defScope sLaw) := ⟨rfl, rfl, rfl, by decide +kernel, rfl, by decide +kernel, by decide +kernel⟩
theorem ok_Law (T : Txt P w K mg base Ad1 Ad2 Ad3 Ad4 Ad5 Ad6 Ad7 Ad9 Ad10 Ad11 Ad12 Ad13 Ad14 Ad20) : Cd P w K mg base 14 "law" sLaw ["script"] (spLaw K) := by
  have c_LPool := ok_LPool T
  have c_LRows := ok_LRows T
  have k_Tree := (ok_Tree T).mkr
  have c_LCounts := ok_LCounts T
  have c_LPushed := ok_LPushed T
  have c_LWidths := ok_LWidths T
  have c_LWebRight := ok_LWebRight T
  have c_LAnyRow := ok_LAnyRow T
  have c_LArrows := ok_LArrows T
  have c_LSame := ok_LSame T 2
  have d_TreeWeb := ok_TreeWeb T
  have c_TreeWeb : Cl P w K mg base 6 "tree_web" (spTWeb Ad11 Ad14) [.bl false] := d_TreeWeb.cl 1 0 (by simp) rfl fun T kV doc pm an cdv ct us its l1 l2 => match us, its, l1, l2 with | [_], [_], _, _ => ⟨_, rfl, rfl⟩
  refine cd_of T.d_law scLaw (fun vs H Q E h => ?_) fun f cdv A outer s H vs Q E hr h => ?_
  · obtain ⟨a, ns, rfl, _⟩ := h
    rfl
  · obtain ⟨sc, cells, rfl, hsc, hcl, k⟩ := h
    refine ⟨_, (pss_cons (ps_set (i := 1) scLaw.nd rfl (by first | exact Or.inl rfl | exact Or.inr rfl) (pe_c c_LPool hr (by decide) rfl (pa_cons (pv 0) pa_nil)))
  (pss_cons (ps_asg (pe_c c_LRows hr (by decide) rfl (pa_cons (pv 1) pa_nil)) (pg_tup rfl (pgs_cons (pg_name (i := 2) scLaw.nd rfl (by first | exact Or.inl rfl | exact Or.inr rfl)) (pgs_cons (pg_name (i := 3) scLaw.nd rfl (by first | exact Or.inl rfl | exact Or.inr rfl)) pgs_nil))))
  (pss_cons (ps_set (i := 4) scLaw.nd rfl (by first | exact Or.inl rfl | exact Or.inr rfl) (pe_mk k_Tree hr (by decide) rfl (pa_cons (pe_callTy call_list_of (by rfl) T.b_list (by decide +kernel) (pa_cons (pv 2) pa_nil)) (pa_cons (pe_callTy call_list_of (by rfl) T.b_list (by decide +kernel) (pa_cons (pv 3) pa_nil)) pa_nil))))
  (pss_cons (ps_for (passes_of rfl) rfl (pi_range1 (by rfl) T.b_range (pa_cons pe_int pa_nil)) (pg_name (i := 5) scLaw.nd rfl (by first | exact Or.inl rfl | exact Or.inr rfl))
    (pss_cons (ps_set (i := 6) scLaw.nd rfl (by first | exact Or.inl rfl | exact Or.inr rfl) (pe_c c_LCounts hr (by decide) rfl (pa_cons (pv 1) (pa_cons (pv 2) pa_nil))))
    (pss_cons (ps_if (pt_not (pt_val (pe_c c_LPushed hr (by decide) rfl (pa_cons (pv 4) (pa_cons (pv 2) (pa_cons (pv 3) (pa_cons (pv 6) pa_nil)))))))
      (pss_one (ps_ret pe_bl))
      pss_nil)
    (pss_one (ps_if (pt_not (pt_val (pe_c c_LWidths hr (by decide) rfl (pa_cons (pv 4) (pa_cons (pv 6) pa_nil)))))
      (pss_one (ps_ret pe_bl))
      pss_nil)))))
  (pss_cons (ps_for (passes_of rfl) rfl (pi_list (pe_lst (pa_cons pe_bl (pa_cons pe_bl pa_nil)))) (pg_name (i := 7) scLaw.nd rfl (by first | exact Or.inl rfl | exact Or.inr rfl))
    (pss_cons (ps_if (pt_not (pt_val (pe_c c_LWebRight hr (by decide) rfl (pa_cons (pv 4) (pa_cons (pv 2) (pa_cons (pv 3) (pa_cons (pv 7) pa_nil)))))))
      (pss_one (ps_ret pe_bl))
      pss_nil)
    (pss_one (ps_if (pt_not (pt_val (pe_c c_LAnyRow hr (by decide) rfl (pa_cons (pv 1) (pa_cons (pv 4) (pa_cons (pv 2) (pa_cons (pv 3) (pa_cons (pv 7) pa_nil))))))))
      (pss_one (ps_ret pe_bl))
      pss_nil))))
  (pss_cons (ps_set (i := 8) scLaw.nd rfl (by first | exact Or.inl rfl | exact Or.inr rfl) (pe_callTy call_tuple_of (by rfl) T.b_tuple (by decide +kernel) (pa_cons (pe_c c_LArrows hr (by decide) rfl (pa_cons (pv 2) (pa_cons (pv 3) (pa_cons pe_bl pa_nil)))) pa_nil)))
  (pss_cons (ps_if (pt_not (pt_val (pe_c c_LSame hr (by decide) rfl (pa_cons (pe_fld (pe_c c_TreeWeb hr (by decide) rfl (pa_cons (pv 4) pa_nil)) rfl) (pa_cons (pv 8) pa_nil)))))
    (pss_one (ps_ret pe_bl))
    pss_nil)
  (pss_cons (ps_set (i := 8) scLaw.nd rfl (by first | exact Or.inl rfl | exact Or.inr rfl) (pe_callTy call_tuple_of (by rfl) T.b_tuple (by decide +kernel) (pa_cons (pe_c c_LArrows hr (by decide) rfl (pa_cons (pv 2) (pa_cons (pv 3) (pa_cons pe_bl pa_nil)))) pa_nil)))
  (pss_one (ps_ret (pe_c c_LSame hr (by decide) rfl (pa_cons (pe_fld (pe_cKD (ks := ["both", "tree"]) (g := fun _ zs => swp zs) d_TreeWeb hr (by decide) rfl (pk_cons pe_bl (pk_cons (pv 4) pk_nil)) (by simp) (fun _ r => swp_rel r) (fun _ _ _ _ _ _ _ us its ws l0 l1 l2 => match us, its, ws, l0, l1, l2 with | [], [_], [_, _], _, _, _ => ⟨_, rfl, rfl⟩)) rfl) (pa_cons (pv 8) pa_nil))))))))))))), ?_⟩
    refine ⟨_, rfl, sc, cells, rfl, hsc, hcl, fun p H1 s1 _ p1 => ?_⟩
    refine ⟨_, rfl, p, 0, rfl, p1, by decide, fun q a b ps qs H2 b2 p2 hq ha hb ok fa fb nab => ?_⟩
    have nap := p1.ne fa
    have nbp := p1.ne fb
    have h59 := ok.1
    refine ⟨q, _, rfl, .inl (.inl hq), rfl, _, _, rfl, _, _, rfl, rfl, ?_⟩
    refine ⟨_, rfl, a, _, rfl, .inl (SqL.of ha), fun l1 hl1 => ?_⟩
    have u1 := sm0 (o := .lst (ps.map V.int)) hl1
    have f1 : upd H2 l1 (.lst (ps.map V.int)) l1 = some (.lst (ps.map V.int)) := upd_same
    generalize upd H2 l1 (.lst (ps.map V.int)) = H3 at u1 f1 ⊢
    refine ⟨_, rfl, b, _, rfl, .inl (SqL.of (u1 _ _ hb)), fun l2 hl2 => ?_⟩
    have u2 := smN u1 (o := .lst (qs.map V.int)) hl2
    refine fun t dx hx hdx ne => mk_ok hx hdx ok (.inl (SqL.of (atN f1 hl2))) (.inl (SqL.of upd_same)) fun G s5 hT => ⟨rfl, ?_⟩
    have uG := u2.trans s5
    have haG := uG _ _ ha
    have hbG := uG _ _ hb
    have pG := p2.same uG
    clear u2 uG u1 f1 hq ha hb p2 b2 p1
    refine ⟨_, rfl, by decide, by decide, ?_⟩
    refine for_range (lo := 0) (n := 3) (fun i σ H' => ∃ v5 v6 : Option V, σ = [some (.ref sc), some (.ref p), some (.ref a), some (.ref b), some (.ref t), v5, v6, none, none] ∧ But p G H' ∧ PoolB H' p (0 + 400 + 400 * i))
      ⟨none, none, rfl, But.of (Same.refl G), pG⟩ (fun i σ H' hi h => ?_) fun σ H' h => ?_
    · obtain ⟨v5, v6, rfl, bH, pH⟩ := h
      have g1 : 0 + 400 + 400 * i ≤ 10 ^ 6 := by show _ ≤ 1000000; omega
      refine ⟨_, rfl, _, rfl, p, a, ps, _, rfl, pH, g1, nap, bH _ _ nap haG, h59, fun c ns H4 b4 p4 _ hc hn hns => ?_⟩
      have c4 := bH.trans b4
      refine ⟨_, rfl, _, rfl, _, rfl, _, rfl, t, a, b, c, ps, qs, ns, rfl, hT.but pG c4, ok, c4 _ _ nap haG, c4 _ _ nbp hbG, hc, hn, hns, fun H5 s5 => ⟨_, rfl, ifF rfl ?_⟩⟩
      have c5 := c4.trans (But.of s5)
      refine ⟨_, rfl, _, rfl, t, c, ps, qs, ns, rfl, hT.but pG c5, ok, s5 _ _ hc, hn, hns, fun H6 s6 => ⟨_, rfl, ifF rfl ?_⟩⟩
      exact ⟨_, _, rfl, c5.trans (But.of s6), (p4.same (s5.trans s6)).up (by omega)⟩
    obtain ⟨v5, v6, rfl, bH, pH⟩ := h
    refine ⟨by show 2 ≤ sizeLine; decide, fun lb hlb => ?_⟩
    have nlb := pH.ne hlb
    have s7 := sm0 (o := .lst [.bl false, .bl true]) hlb
    have b7 := bH.trans (But.of s7)
    have p7 := pH.same s7
    have hlb7 : upd H' lb (.lst [.bl false, .bl true]) lb = some (.lst [.bl false, .bl true]) := upd_same
    generalize upd H' lb (.lst [.bl false, .bl true]) = G2 at b7 p7 hlb7 ⊢
    refine ⟨lb, rfl, ⟨_, SqL.of hlb7⟩, for_list (K := K) (a := lb) (xs := [.bl false, .bl true]) (fun i σ H' => ∃ v7 : Option V, σ = [some (.ref sc), some (.ref p), some (.ref a), some (.ref b), some (.ref t), v5, v6, v7, none] ∧ But p G2 H' ∧ PoolB H' p (0 + 400 + 400 * 3 + 400 * i))
      ⟨none, rfl, But.of (Same.refl G2), p7⟩ (fun i σ H' _ h => by obtain ⟨_, _, sh, _⟩ := h; exact SqL.of (sh _ _ nlb hlb7)) (fun i y σ H' hy h => ?_) fun σ H' h => ?_⟩
    · obtain ⟨v7, rfl, sh, pH'⟩ := h
      have hi2 : i < 2 := (List.getElem?_eq_some_iff.mp hy).1
      obtain ⟨both, rfl⟩ : ∃ both : Bool, y = .bl both := by
        rcases i with _ | _ | i
        · cases hy; exact ⟨_, rfl⟩
        · cases hy; exact ⟨_, rfl⟩
        · simp at hy
      have g1 : 0 + 400 + 400 * 3 + 400 * i ≤ 10 ^ 6 := by show _ ≤ 1000000; omega
      have c0 := b7.trans sh
      refine ⟨_, rfl, _, rfl, _, rfl, _, rfl, t, a, b, ps, qs, both, rfl, hT.but pG c0, ok, c0 _ _ nap haG, c0 _ _ nbp hbG, fun H8 s8 => ⟨_, rfl, ifF rfl ?_⟩⟩
      have c1 := c0.trans (But.of s8)
      refine ⟨_, rfl, _, rfl, _, rfl, _, rfl, _, rfl, p, t, a, b, ps, qs, both, _, rfl, pH'.same s8, g1, nap, nbp, hT.but pG c1, ok, c1 _ _ nap haG, c1 _ _ nbp hbG, fun H9 b9 p9 => ⟨_, rfl, ifF rfl ?_⟩⟩
      exact ⟨_, rfl, (sh.trans (But.of s8)).trans b9, p9.up (by omega)⟩
    obtain ⟨v7, rfl, sh, pH'⟩ := h
    have c0 := b7.trans sh
    refine ⟨_, rfl, _, rfl, a, b, ps, qs, false, rfl, c0 _ _ nap haG, c0 _ _ nbp hbG, ok, fun g bs H3 s3 _ hg h3 es => ?_⟩
    refine ⟨g, _, rfl, .inl ⟨SqL.of hg, fun q4 hq4 => ?_⟩⟩
    have s4 := smN s3 (o := .tup (bs.map Prod.fst)) hq4
    have e4 : upd H3 q4 (.tup (bs.map Prod.fst)) q4 = some (.tup (bs.map Prod.fst)) := upd_same
    have h34 : T3 (upd H3 q4 (.tup (bs.map Prod.fst))) bs := h3.same fun b o e => atN e hq4
    generalize upd H3 q4 (.tup (bs.map Prod.fst)) = H4 at s4 e4 h34 ⊢
    have c4 := c0.trans (But.of s4)
    refine ⟨_, rfl, t, ps, qs, false, rfl, hT.but pG c4, ok, fun w5 H5 s5 hW => ?_⟩
    have hlen := srt_len (both := false) ok
    obtain ⟨dx5, A1, Bp, Bu, He, Nu, bs', cs, hw, hA, h3', es', _⟩ := hW
    have hbl : bs.length ≤ 118 := by rw [← es, List.length_map] at hlen; exact hlen
    have l2 : (webF ((ps.length : Int) + 1) A1 Bp ((srtA (twA ps qs false ps.length)).length : Nat) Bu He Nu).lookup ("arrows" : Str) = some (V.ref A1) := by walk_at "lk"
    refine ⟨w5, Ad14, dx5, _, _, rfl, hw, T.lWeb, T.nWeb_arrows, l2, _, rfl, ?_⟩
    refine same_of (da_T3 hA (s5 _ _ e4) h3' (h34.same fun b o e => s5 _ _ e) (es'.trans es.symm) (by omega)) ⟨_, rfl, ifF rfl ?_⟩
    have c5 := c4.trans (But.of s5)
    clear hw hA h3' es' hlen hbl l2 e4 h34 s4 h3 es hg s3
    refine ⟨_, rfl, _, rfl, a, b, ps, qs, true, rfl, c5 _ _ nap haG, c5 _ _ nbp hbG, ok, fun g bs H3 s3 _ hg h3 es => ?_⟩
    refine ⟨g, _, rfl, .inl ⟨SqL.of hg, fun q4 hq4 => ?_⟩⟩
    have s4 := smN s3 (o := .tup (bs.map Prod.fst)) hq4
    have e4 : upd H3 q4 (.tup (bs.map Prod.fst)) q4 = some (.tup (bs.map Prod.fst)) := upd_same
    have h34 : T3 (upd H3 q4 (.tup (bs.map Prod.fst))) bs := h3.same fun b o e => atN e hq4
    generalize upd H3 q4 (.tup (bs.map Prod.fst)) = H4 at s4 e4 h34 ⊢
    have c4 := c5.trans (But.of s4)
    refine ⟨_, rfl, rfl, t, ps, qs, true, rfl, hT.but pG c4, ok, fun w5 H5 s5 hW => ?_⟩
    have hlen := srt_len (both := true) ok
    obtain ⟨dx5, A1, Bp, Bu, He, Nu, bs', cs, hw, hA, h3', es', _⟩ := hW
    have hbl : bs.length ≤ 118 := by rw [← es, List.length_map] at hlen; exact hlen
    have l2 : (webF ((ps.length : Int) + 1) A1 Bp ((srtA (twA ps qs true ps.length)).length : Nat) Bu He Nu).lookup ("arrows" : Str) = some (V.ref A1) := by walk_at "lk"
    refine ⟨w5, Ad14, dx5, _, _, rfl, hw, T.lWeb, T.nWeb_arrows, l2, _, rfl, ?_⟩
    exact same_of (da_T3 hA (s5 _ _ e4) h3' (h34.same fun b o e => s5 _ _ e) (es'.trans es.symm) (by omega)) (k _)
end
end K12
set_option maxRecDepth 100000
set_option maxHeartbeats 4000000
open PySem PySem.W PyProof.Rows L2 SI K12
set_option maxRecDepth 100000 in
set_option maxHeartbeats 0 in
theorem PySem.Challenge.cw_pebblesreach_k12_tree_greedy_holds : PySem.Challenge.rw_pebblesreach_k12_tree_greedy.Holds := by
  w_on; o_law; k_head; (case hw => w_witness2)
  k_fill
  refine walkK (l := PySem.Challenge.rw_pebblesreach_k12_tree_greedy) (n := 63) (k := 14) (x := "script") (sp := spLaw) rfl (by decide) rfl ⟨rfl, by decide, by decide⟩ (fun K H a ns hl hS => ⟨a, ns, rfl, hS, hl, fun _ => rfl⟩) (fun w h Y => PySem.W.kIn_of Y) ?F
  case F =>
    intro w mg fa h KX G hmg
    refine' exc_at (x := "PebbleError") KX G ?h1a ?h1l ?h1rf ?h1sa ?h1exC ?h1tyC ?h1kC ?h1ga ?h1gg ?h1hd ?h1ac ?h1mo fun g_PebbleError o_PebbleError e_PebbleError => ?_
    (case h1a => k_is)
    (case h1l => k_is)
    (case h1rf => decide +kernel)
    (case h1sa => k_is)
    (case h1exC => k_is)
    (case h1tyC => k_is)
    (case h1kC => k_is)
    (case h1ga => k_is)
    (case h1gg => k_is)
    (case h1hd => k_is)
    (case h1ac => k_is)
    (case h1mo => k_is)
    refine' exc_at (x := "BadCount") KX G ?h2a ?h2l ?h2rf ?h2sa ?h2exC ?h2tyC ?h2kC ?h2ga ?h2gg ?h2hd ?h2ac ?h2mo fun g_BadCount o_BadCount e_BadCount => ?_
    (case h2a => k_is)
    (case h2l => k_is)
    (case h2rf => decide +kernel)
    (case h2sa => k_is)
    (case h2exC => k_is)
    (case h2tyC => k_is)
    (case h2kC => k_is)
    (case h2ga => k_is)
    (case h2gg => k_is)
    (case h2hd => k_is)
    (case h2ac => k_is)
    (case h2mo => k_is)
    refine' exc_at (x := "NotPebbles") KX G ?h3a ?h3l ?h3rf ?h3sa ?h3exC ?h3tyC ?h3kC ?h3ga ?h3gg ?h3hd ?h3ac ?h3mo fun g_NotPebbles o_NotPebbles e_NotPebbles => ?_
    (case h3a => k_is)
    (case h3l => k_is)
    (case h3rf => decide +kernel)
    (case h3sa => k_is)
    (case h3exC => k_is)
    (case h3tyC => k_is)
    (case h3kC => k_is)
    (case h3ga => k_is)
    (case h3gg => k_is)
    (case h3hd => k_is)
    (case h3ac => k_is)
    (case h3mo => k_is)
    refine' exc_at (x := "NoNode") KX G ?h4a ?h4l ?h4rf ?h4sa ?h4exC ?h4tyC ?h4kC ?h4ga ?h4gg ?h4hd ?h4ac ?h4mo fun g_NoNode o_NoNode e_NoNode => ?_
    (case h4a => k_is)
    (case h4l => k_is)
    (case h4rf => decide +kernel)
    (case h4sa => k_is)
    (case h4exC => k_is)
    (case h4tyC => k_is)
    (case h4kC => k_is)
    (case h4ga => k_is)
    (case h4gg => k_is)
    (case h4hd => k_is)
    (case h4ac => k_is)
    (case h4mo => k_is)
    refine' exc_at (x := "UnlikeWidths") KX G ?h5a ?h5l ?h5rf ?h5sa ?h5exC ?h5tyC ?h5kC ?h5ga ?h5gg ?h5hd ?h5ac ?h5mo fun g_UnlikeWidths o_UnlikeWidths e_UnlikeWidths => ?_
    (case h5a => k_is)
    (case h5l => k_is)
    (case h5rf => decide +kernel)
    (case h5sa => k_is)
    (case h5exC => k_is)
    (case h5tyC => k_is)
    (case h5kC => k_is)
    (case h5ga => k_is)
    (case h5gg => k_is)
    (case h5hd => k_is)
    (case h5ac => k_is)
    (case h5mo => k_is)
    refine' exc_at (x := "WrongWidth") KX G ?h6a ?h6l ?h6rf ?h6sa ?h6exC ?h6tyC ?h6kC ?h6ga ?h6gg ?h6hd ?h6ac ?h6mo fun g_WrongWidth o_WrongWidth e_WrongWidth => ?_
    (case h6a => k_is)
    (case h6l => k_is)
    (case h6rf => decide +kernel)
    (case h6sa => k_is)
    (case h6exC => k_is)
    (case h6tyC => k_is)
    (case h6kC => k_is)
    (case h6ga => k_is)
    (case h6gg => k_is)
    (case h6hd => k_is)
    (case h6ac => k_is)
    (case h6mo => k_is)
    refine' exc_at (x := "NotPayable") KX G ?h7a ?h7l ?h7rf ?h7sa ?h7exC ?h7tyC ?h7kC ?h7ga ?h7gg ?h7hd ?h7ac ?h7mo fun g_NotPayable o_NotPayable e_NotPayable => ?_
    (case h7a => k_is)
    (case h7l => k_is)
    (case h7rf => decide +kernel)
    (case h7sa => k_is)
    (case h7exC => k_is)
    (case h7tyC => k_is)
    (case h7kC => k_is)
    (case h7ga => k_is)
    (case h7gg => k_is)
    (case h7hd => k_is)
    (case h7ac => k_is)
    (case h7mo => k_is)
    refine' exc_at (x := "BadParent") KX G ?h8a ?h8l ?h8rf ?h8sa ?h8exC ?h8tyC ?h8kC ?h8ga ?h8gg ?h8hd ?h8ac ?h8mo fun g_BadParent o_BadParent e_BadParent => ?_
    (case h8a => k_is)
    (case h8l => k_is)
    (case h8rf => decide +kernel)
    (case h8sa => k_is)
    (case h8exC => k_is)
    (case h8tyC => k_is)
    (case h8kC => k_is)
    (case h8ga => k_is)
    (case h8gg => k_is)
    (case h8hd => k_is)
    (case h8ac => k_is)
    (case h8mo => k_is)
    refine' exc_at (x := "BadPrice") KX G ?h9a ?h9l ?h9rf ?h9sa ?h9exC ?h9tyC ?h9kC ?h9ga ?h9gg ?h9hd ?h9ac ?h9mo fun g_BadPrice o_BadPrice e_BadPrice => ?_
    (case h9a => k_is)
    (case h9l => k_is)
    (case h9rf => decide +kernel)
    (case h9sa => k_is)
    (case h9exC => k_is)
    (case h9tyC => k_is)
    (case h9kC => k_is)
    (case h9ga => k_is)
    (case h9gg => k_is)
    (case h9hd => k_is)
    (case h9ac => k_is)
    (case h9mo => k_is)
    refine' sup_at (P := PySem.Challenge.rw_pebblesreach_k12_tree_greedy.prog) (qual := "BadCount.__init__") (st := sBadCountInit) KX G o_BadCount rfl ?h10i ?h10t ?h10l ?h10c ?h10lc ?h10hf ?h10hm ?h10lcc ?h10self ?h10sup ?h10sub ?h10z ?h10any ?h10top fun fd_BadCount s_BadCount i_BadCount t_BadCount x_BadCount => ?_
    (case h10i => k_is)
    (case h10t => k_is)
    (case h10l => k_is)
    (case h10c => k_is)
    (case h10lc => k_is)
    (case h10hf => rfl)
    (case h10hm => first | rfl | decide +kernel)
    (case h10lcc => k_is)
    (case h10self => k_is)
    (case h10sup => ks_is)
    (case h10sub => k_is)
    (case h10z => k_is)
    (case h10any => k_is)
    (case h10top => decide +kernel)
    refine' sup_at (P := PySem.Challenge.rw_pebblesreach_k12_tree_greedy.prog) (qual := "NotPebbles.__init__") (st := sNotPebblesInit) KX G o_NotPebbles rfl ?h11i ?h11t ?h11l ?h11c ?h11lc ?h11hf ?h11hm ?h11lcc ?h11self ?h11sup ?h11sub ?h11z ?h11any ?h11top fun fd_NotPebbles s_NotPebbles i_NotPebbles t_NotPebbles x_NotPebbles => ?_
    (case h11i => k_is)
    (case h11t => k_is)
    (case h11l => k_is)
    (case h11c => k_is)
    (case h11lc => k_is)
    (case h11hf => rfl)
    (case h11hm => first | rfl | decide +kernel)
    (case h11lcc => k_is)
    (case h11self => k_is)
    (case h11sup => ks_is)
    (case h11sub => k_is)
    (case h11z => k_is)
    (case h11any => k_is)
    (case h11top => decide +kernel)
    refine' sup_at (P := PySem.Challenge.rw_pebblesreach_k12_tree_greedy.prog) (qual := "NoNode.__init__") (st := sNoNodeInit) KX G o_NoNode rfl ?h12i ?h12t ?h12l ?h12c ?h12lc ?h12hf ?h12hm ?h12lcc ?h12self ?h12sup ?h12sub ?h12z ?h12any ?h12top fun fd_NoNode s_NoNode i_NoNode t_NoNode x_NoNode => ?_
    (case h12i => k_is)
    (case h12t => k_is)
    (case h12l => k_is)
    (case h12c => k_is)
    (case h12lc => k_is)
    (case h12hf => rfl)
    (case h12hm => first | rfl | decide +kernel)
    (case h12lcc => k_is)
    (case h12self => k_is)
    (case h12sup => ks_is)
    (case h12sub => k_is)
    (case h12z => k_is)
    (case h12any => k_is)
    (case h12top => decide +kernel)
    refine' sup_at (P := PySem.Challenge.rw_pebblesreach_k12_tree_greedy.prog) (qual := "WrongWidth.__init__") (st := sWrongWidthInit) KX G o_WrongWidth rfl ?h13i ?h13t ?h13l ?h13c ?h13lc ?h13hf ?h13hm ?h13lcc ?h13self ?h13sup ?h13sub ?h13z ?h13any ?h13top fun fd_WrongWidth s_WrongWidth i_WrongWidth t_WrongWidth x_WrongWidth => ?_
    (case h13i => k_is)
    (case h13t => k_is)
    (case h13l => k_is)
    (case h13c => k_is)
    (case h13lc => k_is)
    (case h13hf => rfl)
    (case h13hm => first | rfl | decide +kernel)
    (case h13lcc => k_is)
    (case h13self => k_is)
    (case h13sup => ks_is)
    (case h13sub => k_is)
    (case h13z => k_is)
    (case h13any => k_is)
    (case h13top => decide +kernel)
    refine' sup_at (P := PySem.Challenge.rw_pebblesreach_k12_tree_greedy.prog) (qual := "BadParent.__init__") (st := sBadParentInit) KX G o_BadParent rfl ?h14i ?h14t ?h14l ?h14c ?h14lc ?h14hf ?h14hm ?h14lcc ?h14self ?h14sup ?h14sub ?h14z ?h14any ?h14top fun fd_BadParent s_BadParent i_BadParent t_BadParent x_BadParent => ?_
    (case h14i => k_is)
    (case h14t => k_is)
    (case h14l => k_is)
    (case h14c => k_is)
    (case h14lc => k_is)
    (case h14hf => rfl)
    (case h14hm => first | rfl | decide +kernel)
    (case h14lcc => k_is)
    (case h14self => k_is)
    (case h14sup => ks_is)
    (case h14sub => k_is)
    (case h14z => k_is)
    (case h14any => k_is)
    (case h14top => decide +kernel)
    refine' sup_at (P := PySem.Challenge.rw_pebblesreach_k12_tree_greedy.prog) (qual := "BadPrice.__init__") (st := sBadPriceInit) KX G o_BadPrice rfl ?h15i ?h15t ?h15l ?h15c ?h15lc ?h15hf ?h15hm ?h15lcc ?h15self ?h15sup ?h15sub ?h15z ?h15any ?h15top fun fd_BadPrice s_BadPrice i_BadPrice t_BadPrice x_BadPrice => ?_
    (case h15i => k_is)
    (case h15t => k_is)
    (case h15l => k_is)
    (case h15c => k_is)
    (case h15lc => k_is)
    (case h15hf => rfl)
    (case h15hm => first | rfl | decide +kernel)
    (case h15lcc => k_is)
    (case h15self => k_is)
    (case h15sup => ks_is)
    (case h15sub => k_is)
    (case h15z => k_is)
    (case h15any => k_is)
    (case h15top => decide +kernel)
    refine' mak_at (x := "Tree") (qual := "Tree.__init__") (st := sTreeInit) (ps := ["self", "parents", "prices"]) KX G (fun _ _ _ _ _ _ us hl => match us, hl with | [_, _, _], _ => rfl) ?h16a ?h16mk ?h16i ?h16n ?h16kc ?h16l ?h16c ?h16k fun m_Tree => ?_
    (case h16a => k_is)
    (case h16mk => k_is)
    (case h16i => k_is)
    (case h16n => k_is)
    (case h16kc => k_is)
    (case h16l => k_is)
    (case h16c => k_is)
    (case h16k => k_is)
    refine' mak_at (x := "Pebbles") (qual := "Pebbles.__init__") (st := sPebblesInit) (ps := ["self", "counts"]) KX G (fun _ _ _ _ _ _ us hl => match us, hl with | [_, _], _ => rfl) ?h17a ?h17mk ?h17i ?h17n ?h17kc ?h17l ?h17c ?h17k fun m_Pebbles => ?_
    (case h17a => k_is)
    (case h17mk => k_is)
    (case h17i => k_is)
    (case h17n => k_is)
    (case h17kc => k_is)
    (case h17l => k_is)
    (case h17c => k_is)
    (case h17k => k_is)
    refine' mak_at (x := "Flow") (qual := "Flow.__init__") (st := sFlowInit) (ps := ["self", "counts"]) KX G (fun _ _ _ _ _ _ us hl => match us, hl with | [_, _], _ => rfl) ?h18a ?h18mk ?h18i ?h18n ?h18kc ?h18l ?h18c ?h18k fun m_Flow => ?_
    (case h18a => k_is)
    (case h18mk => k_is)
    (case h18i => k_is)
    (case h18n => k_is)
    (case h18kc => k_is)
    (case h18l => k_is)
    (case h18c => k_is)
    (case h18k => k_is)
    refine' makd_at1 (x := "Web") (qual := "Web.__init__") (st := sWebInit) KX G ?h19a ?h19mk ?h19i ?h19nf ?h19kc ?h19l ?h19c ?h19k ?h19t fun m_Web => ?_
    (case h19a => k_is)
    (case h19mk => k_is)
    (case h19i => k_is)
    (case h19nf => k_is)
    (case h19kc => k_is)
    (case h19l => k_is)
    (case h19c => k_is)
    (case h19k => k_is)
    (case h19t => k_is)
    refine' def_at (x := "check_counts") (st := sCheckCounts) (ps := ["many"]) KX G (fun _ _ _ _ _ _ us hl => match us, hl with | [_], _ => rfl) ?h20a ?h20l ?h20c ?h20k fun d_check_counts => ?_
    (case h20a => k_is)
    (case h20l => k_is)
    (case h20c => k_is)
    (case h20k => k_is)
    refine' def_at (x := "check_entries") (st := sCheckEntries) (ps := ["counts"]) KX G (fun _ _ _ _ _ _ us hl => match us, hl with | [_], _ => rfl) ?h21a ?h21l ?h21c ?h21k fun d_check_entries => ?_
    (case h21a => k_is)
    (case h21l => k_is)
    (case h21c => k_is)
    (case h21k => k_is)
    refine' def_at (x := "check_flow") (st := sCheckFlow) (ps := ["web", "flow"]) KX G (fun _ _ _ _ _ _ us hl => match us, hl with | [_, _], _ => rfl) ?h22a ?h22l ?h22c ?h22k fun d_check_flow => ?_
    (case h22a => k_is)
    (case h22l => k_is)
    (case h22c => k_is)
    (case h22k => k_is)
    refine' def_at (x := "is_arrow") (st := sIsArrow) (ps := ["nodes", "tail", "head", "price"]) KX G (fun _ _ _ _ _ _ us hl => match us, hl with | [_, _, _, _], _ => rfl) ?h23a ?h23l ?h23c ?h23k fun d_is_arrow => ?_
    (case h23a => k_is)
    (case h23l => k_is)
    (case h23c => k_is)
    (case h23k => k_is)
    refine' def_at (x := "checked_prices") (st := sCheckedPrices) (ps := ["nodes", "arrows"]) KX G (fun _ _ _ _ _ _ us hl => match us, hl with | [_, _], _ => rfl) ?h24a ?h24l ?h24c ?h24k fun d_checked_prices => ?_
    (case h24a => k_is)
    (case h24l => k_is)
    (case h24c => k_is)
    (case h24k => k_is)
    refine' def_at (x := "check_pairs") (st := sCheckPairs) (ps := ["prices", "pairs"]) KX G (fun _ _ _ _ _ _ us hl => match us, hl with | [_, _], _ => rfl) ?h25a ?h25l ?h25c ?h25k fun d_check_pairs => ?_
    (case h25a => k_is)
    (case h25l => k_is)
    (case h25c => k_is)
    (case h25k => k_is)
    refine' def_at (x := "check_move") (st := sCheckMove) (ps := ["web", "k"]) KX G (fun _ _ _ _ _ _ us hl => match us, hl with | [_, _], _ => rfl) ?h26a ?h26l ?h26c ?h26k fun d_check_move => ?_
    (case h26a => k_is)
    (case h26l => k_is)
    (case h26c => k_is)
    (case h26k => k_is)
    refine' met_atX (x := "Web") (m := "taken") (qual := "Web.taken") (st := sWebTaken) (ps := ["self", "k"]) KX (fun _ _ _ _ _ _ us hl => match us, hl with | [_, _], _ => rfl) ?h27a ?h27hC ?h27i ?h27n ?h27l ?h27c ?h27k fun d_Web_taken => ?_
    (case h27a => k_is)
    (case h27hC => exact ⟨by k_is, by k_is, by k_is, by k_is⟩)
    (case h27i => k_is)
    (case h27n => k_is)
    (case h27l => k_is)
    (case h27c => k_is)
    (case h27k => k_is)
    refine' met_atX (x := "Web") (m := "head") (qual := "Web.head") (st := sWebHead) (ps := ["self", "k"]) KX (fun _ _ _ _ _ _ us hl => match us, hl with | [_, _], _ => rfl) ?h28a ?h28hC ?h28i ?h28n ?h28l ?h28c ?h28k fun d_Web_head => ?_
    (case h28a => k_is)
    (case h28hC => exact ⟨by k_is, by k_is, by k_is, by k_is⟩)
    (case h28i => k_is)
    (case h28n => k_is)
    (case h28l => k_is)
    (case h28c => k_is)
    (case h28k => k_is)
    refine' def_at (x := "check_width") (st := sCheckWidth) (ps := ["web", "placing"]) KX G (fun _ _ _ _ _ _ us hl => match us, hl with | [_, _], _ => rfl) ?h29a ?h29l ?h29c ?h29k fun d_check_width => ?_
    (case h29a => k_is)
    (case h29l => k_is)
    (case h29c => k_is)
    (case h29k => k_is)
    refine' def_at (x := "check_balance") (st := sCheckBalance) (ps := ["web", "placing", "flow"]) KX G (fun _ _ _ _ _ _ us hl => match us, hl with | [_, _, _], _ => rfl) ?h30a ?h30l ?h30c ?h30k fun d_check_balance => ?_
    (case h30a => k_is)
    (case h30l => k_is)
    (case h30c => k_is)
    (case h30k => k_is)
    refine' def_at (x := "pay_move") (st := sPayMove) (ps := ["web", "entries", "k", "count"]) KX G (fun _ _ _ _ _ _ us hl => match us, hl with | [_, _, _, _], _ => rfl) ?h31a ?h31l ?h31c ?h31k fun d_pay_move => ?_
    (case h31a => k_is)
    (case h31l => k_is)
    (case h31c => k_is)
    (case h31k => k_is)
    refine' def_at (x := "after") (st := sAfter) (ps := ["web", "placing", "flow"]) KX G (fun _ _ _ _ _ _ us hl => match us, hl with | [_, _, _], _ => rfl) ?h32a ?h32l ?h32c ?h32k fun d_after => ?_
    (case h32a => k_is)
    (case h32l => k_is)
    (case h32c => k_is)
    (case h32k => k_is)
    refine' def_at (x := "check_edges") (st := sCheckEdges) (ps := ["parents", "prices"]) KX G (fun _ _ _ _ _ _ us hl => match us, hl with | [_, _], _ => rfl) ?h33a ?h33l ?h33c ?h33k fun d_check_edges => ?_
    (case h33a => k_is)
    (case h33l => k_is)
    (case h33c => k_is)
    (case h33k => k_is)
    refine' met_atX (x := "Tree") (m := "children") (qual := "Tree.children") (st := sTreeChildren) (ps := ["self", "node"]) KX (fun _ _ _ _ _ _ us hl => match us, hl with | [_, _], _ => rfl) ?h34a ?h34hC ?h34i ?h34n ?h34l ?h34c ?h34k fun d_Tree_children => ?_
    (case h34a => k_is)
    (case h34hC => exact ⟨by k_is, by k_is, by k_is, by k_is⟩)
    (case h34i => k_is)
    (case h34n => k_is)
    (case h34l => k_is)
    (case h34c => k_is)
    (case h34k => k_is)
    refine' def_at (x := "check_tree_width") (st := sCheckTreeWidth) (ps := ["tree", "placing"]) KX G (fun _ _ _ _ _ _ us hl => match us, hl with | [_, _], _ => rfl) ?h35a ?h35l ?h35c ?h35k fun d_check_tree_width => ?_
    (case h35a => k_is)
    (case h35l => k_is)
    (case h35c => k_is)
    (case h35k => k_is)
    refine' def_at (x := "tree_ups") (st := sTreeUps) (ps := ["tree", "placing"]) KX G (fun _ _ _ _ _ _ us hl => match us, hl with | [_, _], _ => rfl) ?h36a ?h36l ?h36c ?h36k fun d_tree_ups => ?_
    (case h36a => k_is)
    (case h36l => k_is)
    (case h36c => k_is)
    (case h36k => k_is)
    refine' def_at (x := "tree_most") (st := sTreeMost) (ps := ["tree", "placing"]) KX G (fun _ _ _ _ _ _ us hl => match us, hl with | [_, _], _ => rfl) ?h37a ?h37l ?h37c ?h37k fun d_tree_most => ?_
    (case h37a => k_is)
    (case h37l => k_is)
    (case h37c => k_is)
    (case h37k => k_is)
    refine' defd_at (x := "tree_web") (st := sTreeWeb) (dvs := [.bl false]) KX G ?h38a ?h38l ?h38c ?h38k ?h38t ?h38hd ?h38hv fun d_tree_web => ?_
    (case h38a => k_is)
    (case h38l => k_is)
    (case h38c => k_is)
    (case h38k => k_is)
    (case h38t => k_is)
    (case h38hd => decide)
    (case h38hv => exact .cons rfl .nil)
    refine' defd_at (x := "ups_flow") (st := sUpsFlow) (dvs := [.bl false]) KX G ?h39a ?h39l ?h39c ?h39k ?h39t ?h39hd ?h39hv fun d_ups_flow => ?_
    (case h39a => k_is)
    (case h39l => k_is)
    (case h39c => k_is)
    (case h39k => k_is)
    (case h39t => k_is)
    (case h39hd => decide)
    (case h39hv => exact .cons rfl .nil)
    refine' def_at (x := "_law_pool") (st := sLPool) (ps := ["script"]) KX G (fun _ _ _ _ _ _ us hl => match us, hl with | [_], _ => rfl) ?h40a ?h40l ?h40c ?h40k fun d__law_pool => ?_
    (case h40a => k_is)
    (case h40l => k_is)
    (case h40c => k_is)
    (case h40k => k_is)
    refine' def_at (x := "_law_draw") (st := sLDraw) (ps := ["pool", "size"]) KX G (fun _ _ _ _ _ _ us hl => match us, hl with | [_, _], _ => rfl) ?h41a ?h41l ?h41c ?h41k fun d__law_draw => ?_
    (case h41a => k_is)
    (case h41l => k_is)
    (case h41c => k_is)
    (case h41k => k_is)
    refine' def_at (x := "_law_same") (st := sLSame) (ps := ["told", "due"]) KX G (fun _ _ _ _ _ _ us hl => match us, hl with | [_, _], _ => rfl) ?h42a ?h42l ?h42c ?h42k fun d__law_same => ?_
    (case h42a => k_is)
    (case h42l => k_is)
    (case h42c => k_is)
    (case h42k => k_is)
    refine' def_at (x := "_law_fault") (st := sLFault) (ps := ["e"]) KX G (fun _ _ _ _ _ _ us hl => match us, hl with | [_], _ => rfl) ?h43a ?h43l ?h43c ?h43k fun d__law_fault => ?_
    (case h43a => k_is)
    (case h43l => k_is)
    (case h43c => k_is)
    (case h43k => k_is)
    refine' def_at (x := "_law_raised") (st := sLRaised) (ps := ["deed", "tree", "one", "both"]) KX G (fun _ _ _ _ _ _ us hl => match us, hl with | [_, _, _, _], _ => rfl) ?h44a ?h44l ?h44c ?h44k fun d__law_raised => ?_
    (case h44a => k_is)
    (case h44l => k_is)
    (case h44c => k_is)
    (case h44k => k_is)
    refine' def_at (x := "_law_rows") (st := sLRows) (ps := ["pool"]) KX G (fun _ _ _ _ _ _ us hl => match us, hl with | [_], _ => rfl) ?h45a ?h45l ?h45c ?h45k fun d__law_rows => ?_
    (case h45a => k_is)
    (case h45l => k_is)
    (case h45c => k_is)
    (case h45k => k_is)
    refine' def_at (x := "_law_arrows") (st := sLArrows) (ps := ["parents", "prices", "both"]) KX G (fun _ _ _ _ _ _ us hl => match us, hl with | [_, _, _], _ => rfl) ?h46a ?h46l ?h46c ?h46k fun d__law_arrows => ?_
    (case h46a => k_is)
    (case h46l => k_is)
    (case h46c => k_is)
    (case h46k => k_is)
    refine' def_at (x := "_law_counts") (st := sLCounts) (ps := ["pool", "parents"]) KX G (fun _ _ _ _ _ _ us hl => match us, hl with | [_, _], _ => rfl) ?h47a ?h47l ?h47c ?h47k fun d__law_counts => ?_
    (case h47a => k_is)
    (case h47l => k_is)
    (case h47c => k_is)
    (case h47k => k_is)
    refine' def_at (x := "_law_ups") (st := sLUps) (ps := ["parents", "prices", "counts"]) KX G (fun _ _ _ _ _ _ us hl => match us, hl with | [_, _, _], _ => rfl) ?h48a ?h48l ?h48c ?h48k fun d__law_ups => ?_
    (case h48a => k_is)
    (case h48l => k_is)
    (case h48c => k_is)
    (case h48k => k_is)
    refine' def_at (x := "_law_most_up") (st := sLMostUp) (ps := ["parents", "counts", "ups"]) KX G (fun _ _ _ _ _ _ us hl => match us, hl with | [_, _, _], _ => rfl) ?h49a ?h49l ?h49c ?h49k fun d__law_most_up => ?_
    (case h49a => k_is)
    (case h49l => k_is)
    (case h49c => k_is)
    (case h49k => k_is)
    refine' def_at (x := "_law_flow_row") (st := sLFlowRow) (ps := ["arrows", "ups"]) KX G (fun _ _ _ _ _ _ us hl => match us, hl with | [_, _], _ => rfl) ?h50a ?h50l ?h50c ?h50k fun d__law_flow_row => ?_
    (case h50a => k_is)
    (case h50l => k_is)
    (case h50c => k_is)
    (case h50k => k_is)
    refine' def_at (x := "_law_ends") (st := sLEnds) (ps := ["arrows", "counts", "row"]) KX G (fun _ _ _ _ _ _ us hl => match us, hl with | [_, _, _], _ => rfl) ?h51a ?h51l ?h51c ?h51k fun d__law_ends => ?_
    (case h51a => k_is)
    (case h51l => k_is)
    (case h51c => k_is)
    (case h51k => k_is)
    refine' def_at (x := "_law_is_flow") (st := sLIsFlow) (ps := ["told", "row"]) KX G (fun _ _ _ _ _ _ us hl => match us, hl with | [_, _], _ => rfl) ?h52a ?h52l ?h52c ?h52k fun d__law_is_flow => ?_
    (case h52a => k_is)
    (case h52l => k_is)
    (case h52c => k_is)
    (case h52k => k_is)
    refine' def_at (x := "_law_web_right") (st := sLWebRight) (ps := ["tree", "parents", "prices", "both"]) KX G (fun _ _ _ _ _ _ us hl => match us, hl with | [_, _, _, _], _ => rfl) ?h53a ?h53l ?h53c ?h53k fun d__law_web_right => ?_
    (case h53a => k_is)
    (case h53l => k_is)
    (case h53c => k_is)
    (case h53k => k_is)
    refine' def_at (x := "_law_pushed") (st := sLPushed) (ps := ["tree", "parents", "prices", "counts"]) KX G (fun _ _ _ _ _ _ us hl => match us, hl with | [_, _, _, _], _ => rfl) ?h54a ?h54l ?h54c ?h54k fun d__law_pushed => ?_
    (case h54a => k_is)
    (case h54l => k_is)
    (case h54c => k_is)
    (case h54k => k_is)
    refine' def_at (x := "_law_any_row") (st := sLAnyRow) (ps := ["pool", "tree", "parents", "prices", "both"]) KX G (fun _ _ _ _ _ _ us hl => match us, hl with | [_, _, _, _, _], _ => rfl) ?h55a ?h55l ?h55c ?h55k fun d__law_any_row => ?_
    (case h55a => k_is)
    (case h55l => k_is)
    (case h55c => k_is)
    (case h55k => k_is)
    refine' def_at (x := "_law_widths") (st := sLWidths) (ps := ["tree", "counts"]) KX G (fun _ _ _ _ _ _ us hl => match us, hl with | [_, _], _ => rfl) ?h56a ?h56l ?h56c ?h56k fun d__law_widths => ?_
    (case h56a => k_is)
    (case h56l => k_is)
    (case h56c => k_is)
    (case h56k => k_is)
    refine' def_at (x := "law") (st := sLaw) (ps := ["script"]) KX G (fun _ _ _ _ _ _ us hl => match us, hl with | [_], _ => rfl) ?h57a ?h57l ?h57c ?h57k fun d_law => ?_
    (case h57a => k_is)
    (case h57l => k_is)
    (case h57c => k_is)
    (case h57k => k_is)
    refine' int_is (x := "MOST_PRICE") KX G ?cMOST_PRICE fun c_MOST_PRICE => ?_
    (case cMOST_PRICE => k_is)
    refine' int_is (x := "LEAST_PRICE") KX G ?cLEAST_PRICE fun c_LEAST_PRICE => ?_
    (case cLEAST_PRICE => k_is)
    refine' int_is (x := "MOST_TREE_NODES") KX G ?cMOST_TREE_NODES fun c_MOST_TREE_NODES => ?_
    (case cMOST_TREE_NODES => k_is)
    refine' int_is (x := "MOST_ARROWS") KX G ?cMOST_ARROWS fun c_MOST_ARROWS => ?_
    (case cMOST_ARROWS => k_is)
    refine' int_is (x := "MOST_PAIRS") KX G ?cMOST_PAIRS fun c_MOST_PAIRS => ?_
    (case cMOST_PAIRS => k_is)
    refine' int_is (x := "MOST_MOVES") KX G ?cMOST_MOVES fun c_MOST_MOVES => ?_
    (case cMOST_MOVES => k_is)
    refine' int_is (x := "MOST") KX G ?cMOST fun c_MOST => ?_
    (case cMOST => k_is)
    refine' int_is (x := "MOST_NODES") KX G ?cMOST_NODES fun c_MOST_NODES => ?_
    (case cMOST_NODES => k_is)
    refine' law_at (x := "law") (y := "script") (st := sLaw) KX G hmg (fun _ _ _ _ _ _ us hl => match us, hl with | [_], _ => rfl) ?la ?lb (fun base => ok_Law (Ad1 := _) (Ad2 := _) (Ad3 := _) (Ad4 := _) (Ad5 := _) (Ad6 := _) (Ad7 := _) (Ad9 := _) (Ad10 := _) (Ad11 := _) (Ad12 := _) (Ad13 := _) (Ad14 := _) (Ad20 := _) {
      b_len := PySem.W.mg_none_of KX G (by k_is)
      b_int := PySem.W.mg_none_of KX G (by k_is)
      b_tuple := PySem.W.mg_none_of KX G (by k_is)
      b_list := PySem.W.mg_none_of KX G (by k_is)
      b_range := PySem.W.mg_none_of KX G (by k_is)
      b_isinstance := PySem.W.mg_none_of KX G (by k_is)
      b_ValueError := PySem.W.mg_none_of KX G (by k_is)
      b_enumerate := PySem.W.mg_none_of KX G (by k_is)
      b_max := PySem.W.mg_none_of KX G (by k_is)
      b_min := PySem.W.mg_none_of KX G (by k_is)
      b_sum := PySem.W.mg_none_of KX G (by k_is)
      b_str := PySem.W.mg_none_of KX G (by k_is)
      b_sorted := PySem.W.mg_none_of KX G (by k_is)
      b_set := PySem.W.mg_none_of KX G (by k_is)
      b_bool := PySem.W.mg_none_of KX G (by k_is)
      c_MOST_PRICE := int_as (by decide +kernel) c_MOST_PRICE
      c_LEAST_PRICE := int_as (by decide +kernel) c_LEAST_PRICE
      c_MOST_TREE_NODES := int_as (by decide +kernel) c_MOST_TREE_NODES
      c_MOST_ARROWS := int_as (by decide +kernel) c_MOST_ARROWS
      c_MOST_PAIRS := int_as (by decide +kernel) c_MOST_PAIRS
      c_MOST_MOVES := int_as (by decide +kernel) c_MOST_MOVES
      c_MOST := int_as (by decide +kernel) c_MOST
      c_MOST_NODES := int_as (by decide +kernel) c_MOST_NODES
      rBadCount := rs2 o_BadCount g_BadCount i_BadCount t_BadCount (errB_ok (k := 0) s_BadCount (NdefX.nscope_by (by decide +kernel)) (by decide) (by decide) rfl rfl (by decide +kernel) (by k_is) (by k_is) (fun _ => rfl) (by decide) (by decide) (by decide) (by decide)) (bindX (fun _ _ _ _ _ _ _ us hl => match us, hl with | [_, _, _], _ => rfl) x_BadCount) (by decide)
      rNotPebbles := rs1 o_NotPebbles g_NotPebbles i_NotPebbles t_NotPebbles (err1_ok (k := 0) s_NotPebbles (NdefX.nscope_by (by decide +kernel)) rfl rfl (by decide +kernel) (by k_is) (fun _ => rfl) (by decide) (by decide)) (bindX (fun _ _ _ _ _ _ _ us hl => match us, hl with | [_, _], _ => rfl) x_NotPebbles) (by decide)
      rNoNode := rs1 o_NoNode g_NoNode i_NoNode t_NoNode (err1_ok (k := 0) s_NoNode (NdefX.nscope_by (by decide +kernel)) rfl rfl (by decide +kernel) (by k_is) (fun _ => rfl) (by decide) (by decide)) (bindX (fun _ _ _ _ _ _ _ us hl => match us, hl with | [_, _], _ => rfl) x_NoNode) (by decide)
      rWrongWidth := rs2 o_WrongWidth g_WrongWidth i_WrongWidth t_WrongWidth (err2_ok (k := 0) s_WrongWidth (NdefX.nscope_by (by decide +kernel)) rfl rfl (by decide +kernel) (by k_is) (by k_is) (fun _ => rfl) (by decide) (by decide) (by decide) (by decide)) (bindX (fun _ _ _ _ _ _ _ us hl => match us, hl with | [_, _, _], _ => rfl) x_WrongWidth) (by decide)
      rBadParent := rs1 o_BadParent g_BadParent i_BadParent t_BadParent (err1_ok (k := 0) s_BadParent (NdefX.nscope_by (by decide +kernel)) rfl rfl (by decide +kernel) (by k_is) (fun _ => rfl) (by decide) (by decide)) (bindX (fun _ _ _ _ _ _ _ us hl => match us, hl with | [_, _], _ => rfl) x_BadParent) (by decide)
      rBadPrice := rs1 o_BadPrice g_BadPrice i_BadPrice t_BadPrice (err1_ok (k := 0) s_BadPrice (NdefX.nscope_by (by decide +kernel)) rfl rfl (by decide +kernel) (by k_is) (fun _ => rfl) (by decide) (by decide)) (bindX (fun _ _ _ _ _ _ _ us hl => match us, hl with | [_, _], _ => rfl) x_BadPrice) (by decide)
      m_Tree := m_Tree
      lTree := ⟨by k_is, by k_is, by k_is, by k_is⟩
      nTree_nodes := by unfold L2.NoAttr; k_is
      nTree_parents := by unfold L2.NoAttr; k_is
      nTree_prices := by unfold L2.NoAttr; k_is
      m_Pebbles := m_Pebbles
      lPebbles := ⟨by k_is, by k_is, by k_is, by k_is⟩
      nPebbles_counts := by unfold L2.NoAttr; k_is
      nPebbles_nodes := by unfold L2.NoAttr; k_is
      nPebbles_size := by unfold L2.NoAttr; k_is
      m_Flow := m_Flow
      lFlow := ⟨by k_is, by k_is, by k_is, by k_is⟩
      nFlow_counts := by unfold L2.NoAttr; k_is
      nFlow_total := by unfold L2.NoAttr; k_is
      m_Web := m_Web
      lWeb := ⟨by k_is, by k_is, by k_is, by k_is⟩
      nWeb_nodes := by unfold L2.NoAttr; k_is
      nWeb_arrows := by unfold L2.NoAttr; k_is
      nWeb_pairs := by unfold L2.NoAttr; k_is
      nWeb_move_count := by unfold L2.NoAttr; k_is
      nWeb__bundles := by unfold L2.NoAttr; k_is
      nWeb__heads := by unfold L2.NoAttr; k_is
      nWeb__numbers := by unfold L2.NoAttr; k_is
      d_check_counts := d_check_counts
      d_check_entries := d_check_entries
      d_check_flow := d_check_flow
      d_is_arrow := d_is_arrow
      d_checked_prices := d_checked_prices
      d_check_pairs := d_check_pairs
      d_check_move := d_check_move
      d_Web_taken := d_Web_taken
      d_Web_head := d_Web_head
      d_check_width := d_check_width
      d_check_balance := d_check_balance
      d_pay_move := d_pay_move
      d_after := d_after
      d_check_edges := d_check_edges
      d_Tree_children := d_Tree_children
      d_check_tree_width := d_check_tree_width
      d_tree_ups := d_tree_ups
      d_tree_most := d_tree_most
      d_tree_web := d_tree_web
      d_ups_flow := d_ups_flow
      d__law_pool := d__law_pool
      d__law_draw := d__law_draw
      d__law_same := d__law_same
      d__law_fault := d__law_fault
      d__law_raised := d__law_raised
      d__law_rows := d__law_rows
      d__law_arrows := d__law_arrows
      d__law_counts := d__law_counts
      d__law_ups := d__law_ups
      d__law_most_up := d__law_most_up
      d__law_flow_row := d__law_flow_row
      d__law_ends := d__law_ends
      d__law_is_flow := d__law_is_flow
      d__law_web_right := d__law_web_right
      d__law_pushed := d__law_pushed
      d__law_any_row := d__law_any_row
      d__law_widths := d__law_widths
      d_law := d_law
      gPebbleError := g_PebbleError
      gBadCount := g_BadCount
      gNotPebbles := g_NotPebbles
      gNoNode := g_NoNode
      gUnlikeWidths := g_UnlikeWidths
      gWrongWidth := g_WrongWidth
      gNotPayable := g_NotPayable
      gBadParent := g_BadParent
      gBadPrice := g_BadPrice
      gTree := PySem.W.mg_of KX G (by k_is)
      gPebbles := PySem.W.mg_of KX G (by k_is)
      gFlow := PySem.W.mg_of KX G (by k_is)
      gWeb := PySem.W.mg_of KX G (by k_is)
      ek := ⟨by k_is, by k_is⟩
      eNotPebbles := e_NotPebbles
      fNotPebbles_at := by k_is
      xNotPebbles_PebbleError := xm_at e_PebbleError o_PebbleError (by k_is)
      tNotPebbles_NotPebbles := kit_self
      tNotPebbles_WrongWidth := kit_ref e_WrongWidth o_WrongWidth (by decide) (by k_is)
      tNotPebbles_BadCount := kit_ref e_BadCount o_BadCount (by decide) (by k_is)
      tNotPebbles_NoNode := kit_ref e_NoNode o_NoNode (by decide) (by k_is)
      tNotPebbles_NotPayable := kit_ref e_NotPayable o_NotPayable (by decide) (by k_is)
      tNotPebbles_UnlikeWidths := kit_ref e_UnlikeWidths o_UnlikeWidths (by decide) (by k_is)
      tNotPebbles_ValueError := kit_VE (by k_is)
      eWrongWidth := e_WrongWidth
      fWrongWidth_have := by k_is
      fWrongWidth_need := by k_is
      xWrongWidth_PebbleError := xm_at e_PebbleError o_PebbleError (by k_is)
      tWrongWidth_NotPebbles := kit_ref e_NotPebbles o_NotPebbles (by decide) (by k_is)
      tWrongWidth_WrongWidth := kit_self
      tWrongWidth_BadCount := kit_ref e_BadCount o_BadCount (by decide) (by k_is)
      tWrongWidth_NoNode := kit_ref e_NoNode o_NoNode (by decide) (by k_is)
      tWrongWidth_NotPayable := kit_ref e_NotPayable o_NotPayable (by decide) (by k_is)
      tWrongWidth_UnlikeWidths := kit_ref e_UnlikeWidths o_UnlikeWidths (by decide) (by k_is)
      tWrongWidth_ValueError := kit_VE (by k_is)
      iTree := ⟨by k_is, by k_is, by k_is, by k_is⟩
      iPebbles := ⟨by k_is, by k_is, by k_is, by k_is⟩
      iFlow := ⟨by k_is, by k_is, by k_is, by k_is⟩
      iWeb := ⟨by k_is, by k_is, by k_is, by k_is⟩
      oE := empty_at (by k_is) })
    (case lb => k_is); (case la => k_is)
#print axioms PySem.Challenge.cw_pebblesreach_k12_tree_greedy_holds
