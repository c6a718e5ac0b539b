import PyProof.Rows.All
import Wide.All
import OpenK.AllK
import Wide.FinOn
import HandS.ForMost
import HandS.Flow
import HandS.Wide
import HandS.WideBits
import HandS.Deep
import HandS.IsInst
import HandS.TupAny
import HandS.Conv
import HandS.Evl
import KE.DataCmp
import KE.SortData
import KE.SortKeyHeap
import HandS.ForExc
import HandS.ExcInit
import HandS.ExcIs
import HandS.ExcValue
import HandS.FStr
import KE.KExcIs
import KE.KExcSuper
import KE.KSuperObj
import KE.KExcLine

import PySem.Challenge.RW_drawntrue_k00_fractions_and_errors

set_option maxHeartbeats 8000000
set_option pp.maxSteps 600

set_option Elab.async false
set_option linter.all false
set_option maxRecDepth 100000

/-! EX: an exception of an own class over ValueError (own classes between), whose __init__ says super().__init__(e) and then stores fields; made as a value. -/
namespace EX
open PySem PySem.W PySem.Calls PyProof.Rows PySem.HandSPX
section
variable {prog : Program} {w : World} {A : Around} {E : Value → Shared → Prop} {h : Heap} {g : Array GenState} {d : Drawn} {t : Nat} {os : OsState}
theorem bw_call {nm q : Str} {C N : Addr} {bs bm : List Value} {hdct : Bool} {sn : List Str} {sub : List Value} {ab : Bool} {col : Option Bool} {dd : Option Addr} {k0 k1 k2 k3 k5 : Option Value} {u e t0 : Addr} {rest : List Value} {Q : Value → Shared → Prop}
    (hC : h.get? C = some (excClassObj nm q C N bs bm hdct sn sub ab col dd k0 k1 k2 k3 k5 "ValueError.__new__")) (he : h.get? e = some (excO C t0)) (hu : h.get? u = some (kxs_mw "ValueError.__init__" e)) (hz : rest.length ≤ sizeLine)
    (hq : ∀ h' t1, (∀ b o, b ≠ e → h.get? b = some o → h'.get? b = some o) → h'.get? e = some (excO C t1) → Q .none ⟨h', g, d, t, os⟩) : wpAny (model prog w) A (call (.ref u) rest) Q E ⟨h, g, d, t, os⟩ := by
  have FB := F.excBase_ValueError
  refine wpAny_call (codeAny_of_tree (show wpAny _ A.in1 (callAny (.ref u) ⟨rest, []⟩) _ _ _ from ?_)); simp only [callAny]; refine wpAny_bind (wpAny_load hu ?_)
  have ew : (Value.type "method-wrapper" == Value.type "method" || Value.type "method-wrapper" == Value.type "builtin_function_or_method" || Value.type "method-wrapper" == Value.type "method-wrapper") = true := by decide
  simp only [kxs_mw, ew, if_true]
  refine KFB.if_so (by decide) (wpAny_bind (check_bound_init FB.toExcCallFacts hC he rfl (wpAny_bind (wpAny_pure (wpAny_pure ⟨plainId_quiet FB.init.plain _, codeAny_builtin FB.initEntry ?_⟩)))))
  exact exc_init_tree (cls := .ref C) (t0 := t0) (dv := none) (c2 := .none) (c3 := .none) (b4 := .bool false) he hz fun h' k e' t' => hq h' _ k e'
end
/-- what the written part says of the class at C and its __init__ at fI, a def fd with the class's cell cc -/
structure Sup (K : Frag) (prog : Program) (C fI cc cda : Addr) (fd : FuncData) : Prop where
  cls : ∃ nm q N bs bm sn sub ab col dd k0 k1 k2 k3 k5, K.lookup C = some (excClassObj nm q C N bs bm true sn sub ab col dd k0 k1 k2 k3 k5 "ValueError.__new__") ∧ refsVE bm = true
  sa : findIn K (.ref C) "__setattr__" = some (some (.builtin "object.__setattr__"))
  iC : findIn K (.ref C) "__init__" = some (some (.ref fI))
  tI : typeIn K (.ref fI) = some (.type "function")
  lI : ∃ oc od osl, K.lookup fI = some ⟨oc, od, .func fd, osl⟩
  cI : codeIn K (.ref cda) fd.qualname = true
  code : ∃ ccl cdd vs ccs file tf, K.lookup cda = some ⟨ccl, cdd, .fields vs, ccs⟩ ∧ vs[2]? = some (.str file tf) ∧ ((prog.main.file : Str) == file) = true
  cell : ∃ cl cld csl, K.lookup cc = some ⟨cl, cld, .cell (some (.ref C)), csl⟩
  sup : ks_superIn K C C "__init__" = some (some (.builtin "ValueError.__init__"))
  sub : mroIn K C (.ref C) = some true
  subV : subIn K (.ref C) (.type "ValueError") = some true
  opq : nsIn K cStatics "thirdparty.any" = some none
  top : (prog.main.scope.names.lookup ("super" : Str)).isSome = false
section
variable {prog : Program} {w : World} {K : Frag} {mg : Str → Option Value} {C fI cc cda x t0 : Addr} {fd : FuncData} {A : Around} {E : Value → Shared → Prop} {h : Heap} {g : Array GenState} {d : Drawn} {tk : Nat} {os : OsState}
/-- super().__init__(arg) in that __init__, and what follows it -/
theorem sup_start (T : Sup K prog C fI cc cda fd) (X : K.In h) (hg : h.Ns mainGlobals mg) (hms : mg "super" = none) {mb : Str → Option Value} (hb : h.Ns builtinsNs mb) (hbs : mb "super" = some (.type "super"))
    {L : Addr} {m : Str → Option Value} (hns : h.Ns L m) (hself : m "self" = some (.ref x)) (hx : h.get? x = some (excO C t0)) (hxC : x ≠ C)
    (hsc : fd.scope.kind = .function) (h1 : fd.scope.names.lookup ("super" : Str) = some .globalImplicit) (h2 : fd.scope.names.lookup ("__class__" : Str) = some .free) (h3 : fd.scope.names.lookup ("self" : Str) = some .local)
    (hcl : fd.closure = [(("__class__" : Str), cc)]) (hgl : fd.globals = mainGlobals) (hbl : fd.builtins = builtinsNs) (hco : fd.code = .ref cda) {ar : Arg} (hp : (fd.params.posonlyargs ++ fd.params.args).head? = some ar) (har : ar.arg = "self")
    {body rest : List Stmt} {arg : Expr} {p0 p1 p2 p3 p4 : Pos} {Q : Flow → Shared → Prop}
    (harg : ∀ (h' : Heap) (t' : Nat) (R : Value → Shared → Prop) (A' : Around) (E' : Value → Shared → Prop), h'.Ns L m → (∀ t2 u, R u ⟨h', g, d, t2, os⟩) → wpAny (model prog w) A' (eval arg (callEnv fd L fI)) R E' ⟨h', g, d, t', os⟩)
    (hstar : starEach [arg] (callEnv fd L fI) = (false, eval arg (callEnv fd L fI)) :: starEach [] (callEnv fd L fI))
    (hrest : ∀ h' t' t1, (∀ b o, b ≠ x → h.get? b = some o → h'.get? b = some o) → h'.get? x = some (excO C t1) → PySem.wpAt (model prog w) A (.func body (callEnv fd L fI)) (execs rest (callEnv fd L fI)) Q E ⟨h', g, d, t', os⟩)
    (hev : eval (.Call (.Attribute (.Call (.Name "super" p0) [] [] p1) "__init__" p2) [arg] [] p3) (callEnv fd L fI) = (do
      let ov ← attributeBase (.Call (.Name "super" p0) [] [] p1) "__init__" (callEnv fd L fI) (eval (.Call (.Name "super" p0) [] [] p1) (callEnv fd L fI))
      standAt p2.atName
      let (f, first) ← holding [ov] (getMethod ov "__init__" (pure false))
      callWith p3 f first (backTo p3 (starEach [arg] (callEnv fd L fI))) []))
    (hi : interactive (callEnv fd L fI) = false) (hs : swapsWith (.Call (.Attribute (.Call (.Name "super" p0) [] [] p1) "__init__" p2) [arg] [] p3) none p4.line (callEnv fd L fI) = pure false) :
    PySem.wpAt (model prog w) A (.func body (callEnv fd L fI)) (execs (.Expr (.Call (.Attribute (.Call (.Name "super" p0) [] [] p1) "__init__" p2) [arg] [] p3) p4 :: rest) (callEnv fd L fI)) Q E ⟨h, g, d, tk, os⟩ := by
  obtain ⟨nm, q, N, bs, bm, sn, sub, ab, col, dd, k0, k1, k2, k3, k5, hC, hbm⟩ := T.cls
  obtain ⟨oc, od, osl, hf⟩ := T.lI
  obtain ⟨ccl, cdd, vs, ccs, file, tf, hcode, hvs, hfile⟩ := T.code
  obtain ⟨cl, cld, csl, hcell⟩ := T.cell
  have hcls : clsIn K C = some { name := nm, bases := bs, mro := .ref C :: bm, ns := N, qualname := q, hasDict := true, slotNames := sn, subclasses := sub, abstract := ab, collection := col, hasDel := false } := by unfold clsIn; rw [hC] <;> rfl
  refine ks_wpAt_execs_cons (ks_wpAt_Expr_any (ks_wpAt_MethodCall (pl := pure false) ?_ hev) hi hs)
  refine ks_wpAt_super_base (env := callEnv fd L fI) (ar := ar) h1 h2 (by decide) rfl (X _ _ hf) rfl hp hco (X _ _ hcode) rfl hvs hfile T.top ?_
  refine ks_loadName_global hsc h1 (loadGlobal_builtin (env := callEnv fd L fI) (by show h.Ns fd.globals mg; rw [hgl]; exact hg) hms (by show h.Ns fd.builtins mb; rw [hbl]; exact hb) hbs ⟨rfl, ?_⟩)
  refine wpAny_loadName_free (c := cc) hsc h2 (by show fd.closure.lookup _ = _; rw [hcl]; rfl) ⟨_, X _ _ hcell, rfl⟩ ?_
  rw [har]
  refine wpAny_loadName_local hsc h3 hns hself ?_
  refine ks_wpAny_isType_cls (X _ _ hC) rfl ⟨rfl, ?_⟩
  refine ks_wpAny_call_super (X _ _ hC) rfl hx rfl (fun c z => nomatch z) (looks_mroIn X T.sub) fun ha ea ka => ?_
  have Xa : K.In ha := X.keeps ka
  have hI : Looks (model prog w) ha (isInstance (.ref x) (.type "ValueError")) true := (InstAt.type (M := model prog w) (⟨ka _ _ hx, rfl, rfl, trivial⟩ : InstAt ha x (excO C t0) C none)).andThen (looks_subIn Xa T.subV)
  have hsup := T.sup
  unfold ks_superIn at hsup
  rw [hcls] at hsup
  refine kxs_getMethod kxs_ValueError ea (looks_opaque Xa T.opq) (l₀ := .ref C :: bm) (fun A Q E s k q => wpAny_bind ((looks_clsIn Xa hcls) A _ E s k (wpAny_pure q))) rfl Xa hsup hI hxC (by decide) ?_
  have kb : ∀ b o, h.get? b = some o → (ha.push (kxs_mw "ValueError.__init__" x)).get? b = some o := fun b o e => Heap.get?_push_of_some _ (ka b o e)
  refine kxs_callWith (i := "ValueError.__init__") (x := x) (by rw [hstar]; rfl) ?_
  rw [hstar]
  refine evalArgs_plain (Calls.spliced_cons (harg _ _ _ _ _ (hns.keeps kb) fun t2 u => Calls.spliced_nil ⟨Heap.get?_push_at rfl rfl, ?_⟩))
  refine bw_call (kb _ _ (X _ _ hC)) (kb _ _ hx) (Heap.get?_push_at rfl rfl) (by show 1 ≤ sizeLine; rw [sizeLine_eq]; omega) fun h' t1 k hx' => ?_
  exact hrest h' _ t1 (fun b o hb e => k b o hb (kb b o e)) hx'
/-- self.f = y, the first field -/
theorem sup_first (T : Sup K prog C fI cc cda fd) (X : K.In h) {L : Addr} {m : Str → Option Value} (hns : h.Ns L m) (hself : m "self" = some (.ref x)) {t1 : Addr} (hx : h.get? x = some (excO C t1)) {f y : Str} {v : Value} (hy : m y = some v)
    (hsc : fd.scope.kind = .function) (h3 : (callEnv fd L fI).kindOf ("self" : Str) = some .local) (h4 : (callEnv fd L fI).kindOf y = some .local) (hd : (y == ("__debug__" : Str)) = false) (hno : findIn K (.ref C) f = some none)
    {body rest : List Stmt} {q1 q2 q3 q4 : Pos} {Q : Flow → Shared → Prop} (hs : swapsWith (.Name y q3) (some (.Attribute (.Name "self" q1) f q2)) q4.line (callEnv fd L fI) = pure false)
    (hrest : ∀ h' t' dx, (∀ b o, b ≠ x → h.get? b = some o → h'.get? b = some o) → h.objs.size ≤ dx → dx ≠ x → h'.get? x = some { cls := .ref C, dict := some dx, data := .fields #[.ref t1, .none, .none, .none, .bool false, .none] } → h'.Ns1 dx (fun z => if z = f then some v else none) →
      PySem.wpAt (model prog w) A (.func body (callEnv fd L fI)) (execs rest (callEnv fd L fI)) Q E ⟨h', g, d, t', os⟩) :
    PySem.wpAt (model prog w) A (.func body (callEnv fd L fI)) (execs (.Assign [.Attribute (.Name "self" q1) f q2] (.Name y q3) q4 :: rest) (callEnv fd L fI)) Q E ⟨h, g, d, tk, os⟩ := by
  obtain ⟨nm, q, N, bs, bm, sn, sub, ab, col, dd, k0, k1, k2, k3, k5, hC, hbm⟩ := T.cls
  have hcls : clsIn K C = some { name := nm, bases := bs, mro := .ref C :: bm, ns := N, qualname := q, hasDict := true, slotNames := sn, subclasses := sub, abstract := ab, collection := col, hasDel := false } := by unfold clsIn; rw [hC] <;> rfl
  refine ks_wpAt_execs_cons (ks_wpAt_Assign_Attr ?_ hs)
  refine wpAt_of_wpAny (ldc (s := ⟨h, g, d, tk, os⟩) hsc h4 hns hy ?_ hd)
  refine ldc (s := ⟨h, g, d, tk, os⟩) hsc h3 hns hself ?_ (by decide)
  refine set_plain X (ox := excO C t1) (od := none) ⟨hx, rfl, rfl, trivial⟩ T.sa ?_
  exact exc_osa X hx hcls (show refsVE (.ref C :: bm) = true from hbm) rfl hno fun h' tk' dx k dn dne hx' hn' => hrest h' tk' dx k dn dne hx' hn'
/-- self.f = y, a further one -/
theorem sup_next (T : Sup K prog C fI cc cda fd) (X : K.In h) {L : Addr} {m : Str → Option Value} (hns : h.Ns L m) (hself : m "self" = some (.ref x)) {t1 dx : Addr} (hx : h.get? x = some { cls := .ref C, dict := some dx, data := .fields #[.ref t1, .none, .none, .none, .bool false, .none] }) {m0 : Str → Option Value} (hd0 : h.Ns1 dx m0) {nl : List Str} (hw : Within m0 nl) (hz : nl.length ≤ 1000)
    {f y : Str} {v : Value} (hy : m y = some v)
    (hsc : fd.scope.kind = .function) (h3 : (callEnv fd L fI).kindOf ("self" : Str) = some .local) (h4 : (callEnv fd L fI).kindOf y = some .local) (hd : (y == ("__debug__" : Str)) = false) (hno : findIn K (.ref C) f = some none)
    {body rest : List Stmt} {q1 q2 q3 q4 : Pos} {Q : Flow → Shared → Prop} (hs : swapsWith (.Name y q3) (some (.Attribute (.Name "self" q1) f q2)) q4.line (callEnv fd L fI) = pure false)
    (hrest : ∀ h' t', (∀ b o, b ≠ dx → h.get? b = some o → h'.get? b = some o) → h'.Ns1 dx (fun z => if z = f then some v else m0 z) →
      PySem.wpAt (model prog w) A (.func body (callEnv fd L fI)) (execs rest (callEnv fd L fI)) Q E ⟨h', g, d, t', os⟩) :
    PySem.wpAt (model prog w) A (.func body (callEnv fd L fI)) (execs (.Assign [.Attribute (.Name "self" q1) f q2] (.Name y q3) q4 :: rest) (callEnv fd L fI)) Q E ⟨h, g, d, tk, os⟩ := by
  obtain ⟨nm, q, N, bs, bm, sn, sub, ab, col, dd, k0, k1, k2, k3, k5, hC, hbm⟩ := T.cls
  have hcls : clsIn K C = some { name := nm, bases := bs, mro := .ref C :: bm, ns := N, qualname := q, hasDict := true, slotNames := sn, subclasses := sub, abstract := ab, collection := col, hasDel := false } := by unfold clsIn; rw [hC] <;> rfl
  obtain ⟨oD, _, _, hoD, _, _⟩ := hd0.count hw
  refine ks_wpAt_execs_cons (ks_wpAt_Assign_Attr ?_ hs)
  refine wpAt_of_wpAny (ldc (s := ⟨h, g, d, tk, os⟩) hsc h4 hns hy ?_ hd)
  refine ldc (s := ⟨h, g, d, tk, os⟩) hsc h3 hns hself ?_ (by decide)
  refine set_plain X (ox := { cls := .ref C, dict := some dx, data := .fields #[.ref t1, .none, .none, .none, .bool false, .none] }) (od := some oD) ⟨hx, rfl, rfl, hoD⟩ T.sa ?_
  exact PySem.OEX.osa_old X hx hd0 hw hz hcls (show refsVE (.ref C :: bm) = true from hbm) rfl hno fun h' tk' k hn' => hrest h' tk' k hn'
/-- a made exception of the class at C -/
structure Made (h h' : Heap) (e C dx : Addr) (mf : Str → Option Value) : Prop where
  keep : ∀ b o, h.get? b = some o → h'.get? b = some o
  new : h.objs.size ≤ e
  obj : ∃ t1 : Addr, h'.get? e = some { cls := .ref C, dict := some dx, data := .fields #[.ref t1, .none, .none, .none, .bool false, .none] }
  dbig : h.objs.size ≤ dx
  dne : dx ≠ e
  ns : h'.Ns1 dx mf
/-- the static part of such a def -/
structure SupDef (fd : FuncData) (cc cda : Addr) (ps : List Str) (body : List Stmt) : Prop where
  sc : fd.scope.kind = .function
  co : fd.scope.isCoroutine = false
  gen : fd.scope.isGenerator = false
  h1 : fd.scope.names.lookup ("super" : Str) = some .globalImplicit
  h2 : fd.scope.names.lookup ("__class__" : Str) = some .free
  loc : ∀ y ∈ ("self" : Str) :: ps, fd.scope.names.lookup y = some .local
  noc : ∀ z ∈ fd.scope.names, z.2 ≠ .cell
  cl : fd.closure = [(("__class__" : Str), cc)]
  gl : fd.globals = mainGlobals
  bl : fd.builtins = builtinsNs
  code : fd.code = .ref cda
  body : fd.body = .stmts body
/-- the class's call, up to the body of __init__ -/
theorem sup_call (T : Sup K prog C fI cc cda fd) {s : Shared} (X : K.In s.heap) (hlim : s.heap.NoLimit) (hroom : A.depth + 1 < recursionLimit) {ps : List Str} {body : List Stmt} (S : SupDef fd cc cda ps body) {us : List Value} (hus : us.length ≤ 1000)
    (hbind : ∀ (s : Shared) (a : Value), BindsTo s fd ⟨a :: us, []⟩ (("self", a) :: ps.zip us)) {R : Result → Shared → Prop}
    (hb : ∀ (h₁ : Heap) (t' : Nat) (x L t0 : Addr) (A' : Around) (E' : Value → Shared → Prop) , h₁.Ns L (fun y => ((("self" : Str), Value.ref x) :: ps.zip us).reverse.lookup y) → (∀ b o, s.heap.get? b = some o → h₁.get? b = some o) → s.heap.objs.size ≤ x → x < L → L < h₁.objs.size → h₁.get? x = some (excO C t0) → K.lookup x = none →
      PySem.wpAt (model prog w) A' (.func body (callEnv fd L fI)) (execs body (callEnv fd L fI)) (fun fl s' => (match fl with | .ret v => v | _ => .none) = Value.none ∧ R (.ok (.ret (.ref x))) s') E' ⟨h₁, s.gens, s.drawn, t', s.os⟩) :
    codeAny (model prog w) A (.call (.ref C) ⟨us, []⟩) R s := by
  obtain ⟨nm, q, N, bs, bm, sn, sub, ab, col, dd, k0, k1, k2, k3, k5, hC, hbm⟩ := T.cls
  obtain ⟨oc, od, osl, hf⟩ := T.lI
  obtain ⟨hp, g, dr, tk, os⟩ := s
  have k : ∀ b o, hp.get? b = some o → ((hp.push (kdv_tup us)).push (excO C hp.objs.size)).get? b = some o := fun b o e => Heap.get?_push_of_some _ (Heap.get?_push_of_some _ e)
  have hget : ((hp.push (kdv_tup us)).push (excO C hp.objs.size)).get? (hp.objs.size + 1) = some (excO C hp.objs.size) := by heap_get
  have hnx : K.lookup (hp.objs.size + 1) = none := by
    cases e : K.lookup (hp.objs.size + 1) with
    | none => rfl
    | some o => exact absurd (Nat.lt_of_succ_lt (Heap.lt_size (show hp.get? (hp.objs.size + 1) = some o from X _ _ e))) (Nat.lt_irrefl _)
  have hzz : us.length ≤ sizeLine := by rw [sizeLine_eq]; omega
  refine call_own F.excBase_ValueError (fun Y => refsVE_contains Y bm hbm) (X _ _ hC) (looks_findIn X T.iC) (fun self => bind_fn X self T.tI) hzz ?_
  refine ks_codeAny_call_defAt (fd := fd) (body := body) (binds := ("self", .ref (hp.objs.size + 1)) :: ps.zip us) (by show A.depth + 1 < recursionLimit; exact hroom) (k _ _ (X _ _ hf)) rfl (hlim.keeps k) (by rw [S.code]; exact codeRec_of (X.keeps k) T.cI) S.body (hbind _ _) S.noc (fun z hz => ?_) (fun h₀ hn0 k0 => ?_) S.co S.gen S.sc
  · rcases List.mem_cons.mp hz with rfl | hz
    · exact S.loc _ List.mem_cons_self
    · exact S.loc _ (List.mem_cons_of_mem _ (List.of_mem_zip hz).1)
  · have hsz : ((hp.push (kdv_tup us)).push (excO C hp.objs.size)).objs.size = hp.objs.size + 2 := by rw [Heap.size_push, Heap.size_push]
    have hlt : hp.objs.size + 1 < ((hp.push (kdv_tup us)).push (excO C hp.objs.size)).objs.size := by rw [hsz]; exact Nat.lt_succ_self _
    refine ks_wpAt_mono (hb h₀ _ (hp.objs.size + 1) ((hp.push (kdv_tup us)).push (excO C hp.objs.size)).objs.size hp.objs.size _ (fun _ _ => False) hn0 (fun b o e => k0 b o (k b o e)) (Nat.le_succ _) hlt hn0.lt (k0 _ _ hget) hnx) (fun fl s' hq => ?_) fun _ _ z => z.elim
    exact hq
end
end EX
namespace EXH
open PySem PySem.Spec PyProof.Rows L2
/-- how a class is called: us in, an exception with the fields mf us out -/
def MkRaw (P : Program) (w : World) (K : PySem.W.Frag) (mg : Str → Option Value) (C : Addr) (ok : List Value → Prop) (mf : List Value → Str → Option Value) : Prop :=
  ∀ (A : Around) (s : Shared) (us : List Value) (R : Result → Shared → Prop), K.In s.heap → s.heap.NoLimit → s.heap.Ns mainGlobals mg → (∃ mb, s.heap.Ns builtinsNs mb ∧ mb "super" = some (.type "super")) → A.depth + 1 < recursionLimit → ok us →
    (∀ h' tk e dx, EX.Made s.heap h' e C dx (mf us) → R (.ok (.ret (.ref e))) { s with heap := h', toks := tk }) → codeAny (model P w) A (.call (.ref C) ⟨us, []⟩) R s
/-- what the written part says of such a class, for isinstance and for its fields -/
structure ExK (K : PySem.W.Frag) (C : Addr) : Prop where
  cl : PySem.W.isClsIn K C = true
  hd : PySem.W.hasDictIn K C = true
  ga : PySem.W.findIn K (.ref C) "__getattribute__" = some (some (.builtin "BaseException.__getattribute__"))
  gt : PySem.W.findIn K (.ref C) "__getattr__" = some none
  sB : PySem.W.subIn K (.ref C) (.type "BaseException") = some true
  ca : PySem.W.findIn K (.ref C) "__class__" = some (some (.builtin "object.__class__"))
  cn : PySem.W.specialIn K (.builtin "object.__class__") "__get__" = some (some (.builtin "getset_descriptor.__get__"))
  ct : PySem.W.takesIn K (.builtin "object.__class__") = some true
  mo : PySem.W.mroIn K C (.type "object") = some true
/-- at a stands a made exception of the class at C with the fields fs -/
def ExAt (H : Hp) (a C : Addr) (fs : List (Str × V)) : Prop := (fs = [] ∧ H a = some (exo a C none)) ∨ ∃ dx, H a = some (exo a C (some dx)) ∧ H dx = some (exd dx fs)
section
variable {X : Cx}
/-- C(e, ..), as a value -/
def tSup (C : Addr) (ok : List V → Prop) (fs : List V → List (Str × V)) (ta : TA) : TE := fun σ H Q => ta σ H fun vs H1 => ok vs ∧ ∀ a dx, H1 a = none → H1 dx = none → dx ≠ a → Q (.ref a) (upd (upd H1 dx (exd dx (fs vs))) a (exo a C (some dx)))
theorem pe_sup {C : Addr} {okR : List Value → Prop} {mf : List Value → Str → Option Value} {ok : List V → Prop} {fs : List V → List (Str × V)} {x : Str} {e : Expr} {es : List Expr} {ta : TA} {p pos : Pos} {k : Nat} (T : MkRaw X.prog X.w X.K X.mg C okR mf)
    (hrel : ∀ vs us, Vals vs us → ok vs → okR us ∧ ∀ f, RelO ((fs vs).lookup f) (mf us f)) (gC : X.mg x = some (.ref C)) (kC : PySem.W.keepIn X.K (.ref C) = true) (hr : Room k X.A) (hg : Gl X x) (ha : PA X (e :: es) ta)
    (he : starEach (e :: es) X.env = (false, eval e X.env) :: starEach es X.env := by rfl) (hpl : (backTo pos (starEach es X.env)).any (·.1) = false := by rfl) (hdb : (x == ("__debug__" : Str)) = false := by decide) :
    PE X (.Call (.Name x p) (e :: es) [] pos) (tSup C ok fs ta) := by
  refine ⟨fun pins s σ H Q I h => ?_⟩
  refine wpAny_Call_Name_kw (ld_glob I hg gC (PySem.W.callWith_K (h₀ := X.base) I.ok.mod.kin kC (thn (ha.run pos pins s σ H _ I h) fun us s1 hh => ?_) he hpl) hdb)
  obtain ⟨vs, H1, I1, r1, hok, q1⟩ := hh
  refine ⟨I1.kIn, ?_⟩
  show wpAny _ _ (call (.ref C) us) _ _ _
  obtain ⟨ho, hf⟩ := hrel vs us r1 hok
  obtain ⟨mb, hb1, hb2⟩ := I1.mod.blt
  have hlim := I1.nolimit
  have hglob := I1.mod.glob.keeps I1.bk
  have hbt := hb1.keeps I1.bk
  obtain ⟨hp, g, dr, tk, os⟩ := s1
  refine wpAny_call (T X.A ⟨hp, g, dr, tk, os⟩ us _ I1.kIn hlim hglob ⟨mb, hbt, (hb2 _ (by decide)).trans rfl⟩ (by have := hr.dp; omega) ho fun h' tk' a dx M => ?_)
  show EP X pins σ Q (.ref a) ⟨h', g, dr, tk', os⟩
  obtain ⟨t1, hoe⟩ := M.obj
  obtain ⟨G, g1, g2⟩ := restrict h' fun b => decide (b ≠ a)
  have gk : ∀ b, b ≠ a → G.get? b = h'.get? b := fun b hb => g1 b (decide_eq_true hb)
  have ge : G.get? a = none := g2 a (by simp)
  have old : ∀ b o, hp.get? b = some o → G.get? b = some o := fun b o q => (gk b (Nat.ne_of_lt (Nat.lt_of_lt_of_le (Heap.lt_size q) M.new))).trans (M.keep b o q)
  have J : Inv X pins σ (upd H1 dx (exd dx (fs vs))) ⟨G, g, dr, tk', os⟩ := I1.laid (t' := tk') old M.dbig (exd_ok (M.ns.at fun o q => (gk dx M.dne).trans q) hf)
  have na : H1 a = none := I1.hok.fresh M.new
  have nd : H1 dx = none := I1.hok.fresh M.dbig
  have hna : (upd H1 dx (exd dx (fs vs))) a = none := by rw [upd_ne (Ne.symm M.dne)]; exact na
  have J2 : Inv X pins σ (upd (upd H1 dx (exd dx (fs vs))) a (exo a C (some dx))) ⟨h', g, dr, tk', os⟩ := J.laidN (t' := tk') (fun b u q => by
    by_cases hb : b = a
    · rw [hb, ge] at q
      cases q
    · exact (gk b hb).symm.trans q) ge hna (exo_ok hoe)
  exact ⟨.ref a, _, J2, rfl, q1 a dx na nd M.dne⟩
/-- isinstance(e, c), e such an exception -/
def rIsX (K : PySem.W.Frag) : List V → Hp → VK → Prop := fun xs H Q => ∃ (a C : Addr) (fs : List (Str × V)) (c : V) (cv : Value) (b : Bool), xs = [.ref a, c] ∧ ExAt H a C fs ∧ ExK K C ∧ (∀ u, RelV c u → u = cv) ∧ PySem.W.kitOne K (.ref C) cv = some b ∧ Q (.bl b) H
theorem call_isX : CallR X (.builtin "isinstance") (rIsX X.K) := by
  intro pins s σ H xs us Q I r h
  obtain ⟨a, C, fs, c, cv, b, rfl, hE, T, hcv, e, q⟩ := h
  cases r with
  | cons rx rr =>
  cases rr with
  | cons rt rr =>
  cases rr
  cases rx
  have ec := hcv _ rt
  subst ec
  have key : ∃ (ox : Obj) (od : Option Obj), PySem.W.InstAt s.heap a ox C od := by
    rcases hE with ⟨_, hE⟩ | ⟨dx, hE, hD⟩
    · obtain ⟨t1, ho⟩ := exo_at I.hok hE
      exact ⟨_, none, ho, rfl, rfl, trivial⟩
    · obtain ⟨t1, ho⟩ := exo_at I.hok hE
      obtain ⟨mA, ⟨oD, _, _, hoD, _⟩, _⟩ := exd_at I.hok hD
      exact ⟨_, some oD, ho, rfl, rfl, hoD⟩
  obtain ⟨ox, od, J⟩ := key
  exact PySem.W.kia_one (PySem.W.kitx_exc T.cl T.ga T.gt T.sB T.ca T.cn T.ct T.mo) I.kIn J e (fun z => nomatch z) fun tk => ⟨.bl b, H, I.kept (t' := tk) fun _ _ z => z, rfl, q⟩
/-- e.f, e such an exception -/
def tExF (K : PySem.W.Frag) (f : Str) (te : TE) : TE := fun σ H Q => te σ H fun x H1 => ∃ (a C : Addr) (fs : List (Str × V)) (v : V), x = .ref a ∧ ExAt H1 a C fs ∧ ExK K C ∧ PySem.W.findIn K (.ref C) f = some none ∧ fs.lookup f = some v ∧ Q v H1
theorem pe_exF {f : Str} {e : Expr} {te : TE} {pos : Pos} (he : PE X e te) (hb : attributeBase e f X.env (eval e X.env) = eval e X.env := by rfl) : PE X (.Attribute e f pos) (tExF X.K f te) := by
  refine ⟨fun pins s σ H Q I h => ?_⟩
  refine attr_of hb (thn (he.run pins s σ H _ I h) fun u s1 hh => ?_)
  obtain ⟨x, H1, I1, rx, a, C, fs, v, ex, hE, T, hno, hl, q⟩ := hh
  subst ex
  obtain rfl : u = Value.ref a := rx
  rcases hE with ⟨rfl, _⟩ | ⟨dx, hE, hD⟩
  · cases hl
  · obtain ⟨t1, ho⟩ := exo_at I1.hok hE
    obtain ⟨mA, hns, hr⟩ := exd_at I1.hok hD
    obtain ⟨od, hod, hlk⟩ := lookIn_ns hns
    obtain ⟨u, hu, ru⟩ := RelO.some_of (v := v) (o := mA f) (by rw [← hl]; exact hr f)
    have J : PySem.W.InstAt s1.heap a { cls := .ref C, dict := some dx, data := .fields #[.ref t1, .none, .none, .none, .bool false, .none] } C (some od) := ⟨ho, rfl, rfl, hod⟩
    exact PySem.HandSPX.exc_get I1.kIn J T.ga T.gt T.sB (PySem.W.findObj_own T.hd hno rfl (by rw [hlk, hu])) (handed_of ru) ⟨v, H1, I1.tok _, ru, q⟩
/-- C(), C without own __init__ -/
theorem pe_sup0 {C : Addr} {bmB : List Value} {B newId initId : String} {x : Str} {p pos : Pos} (F : ExcBaseFacts B newId initId bmB) (q : PySem.W.excIn X.K C bmB newId = true) (gC : X.mg x = some (.ref C)) (kC : PySem.W.keepIn X.K (.ref C) = true) (hg : Gl X x) (hdb : (x == ("__debug__" : Str)) = false := by decide) :
    PE X (.Call (.Name x p) [] [] pos) (fun σ H Q => ∀ a, H a = none → Q (.ref a) (upd H a (exo a C none))) := by
  refine ⟨fun pins s σ H Q I h => ?_⟩
  refine wpAny_Call_Name_kw (ld_glob I hg gC (PySem.W.callWith_K0 I.kIn kC ?_) hdb)
  show wpAny _ _ (call (.ref C) []) _ _ _
  obtain ⟨bm, N, nm, qn, bs, hdct, sn, sub, ab, col, dd, k0, k1, k2, k3, k5, mN, hC, hN, hni, T⟩ := exc_obj I.kIn q
  obtain ⟨hp, g, dr, tk, os⟩ := s
  refine wpAny_call_exc_subT F T hC hN hni (fun h' a hm => ?_) (Nat.zero_le _)
  have hn : H a = none := I.hok.gone hm.new
  obtain ⟨t, ht, _, _⟩ := hm.there
  exact ⟨.ref a, upd H a (exo a C none), I.laidN hm.keeps hm.new hn (exo_ok ht), rfl, h a hn⟩
end
/-! the defs of the four classes -/
open PySem.W EX

def top (i : Nat) : Stmt := PySem.Challenge.pw_drawntrue_k00_fractions_and_errors.main.body.getD i (.Pass ⟨0, 0, 0, 0⟩)
theorem fs_const {prog : Program} {w : World} {A : Around} {E : Value → Shared → Prop} {s : Shared} {z : Str} {j : Nat} {p : Pos} {env : Env} {Q : Value → Shared → Prop} (h : Q (.str z s.toks) { s with toks := s.toks + 1 }) : wpAny (model prog w) A (eval (.Constant (.str z) j p) env) Q E s := by
  first
    | exact PySem.Calls.Constant_str h
    | exact wpAny_Constant_str h
theorem fit1 (k : Nat) (h : k < 30) : (((Str.empty ++ ("number " : Str)) ++ (toString ((k : Nat) : Int) : Str)).length ≤ 100) ∧ (Str.empty ++ ("number " : Str)).length ≤ 100 := by
  have q : (List.range 30).all (fun k => decide ((((Str.empty ++ ("number " : Str)) ++ (toString ((k : Nat) : Int) : Str)).length ≤ 100) ∧ (Str.empty ++ ("number " : Str)).length ≤ 100)) = true := by decide +kernel
  exact of_decide_eq_true (List.all_eq_true.mp q k (List.mem_range.mpr h))
theorem fit2 (k : Nat) (h : k < 30) : ((((Str.empty ++ ("step " : Str)) ++ (toString ((k : Nat) : Int) : Str)) ++ (": " : Str)) ++ ("word" : Str)).length ≤ 100 ∧ (((Str.empty ++ ("step " : Str)) ++ (toString ((k : Nat) : Int) : Str)) ++ (": " : Str)).length ≤ 100 ∧ ((Str.empty ++ ("step " : Str)) ++ (toString ((k : Nat) : Int) : Str)).length ≤ 100 ∧ (Str.empty ++ ("step " : Str)).length ≤ 100 := by
  have q : (List.range 30).all (fun k => decide (((((Str.empty ++ ("step " : Str)) ++ (toString ((k : Nat) : Int) : Str)) ++ (": " : Str)) ++ ("word" : Str)).length ≤ 100 ∧ (((Str.empty ++ ("step " : Str)) ++ (toString ((k : Nat) : Int) : Str)) ++ (": " : Str)).length ≤ 100 ∧ ((Str.empty ++ ("step " : Str)) ++ (toString ((k : Nat) : Int) : Str)).length ≤ 100 ∧ (Str.empty ++ ("step " : Str)).length ≤ 100)) = true := by decide +kernel
  exact of_decide_eq_true (List.all_eq_true.mp q k (List.mem_range.mpr h))
theorem sl100 : (100 : Nat) ≤ sizeLine := by rw [sizeLine_eq]; omega
theorem log30 (k : Nat) (h : k < 30) : ((k : Nat) : Int).natAbs.log2 < 1920 := by
  have q : (List.range 30).all (fun k => decide (((k : Nat) : Int).natAbs.log2 < 1920)) = true := by decide +kernel
  exact of_decide_eq_true (List.all_eq_true.mp q k (List.mem_range.mpr h))

abbrev si_InvalidStep : Stmt := inClass (top 2) 0
abbrev fd_InvalidStep (kV doc pm : Value) (an : Option Addr) (ct : Value) (cda cc : Addr) : FuncData := ksFn "__init__" "InvalidStep.__init__" (defArgs si_InvalidStep) (defBody si_InvalidStep) (defScope si_InvalidStep) .none kV doc pm an (.ref cda) ct cc
theorem sd_InvalidStep (kV doc pm : Value) (an : Option Addr) (ct : Value) (cda cc : Addr) : SupDef (fd_InvalidStep kV doc pm an ct cda cc) cc cda ["place", "reason"] (defBody si_InvalidStep) where
  sc := rfl
  co := rfl
  gen := rfl
  h1 := show (defScope si_InvalidStep).names.lookup ("super" : Str) = some .globalImplicit by decide +kernel
  h2 := show (defScope si_InvalidStep).names.lookup ("__class__" : Str) = some .free by decide +kernel
  loc := show ∀ y ∈ ("self" : Str) :: (["place", "reason"] : List Str), (defScope si_InvalidStep).names.lookup y = some .local by decide +kernel
  noc := show ∀ z ∈ (defScope si_InvalidStep).names, z.2 ≠ .cell by decide +kernel
  cl := rfl
  gl := rfl
  bl := rfl
  code := rfl
  body := rfl
theorem raw_InvalidStep {P : Program} {w : World} {K : Frag} {mg : Str → Option Value} {C fI cc cda : Addr} {kV doc pm ct : Value} {an : Option Addr} (T : Sup K P C fI cc cda (fd_InvalidStep kV doc pm an ct cda cc)) (hms : mg "super" = none) (no1 : findIn K (.ref C) "place" = some none) (no2 : findIn K (.ref C) "reason" = some none) :
    MkRaw P w K mg C (fun us => ∃ (k : Nat) (t u : Tok), k < 30 ∧ us = [.int ((k : Nat) : Int) t, .str "word" u]) (fun us => fun y => if y = "reason" then us[1]? else if y = "place" then us[0]? else none) := by
  intro A s us R X hlim hg hbl hroom hok hq
  obtain ⟨k, tI, tW, hk, rfl⟩ := hok
  obtain ⟨mb, hb, hbs⟩ := hbl
  have hs : ∀ x : Addr, (fun y => ((("self" : Str), Value.ref x) :: (["place", "reason"] : List Str).zip [.int ((k : Nat) : Int) tI, .str "word" tW]).reverse.lookup y) "self" = some (.ref x) := fun x => by first | rfl | with_unfolding_all rfl | kernel_rfl
  have hm : ∀ x : Addr, (fun y => ((("self" : Str), Value.ref x) :: (["place", "reason"] : List Str).zip [.int ((k : Nat) : Int) tI, .str "word" tW]).reverse.lookup y) "place" = some (.int ((k : Nat) : Int) tI) := fun x => by first | rfl | with_unfolding_all rfl | kernel_rfl
  have hm2 : ∀ x : Addr, (fun y => ((("self" : Str), Value.ref x) :: (["place", "reason"] : List Str).zip [.int ((k : Nat) : Int) tI, .str "word" tW]).reverse.lookup y) "reason" = some (.str "word" tW) := fun x => by first | rfl | with_unfolding_all rfl | kernel_rfl
  refine sup_call (us := [.int ((k : Nat) : Int) tI, .str "word" tW]) T X hlim hroom (sd_InvalidStep kV doc pm an ct cda cc) (show 2 ≤ 1000 by decide) (fun s a => BindsTo.of_eq (by first | rfl | with_unfolding_all rfl)) ?_
  intro h₁ t' x L t0 A' E' n1 k1 hx0 hxL hLs hx hnx
  have X1 : K.In h₁ := X.keeps k1
  have hxC : x ≠ C := fun z => by
    obtain ⟨nm, q, N, bs, bm, sn, sub, ab, col, dd, k0, k1, k2, k3, k5, hC, hbm⟩ := T.cls
    rw [z, hC] at hnx
    cases hnx
  have hLx : L ≠ x := Nat.ne_of_gt hxL
  have lt0 : ∀ b o, s.heap.get? b = some o → b ≠ x := fun b o e => Nat.ne_of_lt (Nat.lt_of_lt_of_le (Heap.lt_size e) hx0)
  refine sup_start T X1 (hg.keeps k1) hms (hb.keeps k1) hbs n1 (hs x) hx hxC rfl (sd_InvalidStep kV doc pm an ct cda cc).h1 (sd_InvalidStep kV doc pm an ct cda cc).h2 ((sd_InvalidStep kV doc pm an ct cda cc).loc _ List.mem_cons_self) rfl rfl rfl rfl rfl rfl ?_ rfl ?_ rfl rfl rfl
  · intro h' t' R A' E' n q
    obtain ⟨f1, f2, f3, f4⟩ := fit2 k hk
    refine wpAny_JoinedStr (fs_const ⟨_, _, rfl, Nat.le_trans f4 sl100, wpAny_FormattedValue_plain (ldc (s := ⟨h', _, _, _, _⟩) rfl (show (defScope si_InvalidStep).names.lookup ("place" : Str) = some .local by decide +kernel) n (v := .int ((k : Nat) : Int) tI) (hm _) (wpAny_formatField_int (log30 k hk) ⟨_, _, rfl, Nat.le_trans f3 sl100, fs_const ⟨_, _, rfl, Nat.le_trans f2 sl100, wpAny_FormattedValue_plain (ldc (s := ⟨h', _, _, _, _⟩) rfl (show (defScope si_InvalidStep).names.lookup ("reason" : Str) = some .local by decide +kernel) n (v := .str "word" tW) (hm2 _) (wpAny_formatField_str ⟨_, _, rfl, Nat.le_trans f1 sl100, Nat.le_trans f1 sl100, q _ _⟩ ⟨_, _, rfl, Nat.le_trans f1 sl100, Nat.le_trans f1 sl100, q _ _⟩ (by show (4 : Nat) ≤ sizeLine; rw [sizeLine_eq]; omega)) (by decide))⟩⟩) (by decide))⟩)
  intro h2 t2 t1 k2 hx2
  have kk2 : ∀ b o, s.heap.get? b = some o → h2.get? b = some o := fun b o e => k2 b o (lt0 b o e) (k1 b o e)
  have X2 : K.In h2 := X.keeps kk2
  have n2 : h2.Ns L (fun y => ((("self" : Str), Value.ref x) :: (["place", "reason"] : List Str).zip [.int ((k : Nat) : Int) tI, .str "word" tW]).reverse.lookup y) := n1.at fun o e => k2 L o hLx e
  refine sup_first T X2 n2 (hs x) hx2 (f := "place") (y := "place") (hm x) rfl (show (defScope si_InvalidStep).names.lookup ("self" : Str) = some .local by decide +kernel) (show (defScope si_InvalidStep).names.lookup ("place" : Str) = some .local by decide +kernel) (by decide) no1 (by rfl) ?_
  intro h3 t3 dx k3 dn3 dne3 hx3 hn3
  have kk3 : ∀ b o, s.heap.get? b = some o → h3.get? b = some o := fun b o e => k3 b o (lt0 b o e) (kk2 b o e)
  have hLh : s.heap.objs.size ≤ h2.objs.size := by
    obtain ⟨o, ho⟩ : ∃ o, h2.get? L = some o := by
      obtain ⟨oL, _, _, hoL, _⟩ := n2
      exact ⟨oL, hoL⟩
    exact Nat.le_trans hx0 (Nat.le_trans (Nat.le_of_lt hxL) (Nat.le_of_lt (Heap.lt_size ho)))
  have X3 : K.In h3 := X.keeps kk3
  have n3 : h3.Ns L (fun y => ((("self" : Str), Value.ref x) :: (["place", "reason"] : List Str).zip [.int ((k : Nat) : Int) tI, .str "word" tW]).reverse.lookup y) := n2.at fun o e => k3 L o hLx e
  have hds : s.heap.objs.size ≤ dx := Nat.le_trans hLh dn3
  have ltd : ∀ b o, s.heap.get? b = some o → b ≠ dx := fun b o e => Nat.ne_of_lt (Nat.lt_of_lt_of_le (Heap.lt_size e) hds)
  refine sup_next T X3 n3 (hs x) hx3 hn3 (nl := ["place"]) (fun y hy => by
    by_cases z : y = "place"
    · rw [z]; exact List.mem_cons_self
    · simp only [if_neg z] at hy
      exact absurd rfl hy) (by decide) (f := "reason") (y := "reason") (hm2 x) rfl (show (defScope si_InvalidStep).names.lookup ("self" : Str) = some .local by decide +kernel) (show (defScope si_InvalidStep).names.lookup ("reason" : Str) = some .local by decide +kernel) (by decide) no2 (by rfl) ?_
  intro h4 t4 k4 hn4
  exact wpAt_of_wpAny (wpAny_execs_nil ⟨rfl, hq h4 t4 x dx ⟨fun b o e => k4 b o (ltd b o e) (kk3 b o e), hx0, ⟨t1, k4 x _ dne3.symm hx3⟩, hds, dne3, hn4⟩⟩)

abbrev si_InvalidSaying : Stmt := inClass (top 3) 0
abbrev fd_InvalidSaying (kV doc pm : Value) (an : Option Addr) (ct : Value) (cda cc : Addr) : FuncData := ksFn "__init__" "InvalidSaying.__init__" (defArgs si_InvalidSaying) (defBody si_InvalidSaying) (defScope si_InvalidSaying) .none kV doc pm an (.ref cda) ct cc
theorem sd_InvalidSaying (kV doc pm : Value) (an : Option Addr) (ct : Value) (cda cc : Addr) : SupDef (fd_InvalidSaying kV doc pm an ct cda cc) cc cda ["reason"] (defBody si_InvalidSaying) where
  sc := rfl
  co := rfl
  gen := rfl
  h1 := show (defScope si_InvalidSaying).names.lookup ("super" : Str) = some .globalImplicit by decide +kernel
  h2 := show (defScope si_InvalidSaying).names.lookup ("__class__" : Str) = some .free by decide +kernel
  loc := show ∀ y ∈ ("self" : Str) :: (["reason"] : List Str), (defScope si_InvalidSaying).names.lookup y = some .local by decide +kernel
  noc := show ∀ z ∈ (defScope si_InvalidSaying).names, z.2 ≠ .cell by decide +kernel
  cl := rfl
  gl := rfl
  bl := rfl
  code := rfl
  body := rfl
theorem raw_InvalidSaying {P : Program} {w : World} {K : Frag} {mg : Str → Option Value} {C fI cc cda : Addr} {kV doc pm ct : Value} {an : Option Addr} (T : Sup K P C fI cc cda (fd_InvalidSaying kV doc pm an ct cda cc)) (hms : mg "super" = none) (no1 : findIn K (.ref C) "reason" = some none) :
    MkRaw P w K mg C (fun us => ∃ v : Value, us = [v]) (fun us => fun y => if y = "reason" then us[0]? else none) := by
  intro A s us R X hlim hg hbl hroom hok hq
  obtain ⟨v, rfl⟩ := hok
  obtain ⟨mb, hb, hbs⟩ := hbl
  have hs : ∀ x : Addr, (fun y => ((("self" : Str), Value.ref x) :: (["reason"] : List Str).zip [v]).reverse.lookup y) "self" = some (.ref x) := fun x => by first | rfl | with_unfolding_all rfl | kernel_rfl
  have hm : ∀ x : Addr, (fun y => ((("self" : Str), Value.ref x) :: (["reason"] : List Str).zip [v]).reverse.lookup y) "reason" = some (v) := fun x => by first | rfl | with_unfolding_all rfl | kernel_rfl
  skip
  refine sup_call (us := [v]) T X hlim hroom (sd_InvalidSaying kV doc pm an ct cda cc) (show 1 ≤ 1000 by decide) (fun s a => BindsTo.of_eq (by first | rfl | with_unfolding_all rfl)) ?_
  intro h₁ t' x L t0 A' E' n1 k1 hx0 hxL hLs hx hnx
  have X1 : K.In h₁ := X.keeps k1
  have hxC : x ≠ C := fun z => by
    obtain ⟨nm, q, N, bs, bm, sn, sub, ab, col, dd, k0, k1, k2, k3, k5, hC, hbm⟩ := T.cls
    rw [z, hC] at hnx
    cases hnx
  have hLx : L ≠ x := Nat.ne_of_gt hxL
  have lt0 : ∀ b o, s.heap.get? b = some o → b ≠ x := fun b o e => Nat.ne_of_lt (Nat.lt_of_lt_of_le (Heap.lt_size e) hx0)
  refine sup_start T X1 (hg.keeps k1) hms (hb.keeps k1) hbs n1 (hs x) hx hxC rfl (sd_InvalidSaying kV doc pm an ct cda cc).h1 (sd_InvalidSaying kV doc pm an ct cda cc).h2 ((sd_InvalidSaying kV doc pm an ct cda cc).loc _ List.mem_cons_self) rfl rfl rfl rfl rfl rfl ?_ rfl ?_ rfl rfl rfl
  · intro h' t' R A' E' n q
    exact ldc (s := ⟨h', _, _, t', _⟩) rfl (show (defScope si_InvalidSaying).names.lookup ("reason" : Str) = some .local by decide +kernel) n (v := v) (hm _) (q _ _) (by decide)
  intro h2 t2 t1 k2 hx2
  have kk2 : ∀ b o, s.heap.get? b = some o → h2.get? b = some o := fun b o e => k2 b o (lt0 b o e) (k1 b o e)
  have X2 : K.In h2 := X.keeps kk2
  have n2 : h2.Ns L (fun y => ((("self" : Str), Value.ref x) :: (["reason"] : List Str).zip [v]).reverse.lookup y) := n1.at fun o e => k2 L o hLx e
  refine sup_first T X2 n2 (hs x) hx2 (f := "reason") (y := "reason") (hm x) rfl (show (defScope si_InvalidSaying).names.lookup ("self" : Str) = some .local by decide +kernel) (show (defScope si_InvalidSaying).names.lookup ("reason" : Str) = some .local by decide +kernel) (by decide) no1 (by rfl) ?_
  intro h3 t3 dx k3 dn3 dne3 hx3 hn3
  have kk3 : ∀ b o, s.heap.get? b = some o → h3.get? b = some o := fun b o e => k3 b o (lt0 b o e) (kk2 b o e)
  have hLh : s.heap.objs.size ≤ h2.objs.size := by
    obtain ⟨o, ho⟩ : ∃ o, h2.get? L = some o := by
      obtain ⟨oL, _, _, hoL, _⟩ := n2
      exact ⟨oL, hoL⟩
    exact Nat.le_trans hx0 (Nat.le_trans (Nat.le_of_lt hxL) (Nat.le_of_lt (Heap.lt_size ho)))
  exact wpAt_of_wpAny (wpAny_execs_nil ⟨rfl, hq h3 t3 x dx ⟨kk3, hx0, ⟨t1, hx3⟩, Nat.le_trans hLh dn3, dne3, hn3⟩⟩)

abbrev si_InvalidFigure : Stmt := inClass (top 4) 0
abbrev fd_InvalidFigure (kV doc pm : Value) (an : Option Addr) (ct : Value) (cda cc : Addr) : FuncData := ksFn "__init__" "InvalidFigure.__init__" (defArgs si_InvalidFigure) (defBody si_InvalidFigure) (defScope si_InvalidFigure) .none kV doc pm an (.ref cda) ct cc
theorem sd_InvalidFigure (kV doc pm : Value) (an : Option Addr) (ct : Value) (cda cc : Addr) : SupDef (fd_InvalidFigure kV doc pm an ct cda cc) cc cda ["place"] (defBody si_InvalidFigure) where
  sc := rfl
  co := rfl
  gen := rfl
  h1 := show (defScope si_InvalidFigure).names.lookup ("super" : Str) = some .globalImplicit by decide +kernel
  h2 := show (defScope si_InvalidFigure).names.lookup ("__class__" : Str) = some .free by decide +kernel
  loc := show ∀ y ∈ ("self" : Str) :: (["place"] : List Str), (defScope si_InvalidFigure).names.lookup y = some .local by decide +kernel
  noc := show ∀ z ∈ (defScope si_InvalidFigure).names, z.2 ≠ .cell by decide +kernel
  cl := rfl
  gl := rfl
  bl := rfl
  code := rfl
  body := rfl
theorem raw_InvalidFigure {P : Program} {w : World} {K : Frag} {mg : Str → Option Value} {C fI cc cda : Addr} {kV doc pm ct : Value} {an : Option Addr} (T : Sup K P C fI cc cda (fd_InvalidFigure kV doc pm an ct cda cc)) (hms : mg "super" = none) (no1 : findIn K (.ref C) "place" = some none) :
    MkRaw P w K mg C (fun us => ∃ (k : Nat) (t : Tok), k < 30 ∧ us = [.int ((k : Nat) : Int) t]) (fun us => fun y => if y = "place" then us[0]? else none) := by
  intro A s us R X hlim hg hbl hroom hok hq
  obtain ⟨k, tI, hk, rfl⟩ := hok
  obtain ⟨mb, hb, hbs⟩ := hbl
  have hs : ∀ x : Addr, (fun y => ((("self" : Str), Value.ref x) :: (["place"] : List Str).zip [.int ((k : Nat) : Int) tI]).reverse.lookup y) "self" = some (.ref x) := fun x => by first | rfl | with_unfolding_all rfl | kernel_rfl
  have hm : ∀ x : Addr, (fun y => ((("self" : Str), Value.ref x) :: (["place"] : List Str).zip [.int ((k : Nat) : Int) tI]).reverse.lookup y) "place" = some (.int ((k : Nat) : Int) tI) := fun x => by first | rfl | with_unfolding_all rfl | kernel_rfl
  skip
  refine sup_call (us := [.int ((k : Nat) : Int) tI]) T X hlim hroom (sd_InvalidFigure kV doc pm an ct cda cc) (show 1 ≤ 1000 by decide) (fun s a => BindsTo.of_eq (by first | rfl | with_unfolding_all rfl)) ?_
  intro h₁ t' x L t0 A' E' n1 k1 hx0 hxL hLs hx hnx
  have X1 : K.In h₁ := X.keeps k1
  have hxC : x ≠ C := fun z => by
    obtain ⟨nm, q, N, bs, bm, sn, sub, ab, col, dd, k0, k1, k2, k3, k5, hC, hbm⟩ := T.cls
    rw [z, hC] at hnx
    cases hnx
  have hLx : L ≠ x := Nat.ne_of_gt hxL
  have lt0 : ∀ b o, s.heap.get? b = some o → b ≠ x := fun b o e => Nat.ne_of_lt (Nat.lt_of_lt_of_le (Heap.lt_size e) hx0)
  refine sup_start T X1 (hg.keeps k1) hms (hb.keeps k1) hbs n1 (hs x) hx hxC rfl (sd_InvalidFigure kV doc pm an ct cda cc).h1 (sd_InvalidFigure kV doc pm an ct cda cc).h2 ((sd_InvalidFigure kV doc pm an ct cda cc).loc _ List.mem_cons_self) rfl rfl rfl rfl rfl rfl ?_ rfl ?_ rfl rfl rfl
  · intro h' t' R A' E' n q
    refine wpAny_JoinedStr (fs_const ⟨_, _, rfl, Nat.le_trans (fit1 k hk).2 sl100, wpAny_FormattedValue_plain (ldc (s := ⟨h', _, _, _, _⟩) rfl (show (defScope si_InvalidFigure).names.lookup ("place" : Str) = some .local by decide +kernel) n (v := .int ((k : Nat) : Int) tI) (hm _) (wpAny_formatField_int (log30 k hk) ⟨_, _, rfl, Nat.le_trans (fit1 k hk).1 sl100, Nat.le_trans (fit1 k hk).1 sl100, q _ _⟩) (by decide))⟩)
  intro h2 t2 t1 k2 hx2
  have kk2 : ∀ b o, s.heap.get? b = some o → h2.get? b = some o := fun b o e => k2 b o (lt0 b o e) (k1 b o e)
  have X2 : K.In h2 := X.keeps kk2
  have n2 : h2.Ns L (fun y => ((("self" : Str), Value.ref x) :: (["place"] : List Str).zip [.int ((k : Nat) : Int) tI]).reverse.lookup y) := n1.at fun o e => k2 L o hLx e
  refine sup_first T X2 n2 (hs x) hx2 (f := "place") (y := "place") (hm x) rfl (show (defScope si_InvalidFigure).names.lookup ("self" : Str) = some .local by decide +kernel) (show (defScope si_InvalidFigure).names.lookup ("place" : Str) = some .local by decide +kernel) (by decide) no1 (by rfl) ?_
  intro h3 t3 dx k3 dn3 dne3 hx3 hn3
  have kk3 : ∀ b o, s.heap.get? b = some o → h3.get? b = some o := fun b o e => k3 b o (lt0 b o e) (kk2 b o e)
  have hLh : s.heap.objs.size ≤ h2.objs.size := by
    obtain ⟨o, ho⟩ : ∃ o, h2.get? L = some o := by
      obtain ⟨oL, _, _, hoL, _⟩ := n2
      exact ⟨oL, hoL⟩
    exact Nat.le_trans hx0 (Nat.le_trans (Nat.le_of_lt hxL) (Nat.le_of_lt (Heap.lt_size ho)))
  exact wpAt_of_wpAny (wpAny_execs_nil ⟨rfl, hq h3 t3 x dx ⟨kk3, hx0, ⟨t1, hx3⟩, Nat.le_trans hLh dn3, dne3, hn3⟩⟩)

abbrev si_Flat : Stmt := inClass (top 5) 0
abbrev fd_Flat (kV doc pm : Value) (an : Option Addr) (ct : Value) (cda cc : Addr) : FuncData := ksFn "__init__" "Flat.__init__" (defArgs si_Flat) (defBody si_Flat) (defScope si_Flat) .none kV doc pm an (.ref cda) ct cc
theorem sd_Flat (kV doc pm : Value) (an : Option Addr) (ct : Value) (cda cc : Addr) : SupDef (fd_Flat kV doc pm an ct cda cc) cc cda ["name"] (defBody si_Flat) where
  sc := rfl
  co := rfl
  gen := rfl
  h1 := show (defScope si_Flat).names.lookup ("super" : Str) = some .globalImplicit by decide +kernel
  h2 := show (defScope si_Flat).names.lookup ("__class__" : Str) = some .free by decide +kernel
  loc := show ∀ y ∈ ("self" : Str) :: (["name"] : List Str), (defScope si_Flat).names.lookup y = some .local by decide +kernel
  noc := show ∀ z ∈ (defScope si_Flat).names, z.2 ≠ .cell by decide +kernel
  cl := rfl
  gl := rfl
  bl := rfl
  code := rfl
  body := rfl
theorem raw_Flat {P : Program} {w : World} {K : Frag} {mg : Str → Option Value} {C fI cc cda : Addr} {kV doc pm ct : Value} {an : Option Addr} (T : Sup K P C fI cc cda (fd_Flat kV doc pm an ct cda cc)) (hms : mg "super" = none) (no1 : findIn K (.ref C) "name" = some none) :
    MkRaw P w K mg C (fun us => ∃ v : Value, us = [v]) (fun us => fun y => if y = "name" then us[0]? else none) := by
  intro A s us R X hlim hg hbl hroom hok hq
  obtain ⟨v, rfl⟩ := hok
  obtain ⟨mb, hb, hbs⟩ := hbl
  have hs : ∀ x : Addr, (fun y => ((("self" : Str), Value.ref x) :: (["name"] : List Str).zip [v]).reverse.lookup y) "self" = some (.ref x) := fun x => by first | rfl | with_unfolding_all rfl | kernel_rfl
  have hm : ∀ x : Addr, (fun y => ((("self" : Str), Value.ref x) :: (["name"] : List Str).zip [v]).reverse.lookup y) "name" = some (v) := fun x => by first | rfl | with_unfolding_all rfl | kernel_rfl
  skip
  refine sup_call (us := [v]) T X hlim hroom (sd_Flat kV doc pm an ct cda cc) (show 1 ≤ 1000 by decide) (fun s a => BindsTo.of_eq (by first | rfl | with_unfolding_all rfl)) ?_
  intro h₁ t' x L t0 A' E' n1 k1 hx0 hxL hLs hx hnx
  have X1 : K.In h₁ := X.keeps k1
  have hxC : x ≠ C := fun z => by
    obtain ⟨nm, q, N, bs, bm, sn, sub, ab, col, dd, k0, k1, k2, k3, k5, hC, hbm⟩ := T.cls
    rw [z, hC] at hnx
    cases hnx
  have hLx : L ≠ x := Nat.ne_of_gt hxL
  have lt0 : ∀ b o, s.heap.get? b = some o → b ≠ x := fun b o e => Nat.ne_of_lt (Nat.lt_of_lt_of_le (Heap.lt_size e) hx0)
  refine sup_start T X1 (hg.keeps k1) hms (hb.keeps k1) hbs n1 (hs x) hx hxC rfl (sd_Flat kV doc pm an ct cda cc).h1 (sd_Flat kV doc pm an ct cda cc).h2 ((sd_Flat kV doc pm an ct cda cc).loc _ List.mem_cons_self) rfl rfl rfl rfl rfl rfl ?_ rfl ?_ rfl rfl rfl
  · intro h' t' R A' E' n q
    exact ldc (s := ⟨h', _, _, t', _⟩) rfl (show (defScope si_Flat).names.lookup ("name" : Str) = some .local by decide +kernel) n (v := v) (hm _) (q _ _) (by decide)
  intro h2 t2 t1 k2 hx2
  have kk2 : ∀ b o, s.heap.get? b = some o → h2.get? b = some o := fun b o e => k2 b o (lt0 b o e) (k1 b o e)
  have X2 : K.In h2 := X.keeps kk2
  have n2 : h2.Ns L (fun y => ((("self" : Str), Value.ref x) :: (["name"] : List Str).zip [v]).reverse.lookup y) := n1.at fun o e => k2 L o hLx e
  refine sup_first T X2 n2 (hs x) hx2 (f := "name") (y := "name") (hm x) rfl (show (defScope si_Flat).names.lookup ("self" : Str) = some .local by decide +kernel) (show (defScope si_Flat).names.lookup ("name" : Str) = some .local by decide +kernel) (by decide) no1 (by rfl) ?_
  intro h3 t3 dx k3 dn3 dne3 hx3 hn3
  have kk3 : ∀ b o, s.heap.get? b = some o → h3.get? b = some o := fun b o e => k3 b o (lt0 b o e) (kk2 b o e)
  have hLh : s.heap.objs.size ≤ h2.objs.size := by
    obtain ⟨o, ho⟩ : ∃ o, h2.get? L = some o := by
      obtain ⟨oL, _, _, hoL, _⟩ := n2
      exact ⟨oL, hoL⟩
    exact Nat.le_trans hx0 (Nat.le_trans (Nat.le_of_lt hxL) (Nat.le_of_lt (Heap.lt_size ho)))
  exact wpAt_of_wpAny (wpAny_execs_nil ⟨rfl, hq h3 t3 x dx ⟨kk3, hx0, ⟨t1, hx3⟩, Nat.le_trans hLh dn3, dne3, hn3⟩⟩)

end EXH

set_option Elab.async false
set_option linter.all false
set_option maxRecDepth 100000
/-! DL: a layer over HandS in which a def's reading speaks of data alone (no heap): what stands in the slots is data, owned lists may be changed. -/
namespace DL
open PySem L2

abbrev D := PyData
/-- the list at a is read: tracked and not among O, or of the module -/
def ShL (K : PySem.W.Frag) (O : Addr → Prop) (H : Hp) (a : Addr) (xs : List V) : Prop :=
  (¬ O a ∧ Rd H a (.lst xs)) ∨ ∃ (o : Obj) (its : Array Value) (n : Nat), K.lookup a = some o ∧ o.cls = .type "list" ∧ o.dict = none ∧ o.data = .seq its n ∧ its.size ≤ sizeLine ∧ Vals xs its.toList
def ShT (K : PySem.W.Frag) (O : Addr → Prop) (H : Hp) (a : Addr) (xs : List V) : Prop :=
  (¬ O a ∧ Rd H a (.tup xs)) ∨ ∃ (o : Obj) (its : Array Value) (n : Nat), K.lookup a = some o ∧ o.cls = .type "tuple" ∧ o.data = .seq its n ∧ its.size ≤ sizeLine ∧ Vals xs its.toList
/-- whatever is outside O stays -/
def Stp (O : Addr → Prop) (H H' : Hp) : Prop := ∀ b o, ¬ O b → H b = some o → H' b = some o
theorem Stp.refl {O : Addr → Prop} {H : Hp} : Stp O H H := fun _ _ _ h => h
theorem Stp.trans {O : Addr → Prop} {H H1 H2 : Hp} (a : Stp O H H1) (b : Stp O H1 H2) : Stp O H H2 := fun c o n h => b c o n (a c o n h)
theorem Stp.of {O : Addr → Prop} {H H' : Hp} (e : Same H H') : Stp O H H' := fun b o _ h => e b o h
theorem Stp.weak {O O' : Addr → Prop} {H H' : Hp} (e : Stp O H H') (s : ∀ b, O b → O' b) : Stp O' H H' := fun b o n h => e b o (fun z => n (s b z)) h
theorem Stp.rd {O : Addr → Prop} {H H' : Hp} {a : Addr} {u : HO} (e : Stp O H H') (n : ¬ O a) (h : Rd H a u) : Rd H' a u := by
  rcases h with h | ⟨o, h⟩
  · exact .inl (e a _ n h)
  · exact .inr ⟨o, e a _ n h⟩
section
variable {K : PySem.W.Frag} {O O' : Addr → Prop} {H H' : Hp} {a : Addr} {xs : List V}
theorem ShL.sq (h : ShL K O H a xs) : SqL K H a xs := by
  rcases h with ⟨_, h⟩ | h
  · exact .inl h
  · exact .inr h
theorem ShT.sq (h : ShT K O H a xs) : SqT K H a xs := by
  rcases h with ⟨_, h⟩ | h
  · exact .inl h
  · exact .inr h
theorem ShL.mono (e : Stp O H H') (h : ShL K O H a xs) : ShL K O H' a xs := by
  rcases h with ⟨n, h⟩ | h
  · exact .inl ⟨n, e.rd n h⟩
  · exact .inr h
theorem ShT.mono (e : Stp O H H') (h : ShT K O H a xs) : ShT K O H' a xs := by
  rcases h with ⟨n, h⟩ | h
  · exact .inl ⟨n, e.rd n h⟩
  · exact .inr h
theorem ShL.less (s : ∀ b, O' b → O b) (h : ShL K O H a xs) : ShL K O' H a xs := by
  rcases h with ⟨n, h⟩ | h
  · exact .inl ⟨fun z => n (s _ z), h⟩
  · exact .inr h
theorem ShT.less (s : ∀ b, O' b → O b) (h : ShT K O H a xs) : ShT K O' H a xs := by
  rcases h with ⟨n, h⟩ | h
  · exact .inl ⟨fun z => n (s _ z), h⟩
  · exact .inr h
/-- one more address that is not tracked -/
theorem ShL.more {p : Addr} (hp : H p = none) (s : ∀ b, O' b → O b ∨ b = p) (h : ShL K O H a xs) : ShL K O' H a xs := by
  rcases h with ⟨n, h⟩ | h
  · refine .inl ⟨fun z => ?_, h⟩
    rcases s _ z with z | z
    · exact n z
    · subst z
      rcases h with h | ⟨o, h⟩ <;> (rw [hp] at h; cases h)
  · exact .inr h
theorem ShT.more {p : Addr} (hp : H p = none) (s : ∀ b, O' b → O b ∨ b = p) (h : ShT K O H a xs) : ShT K O' H a xs := by
  rcases h with ⟨n, h⟩ | h
  · refine .inl ⟨fun z => ?_, h⟩
    rcases s _ z with z | z
    · exact n z
    · subst z
      rcases h with h | ⟨o, h⟩ <;> (rw [hp] at h; cases h)
  · exact .inr h
end

mutual
/-- the value v is the data d; none of its lists and tuples is among O -/
inductive Rp (K : PySem.W.Frag) (O : Addr → Prop) (H : Hp) : V → D → Prop
  | non : Rp K O H .non .none
  | bl (b : Bool) : Rp K O H (.bl b) (.bool b)
  | int (i : Int) : Rp K O H (.int i) (.int i)
  | str (x : Str) : Rp K O H (.str x) (.str x)
  | lst {a : Addr} {xs : List V} {ds : List D} : ShL K O H a xs → RpA K O H xs ds → Rp K O H (.ref a) (.list ds)
  | tup {a : Addr} {xs : List V} {ds : List D} : ShT K O H a xs → RpA K O H xs ds → Rp K O H (.ref a) (.tuple ds)
inductive RpA (K : PySem.W.Frag) (O : Addr → Prop) (H : Hp) : List V → List D → Prop
  | nil : RpA K O H [] []
  | cons {v : V} {vs : List V} {d : D} {ds : List D} : Rp K O H v d → RpA K O H vs ds → RpA K O H (v :: vs) (d :: ds)
end
section
variable {K : PySem.W.Frag} {O O' : Addr → Prop} {H H' : Hp}
mutual
theorem Rp.map (hl : ∀ a xs, ShL K O H a xs → ShL K O' H' a xs) (ht : ∀ a xs, ShT K O H a xs → ShT K O' H' a xs) : ∀ {d : D} {v : V}, Rp K O H v d → Rp K O' H' v d
  | _, _, .non => .non
  | _, _, .bl b => .bl b
  | _, _, .int i => .int i
  | _, _, .str x => .str x
  | _, _, .lst h r => .lst (hl _ _ h) (RpA.map hl ht r)
  | _, _, .tup h r => .tup (ht _ _ h) (RpA.map hl ht r)
theorem RpA.map (hl : ∀ a xs, ShL K O H a xs → ShL K O' H' a xs) (ht : ∀ a xs, ShT K O H a xs → ShT K O' H' a xs) : ∀ {ds : List D} {vs : List V}, RpA K O H vs ds → RpA K O' H' vs ds
  | _, _, .nil => .nil
  | _, _, .cons h r => .cons (Rp.map hl ht h) (RpA.map hl ht r)
end
theorem Rp.mono {v : V} {d : D} (e : Stp O H H') (h : Rp K O H v d) : Rp K O H' v d := h.map (fun _ _ x => x.mono e) fun _ _ x => x.mono e
theorem RpA.mono {vs : List V} {ds : List D} (e : Stp O H H') (h : RpA K O H vs ds) : RpA K O H' vs ds := h.map (fun _ _ x => x.mono e) fun _ _ x => x.mono e
theorem Rp.less {v : V} {d : D} (s : ∀ b, O' b → O b) (h : Rp K O H v d) : Rp K O' H v d := h.map (fun _ _ x => x.less s) fun _ _ x => x.less s
theorem RpA.less {vs : List V} {ds : List D} (s : ∀ b, O' b → O b) (h : RpA K O H vs ds) : RpA K O' H vs ds := h.map (fun _ _ x => x.less s) fun _ _ x => x.less s
theorem Rp.more {v : V} {d : D} {p : Addr} (hp : H p = none) (s : ∀ b, O' b → O b ∨ b = p) (h : Rp K O H v d) : Rp K O' H v d := h.map (fun _ _ x => x.more hp s) fun _ _ x => x.more hp s
theorem RpA.more {vs : List V} {ds : List D} {p : Addr} (hp : H p = none) (s : ∀ b, O' b → O b ∨ b = p) (h : RpA K O H vs ds) : RpA K O' H vs ds := h.map (fun _ _ x => x.more hp s) fun _ _ x => x.more hp s
mutual
theorem Rp.dp : ∀ {d : D} {v : V}, Rp K O H v d → Dp K H v d
  | _, _, .non => .non
  | _, _, .bl b => .bl b
  | _, _, .int i => .int i
  | _, _, .str x => .str x
  | _, _, .lst h r => .lst h.sq (RpA.dp r)
  | _, _, .tup h r => .tup h.sq (RpA.dp r)
theorem RpA.dp : ∀ {ds : List D} {vs : List V}, RpA K O H vs ds → DpAll K H vs ds
  | _, _, .nil => .nil
  | _, _, .cons h r => .cons (Rp.dp h) (RpA.dp r)
end
theorem RpA.len : ∀ {ds : List D} {vs : List V}, RpA K O H vs ds → vs.length = ds.length
  | _, _, .nil => rfl
  | _, _, .cons _ r => by simp [r.len]
theorem RpA.get : ∀ {ds : List D} {vs : List V} {i : Nat} {d : D}, RpA K O H vs ds → ds[i]? = some d → ∃ v, vs[i]? = some v ∧ Rp K O H v d
  | _, _, i, _, .nil, e => by simp at e
  | _, _, 0, _, .cons h _, e => by
    simp at e
    subst e
    exact ⟨_, rfl, h⟩
  | _, _, i + 1, _, .cons _ r, e => by
    obtain ⟨v, h1, h2⟩ := RpA.get (i := i) r (by simpa using e)
    exact ⟨v, by simpa using h1, h2⟩
theorem RpA.getV : ∀ {ds : List D} {vs : List V} {i : Nat} {v : V}, RpA K O H vs ds → vs[i]? = some v → ∃ d, ds[i]? = some d ∧ Rp K O H v d
  | _, _, i, _, .nil, e => by simp at e
  | _, _, 0, _, .cons h _, e => by
    simp at e
    subst e
    exact ⟨_, rfl, h⟩
  | _, _, i + 1, _, .cons _ r, e => by
    obtain ⟨v, h1, h2⟩ := RpA.getV (i := i) r (by simpa using e)
    exact ⟨v, by simpa using h1, h2⟩
theorem RpA.append : ∀ {ds es : List D} {vs ws : List V}, RpA K O H vs ds → RpA K O H ws es → RpA K O H (vs ++ ws) (ds ++ es)
  | _, _, _, _, .nil, s => s
  | _, _, _, _, .cons h r, s => .cons h (RpA.append r s)
theorem RpA.one {v : V} {d : D} (h : Rp K O H v d) : RpA K O H [v] [d] := .cons h .nil
theorem RpA.set {v : V} {d : D} (h : Rp K O H v d) : ∀ {ds : List D} {vs : List V} (i : Nat), RpA K O H vs ds → RpA K O H (vs.set i v) (ds.set i d)
  | _, _, _, .nil => .nil
  | _, _, 0, .cons _ r => .cons h r
  | _, _, i + 1, .cons q r => .cons q (RpA.set h i r)
theorem RpA.map1 {O1 O2 : Addr → Prop} {H1 H2 : Hp} (h : ∀ v d, Rp K O1 H1 v d → Rp K O2 H2 v d) : ∀ {ds : List D} {vs : List V}, RpA K O1 H1 vs ds → RpA K O2 H2 vs ds
  | _, _, .nil => .nil
  | _, _, .cons q r => .cons (h _ _ q) (RpA.map1 h r)
theorem RpA.ints : ∀ {ns : List Int}, RpA K O H (ns.map V.int) (ns.map PyData.int)
  | [] => .nil
  | n :: ns => .cons (.int n) RpA.ints
theorem RpA.drop : ∀ {ds : List D} {vs : List V} (n : Nat), RpA K O H vs ds → RpA K O H (vs.drop n) (ds.drop n)
  | _, _, 0, r => r
  | _, _, _ + 1, .nil => .nil
  | _, _, n + 1, .cons _ r => RpA.drop n r
theorem RpA.take : ∀ {ds : List D} {vs : List V} (n : Nat), RpA K O H vs ds → RpA K O H (vs.take n) (ds.take n)
  | _, _, 0, _ => .nil
  | _, _, _ + 1, .nil => .nil
  | _, _, n + 1, .cons h r => .cons h (RpA.take n r)
end

/-! ### the state -/
/-- what stands in a slot: nothing that is known; data; a list of the def's own; a list of the caller's that the def changes -/
inductive Sl where
  | no | sh (d : D) | ol (ds : List D) | io (ds : List D)
abbrev Env := List Sl
/-- an activation: the heap at the entry, the addresses that belong to others, the slots that hold the caller's own lists, objects that stay, values that stay -/
structure Act where
  H0 : Hp
  FO : Addr → Prop
  io : List (Nat × Addr)
  keep : List (Addr × HO)
  pin : List (List V × List D)
def own (FO : Addr → Prop) (Ow : Nat → Option Addr) : Addr → Prop := fun a => FO a ∨ ∃ i, Ow i = some a
def RelS (K : PySem.W.Frag) (O : Addr → Prop) (H : Hp) (io : List (Nat × Addr)) (i : Nat) (x : Option (Option V)) (w : Option Addr) : Sl → Prop
  | .no => w = none
  | .sh d => w = none ∧ ∃ v, x = some (some v) ∧ Rp K O H v d
  | .ol ds => ∃ a xs, w = some a ∧ x = some (some (.ref a)) ∧ H a = some (.lst xs) ∧ RpA K O H xs ds ∧ ∀ b, (i, b) ∉ io
  | .io ds => ∃ a xs, w = some a ∧ x = some (some (.ref a)) ∧ H a = some (.lst xs) ∧ RpA K O H xs ds ∧ (i, a) ∈ io
structure Rel (K : PySem.W.Frag) (A : Act) (Ow : Nat → Option Addr) (σ : L2.St) (H : Hp) (ρ : Env) : Prop where
  len : σ.length = ρ.length
  sl : ∀ i s, ρ[i]? = some s → RelS K (own A.FO Ow) H A.io i σ[i]? (Ow i) s
  out : ∀ i, ρ.length ≤ i → Ow i = none
  uniq : ∀ i j a, Ow i = some a → Ow j = some a → i = j
  kept : ∀ b o, (∀ i, (i, b) ∉ A.io) → A.H0 b = some o → H b = some o
  fo : ∀ b, A.FO b → ∃ o, H b = some o
  new : ∀ i a, Ow i = some a → A.H0 a = none ∨ (i, a) ∈ A.io
  nofo : ∀ i a, Ow i = some a → (i, a) ∈ A.io ∨ ¬ A.FO a
  io : ∀ p ∈ A.io, ∃ ds, ρ[p.1]? = some (.io ds)
  one : ∀ i a b, (i, a) ∈ A.io → (i, b) ∈ A.io → a = b
  keep : ∀ p ∈ A.keep, H p.1 = some p.2 ∧ ∀ i, Ow i ≠ some p.1
  pin : ∀ p ∈ A.pin, RpA K (own A.FO Ow) H p.1 p.2
section
variable {K : PySem.W.Frag} {A : Act} {Ow : Nat → Option Addr} {σ : L2.St} {H H' : Hp} {ρ : Env}
theorem RelS.mono {O : Addr → Prop} {io : List (Nat × Addr)} {i : Nat} {x : Option (Option V)} {w : Option Addr} {s : Sl} (e : Stp O H H') (k : ∀ a, w = some a → ∀ xs, H a = some (.lst xs) → H' a = some (.lst xs)) (h : RelS K O H io i x w s) : RelS K O H' io i x w s := by
  cases s with
  | no => exact h
  | sh d =>
    obtain ⟨h1, v, h2, h3⟩ := h
    exact ⟨h1, v, h2, h3.mono e⟩
  | ol ds =>
    obtain ⟨a, xs, h1, h2, h3, h4, h5⟩ := h
    exact ⟨a, xs, h1, h2, k a h1 _ h3, h4.mono e, h5⟩
  | io ds =>
    obtain ⟨a, xs, h1, h2, h3, h4, h5⟩ := h
    exact ⟨a, xs, h1, h2, k a h1 _ h3, h4.mono e, h5⟩
/-- what is owned is tracked -/
theorem Rel.at (R : Rel K A Ow σ H ρ) {i : Nat} {a : Addr} (h : Ow i = some a) : ∃ xs, H a = some (.lst xs) ∧ σ[i]? = some (some (.ref a)) := by
  by_cases hi : i < ρ.length
  · have q := R.sl i ρ[i] (List.getElem?_eq_getElem hi)
    cases e : ρ[i] with
    | no => rw [e] at q; exact absurd (show Ow i = none from q) (by rw [h]; simp)
    | sh d => rw [e] at q; exact absurd q.1 (by rw [h]; simp)
    | ol ds =>
      rw [e] at q
      obtain ⟨b, xs, h1, h2, h3, _⟩ := q
      rw [h] at h1; cases h1
      exact ⟨xs, h3, h2⟩
    | io ds =>
      rw [e] at q
      obtain ⟨b, xs, h1, h2, h3, _⟩ := q
      rw [h] at h1; cases h1
      exact ⟨xs, h3, h2⟩
  · rw [R.out i (by omega)] at h
    cases h
theorem Rel.tracked (R : Rel K A Ow σ H ρ) {a : Addr} (h : own A.FO Ow a) : ∃ o, H a = some o := by
  rcases h with h | ⟨i, h⟩
  · exact R.fo a h
  · obtain ⟨xs, h1, _⟩ := R.at h
    exact ⟨_, h1⟩
theorem Rel.fresh (R : Rel K A Ow σ H ρ) {p : Addr} (hp : H p = none) : ¬ own A.FO Ow p := fun z => by
  obtain ⟨o, e⟩ := R.tracked z
  rw [hp] at e
  cases e
/-- the heap grows -/
theorem Rel.ext (R : Rel K A Ow σ H ρ) (e : Same H H') : Rel K A Ow σ H' ρ where
  len := R.len
  sl := fun i s h => (R.sl i s h).mono (Stp.of e) fun a _ xs q => e a _ q
  out := R.out
  uniq := R.uniq
  kept := fun b o n h => e b o (R.kept b o n h)
  fo := fun b h => let ⟨o, q⟩ := R.fo b h; ⟨o, e b o q⟩
  new := R.new
  nofo := R.nofo
  io := R.io
  one := R.one
  keep := fun p h => ⟨e _ _ (R.keep p h).1, (R.keep p h).2⟩
  pin := fun p h => (R.pin p h).mono (Stp.of e)
theorem io_of_new (R : Rel K A Ow σ H ρ) {i : Nat} {a : Addr} (h : Ow i = some a) {b : Addr} {o : HO} (n : ∀ j, (j, b) ∉ A.io) (hb : A.H0 b = some o) : b ≠ a := fun z => by
  subst z
  rcases R.new i b h with q | q
  · rw [q] at hb; cases hb
  · exact n i q
/-- the list of the slot i is changed (by the def or by a callee) -/
theorem Rel.mut (R : Rel K A Ow σ H ρ) {i : Nat} {a : Addr} {xs : List V} {cs : List D} (h : Ow i = some a) (e : Stp (fun b => b = a) H H') (ha : H' a = some (.lst xs)) (hc : RpA K (own A.FO Ow) H' xs cs) :
    (ρ[i]? = some (.ol ds) → Rel K A Ow σ H' (ρ.set i (.ol cs))) ∧ (ρ[i]? = some (.io ds) → Rel K A Ow σ H' (ρ.set i (.io cs))) := by
  have eo : Stp (own A.FO Ow) H H' := e.weak fun b z => by subst z; exact .inr ⟨i, h⟩
  have base : ∀ s : Sl, RelS K (own A.FO Ow) H' A.io i σ[i]? (Ow i) s → (∀ p ∈ A.io, ∃ ds, (ρ.set i s)[p.1]? = some (.io ds)) → i < ρ.length → Rel K A Ow σ H' (ρ.set i s) := fun s hs hio hi => by
    refine ⟨by rw [List.length_set]; exact R.len, fun j t hj => ?_, fun j hj => R.out j (by rw [List.length_set] at hj; exact hj), R.uniq, fun b o n q => e b o (io_of_new R h n q) (R.kept b o n q), fun b q => ?_, R.new, R.nofo, hio, R.one, fun p hp => ?_, fun p hp => (R.pin p hp).mono eo⟩
    · by_cases hij : i = j
      · subst hij
        rw [List.getElem?_set_self hi] at hj
        cases hj
        exact hs
      · rw [List.getElem?_set_ne hij] at hj
        exact (R.sl j t hj).mono eo fun b hb ys q => e b _ (fun z => hij (R.uniq i j a h (z ▸ hb))) q
    · by_cases z : b = a
      · subst z; exact ⟨_, ha⟩
      · obtain ⟨o, q⟩ := R.fo b q
        exact ⟨o, e b o z q⟩
    · obtain ⟨k1, k2⟩ := R.keep p hp
      exact ⟨e _ _ (fun z => k2 i (z ▸ h)) k1, k2⟩
  refine ⟨fun hs => ?_, fun hs => ?_⟩
  · have hi : i < ρ.length := (List.getElem?_eq_some_iff.mp hs).1
    obtain ⟨b, ys, h1, h2, h3, h4, h5⟩ := R.sl i _ hs
    rw [h] at h1; cases h1
    refine base (.ol cs) ⟨a, xs, h, h2, ha, hc, h5⟩ (fun p hp => ?_) hi
    obtain ⟨es, q⟩ := R.io p hp
    by_cases z : i = p.1
    · rw [← z, hs] at q; cases q
    · exact ⟨es, by rw [List.getElem?_set_ne z]; exact q⟩
  · have hi : i < ρ.length := (List.getElem?_eq_some_iff.mp hs).1
    obtain ⟨b, ys, h1, h2, h3, h4, h5⟩ := R.sl i _ hs
    rw [h] at h1; cases h1
    refine base (.io cs) ⟨a, xs, h, h2, ha, hc, h5⟩ (fun p hp => ?_) hi
    obtain ⟨es, q⟩ := R.io p hp
    by_cases z : i = p.1
    · exact ⟨cs, by rw [← z, List.getElem?_set_self hi]⟩
    · exact ⟨es, by rw [List.getElem?_set_ne z]; exact q⟩
/-- one slot is no more owned -/
def off (Ow : Nat → Option Addr) (i : Nat) : Nat → Option Addr := fun j => if j = i then none else Ow j
theorem off_some {Ow : Nat → Option Addr} {i j : Nat} {a : Addr} (h : off Ow i j = some a) : j ≠ i ∧ Ow j = some a := by
  unfold off at h
  by_cases z : j = i
  · rw [if_pos z] at h; cases h
  · rw [if_neg z] at h; exact ⟨z, h⟩
theorem off_ne {Ow : Nat → Option Addr} {i j : Nat} (h : j ≠ i) : off Ow i j = Ow j := by unfold off; rw [if_neg h]
theorem off_self {Ow : Nat → Option Addr} {i : Nat} : off Ow i i = none := by unfold off; rw [if_pos rfl]
theorem own_off {FO : Addr → Prop} {Ow : Nat → Option Addr} {i : Nat} : ∀ b, own FO (off Ow i) b → own FO Ow b := fun b z => by
  rcases z with z | ⟨j, z⟩
  · exact .inl z
  · exact .inr ⟨j, (off_some z).2⟩
theorem RelS.less {O O' : Addr → Prop} {io : List (Nat × Addr)} {i : Nat} {x : Option (Option V)} {w : Option Addr} {s : Sl} (k : ∀ b, O' b → O b) (h : RelS K O H io i x w s) : RelS K O' H io i x w s := by
  cases s with
  | no => exact h
  | sh d =>
    obtain ⟨h1, v, h2, h3⟩ := h
    exact ⟨h1, v, h2, h3.less k⟩
  | ol ds =>
    obtain ⟨a, xs, h1, h2, h3, h4, h5⟩ := h
    exact ⟨a, xs, h1, h2, h3, h4.less k, h5⟩
  | io ds =>
    obtain ⟨a, xs, h1, h2, h3, h4, h5⟩ := h
    exact ⟨a, xs, h1, h2, h3, h4.less k, h5⟩
/-- the slot i gets something else (that is not owned) -/
theorem Rel.put (R : Rel K A Ow σ H ρ) {i : Nat} {x : Option V} {s : Sl} (hi : ∀ ds, ρ[i]? ≠ some (.io ds)) (hs : RelS K (own A.FO (off Ow i)) H A.io i (some x) none s) : Rel K A (off Ow i) (σ.set i x) H (ρ.set i s) where
  len := by rw [List.length_set, List.length_set]; exact R.len
  sl := fun j t hj => by
    by_cases hij : i = j
    · subst hij
      by_cases hl : i < ρ.length
      · rw [List.getElem?_set_self hl] at hj
        cases hj
        rw [List.getElem?_set_self (by rw [R.len]; exact hl), off_self]
        exact hs
      · rw [List.getElem?_eq_none (by rw [List.length_set]; omega)] at hj
        cases hj
    · rw [List.getElem?_set_ne hij] at hj
      rw [List.getElem?_set_ne hij, off_ne (Ne.symm hij)]
      exact (R.sl j t hj).less own_off
  out := fun j hj => by
    by_cases z : j = i
    · subst z; exact off_self
    · rw [off_ne z]; exact R.out j (by rw [List.length_set] at hj; exact hj)
  uniq := fun j k a h1 h2 => R.uniq j k a (off_some h1).2 (off_some h2).2
  kept := R.kept
  fo := R.fo
  new := fun j a h => R.new j a (off_some h).2
  nofo := fun j a h => R.nofo j a (off_some h).2
  io := fun p hp => by
    obtain ⟨es, q⟩ := R.io p hp
    by_cases z : i = p.1
    · rw [← z] at q; exact absurd q (hi es)
    · exact ⟨es, by rw [List.getElem?_set_ne z]; exact q⟩
  one := R.one
  keep := fun p hp => ⟨(R.keep p hp).1, fun j z => (R.keep p hp).2 j (off_some z).2⟩
  pin := fun p hp => (R.pin p hp).less own_off
/-- .. a new list of its own -/
def onn (Ow : Nat → Option Addr) (i : Nat) (p : Addr) : Nat → Option Addr := fun j => if j = i then some p else Ow j
theorem onn_self {Ow : Nat → Option Addr} {i : Nat} {p : Addr} : onn Ow i p i = some p := by unfold onn; rw [if_pos rfl]
theorem onn_ne {Ow : Nat → Option Addr} {i j : Nat} {p : Addr} (h : j ≠ i) : onn Ow i p j = Ow j := by unfold onn; rw [if_neg h]
theorem own_onn {FO : Addr → Prop} {Ow : Nat → Option Addr} {i : Nat} {p : Addr} : ∀ b, own FO (onn Ow i p) b → own FO Ow b ∨ b = p := fun b z => by
  rcases z with z | ⟨j, z⟩
  · exact .inl (.inl z)
  · by_cases k : j = i
    · subst k; rw [onn_self] at z; cases z; exact .inr rfl
    · rw [onn_ne k] at z; exact .inl (.inr ⟨j, z⟩)
/-- the heap has grown by the list p (not tracked at H), whose items are data; the slot i gets it -/
theorem Rel.putNew (R : Rel K A Ow σ H ρ) {i : Nat} {p : Addr} {xs : List V} {cs : List D} (hi : ∀ ds, ρ[i]? ≠ some (.io ds)) (hl : i < ρ.length) (hp : H p = none) (e : Same H H') (ha : H' p = some (.lst xs)) (hc : RpA K (own A.FO (onn Ow i p)) H' xs cs) (hn : A.H0 p = none) (hio : ∀ b, (i, b) ∉ A.io) :
    Rel K A (onn Ow i p) (σ.set i (some (.ref p))) H' (ρ.set i (.ol cs)) where
  len := by rw [List.length_set, List.length_set]; exact R.len
  sl := fun j t hj => by
    by_cases hij : i = j
    · subst hij
      rw [List.getElem?_set_self hl] at hj
      cases hj
      rw [List.getElem?_set_self (by rw [R.len]; exact hl), onn_self]
      exact ⟨p, xs, rfl, rfl, ha, hc, hio⟩
    · rw [List.getElem?_set_ne hij] at hj
      rw [List.getElem?_set_ne hij, onn_ne (Ne.symm hij)]
      have q := R.sl j t hj
      cases t with
      | no => exact q
      | sh d =>
        obtain ⟨h1, v, h2, h3⟩ := q
        exact ⟨h1, v, h2, (h3.more hp own_onn).mono (Stp.of e)⟩
      | ol ds =>
        obtain ⟨a, ys, h1, h2, h3, h4, h5⟩ := q
        exact ⟨a, ys, h1, h2, e _ _ h3, (h4.more hp own_onn).mono (Stp.of e), h5⟩
      | io ds =>
        obtain ⟨a, ys, h1, h2, h3, h4, h5⟩ := q
        exact ⟨a, ys, h1, h2, e _ _ h3, (h4.more hp own_onn).mono (Stp.of e), h5⟩
  out := fun j hj => by
    rw [List.length_set] at hj
    rw [onn_ne (by omega)]
    exact R.out j hj
  uniq := fun j k a h1 h2 => by
    have key : ∀ m, m ≠ i → Ow m = some p → False := fun m hm z => by
      obtain ⟨_, q, _⟩ := R.at z
      rw [hp] at q; cases q
    by_cases z1 : j = i
    · by_cases z2 : k = i
      · rw [z1, z2]
      · rw [z1, onn_self] at h1
        cases h1
        rw [onn_ne z2] at h2
        exact (key k z2 h2).elim
    · by_cases z2 : k = i
      · rw [z2, onn_self] at h2
        cases h2
        rw [onn_ne z1] at h1
        exact (key j z1 h1).elim
      · rw [onn_ne z1] at h1
        rw [onn_ne z2] at h2
        exact R.uniq j k a h1 h2
  kept := fun b o n h => e b o (R.kept b o n h)
  fo := fun b h => let ⟨o, q⟩ := R.fo b h; ⟨o, e b o q⟩
  new := fun j a h => by
    by_cases z : j = i
    · subst z; rw [onn_self] at h; cases h; exact .inl hn
    · rw [onn_ne z] at h; exact R.new j a h
  nofo := fun j a h => by
    by_cases z : j = i
    · subst z
      rw [onn_self] at h
      cases h
      exact .inr fun q => by
        obtain ⟨o, q⟩ := R.fo _ q
        rw [hp] at q
        cases q
    · rw [onn_ne z] at h
      exact R.nofo j a h
  io := fun q hq => by
    obtain ⟨es, q'⟩ := R.io q hq
    by_cases z : i = q.1
    · rw [← z] at q'; exact absurd q' (hi es)
    · exact ⟨es, by rw [List.getElem?_set_ne z]; exact q'⟩
  one := R.one
  keep := fun q hq => ⟨e _ _ (R.keep q hq).1, fun j z => by
    by_cases k : j = i
    · subst k
      rw [onn_self] at z
      have q1 := (R.keep q hq).1
      rw [← Option.some.inj z, hp] at q1
      cases q1
    · rw [onn_ne k] at z; exact (R.keep q hq).2 j z⟩
  pin := fun q hq => ((R.pin q hq).more hp own_onn).mono (Stp.of e)
/-- the def's own list is from now on read alone -/
theorem Rel.freeze (R : Rel K A Ow σ H ρ) {i : Nat} {cs : List D} (h : ρ[i]? = some (.ol cs)) : Rel K A (off Ow i) σ H (ρ.set i (.sh (.list cs))) := by
  obtain ⟨a, xs, h1, h2, h3, h4, h5⟩ := R.sl i _ h
  have hi : ∀ ds, ρ[i]? ≠ some (.io ds) := fun ds z => by rw [h] at z; cases z
  have q := R.put (i := i) (x := some (.ref a)) (s := .sh (.list cs)) hi ⟨rfl, _, rfl, .lst (.inl ⟨fun z => ?_, .inl h3⟩) (h4.less own_off)⟩
  · have hl : i < σ.length := by
      rw [R.len]
      exact (List.getElem?_eq_some_iff.mp h).1
    have es : σ.set i (some (.ref a)) = σ := by
      rw [List.getElem?_eq_some_iff] at h2
      obtain ⟨_, h2⟩ := h2
      rw [← h2]
      exact List.set_getElem_self hl
    rw [es] at q
    exact q
  · rcases z with z | ⟨j, z⟩
    · rcases R.nofo i a h1 with q | q
      · exact h5 a q
      · exact q z
    · exact (off_some z).1 (R.uniq j i a (off_some z).2 h1)
end

/-! ### judgements: a PE whose reading speaks of data -/
abbrev DE := Env → (D → Env → Prop) → Prop
abbrev DT := Env → (Bool → Env → Prop) → Prop
abbrev DA := Env → (List D → Env → Prop) → Prop
abbrev DF := Env → (List D → Env → Prop) → Prop
structure DEnds where
  nx : Env → Prop
  rt : D → Env → Prop
  bk : Env → Prop := fun _ => False
  ct : Env → Prop := fun _ => False
  rf : List D → Env → Prop := fun _ _ => False
abbrev DS := DEnds → Env → Prop
/-- p belongs to others -/
def Act.fo (A : Act) (p : Addr) : Act := { A with FO := fun b => A.FO b ∨ b = p }
/-- p is new: it was not there at the entry, nobody holds it -/
structure Nw (A : Act) (Ow : Nat → Option Addr) (p : Addr) : Prop where
  h0 : A.H0 p = none
  no : ¬ own A.FO Ow p
  kp : ∀ q ∈ A.keep, q.1 ≠ p
def lam (K : PySem.W.Frag) (te : DE) : TE := fun σ H Q => ∃ A Ow ρ R, Rel K A Ow σ H ρ ∧ te ρ R ∧ ∀ v H' d ρ', Stp (own A.FO Ow) H H' → Rel K A Ow σ H' ρ' → Rp K (own A.FO Ow) H' v d → R d ρ' → Q v H'
def lamT (K : PySem.W.Frag) (tt : DT) : TT := fun σ H Q => ∃ A Ow ρ R, Rel K A Ow σ H ρ ∧ tt ρ R ∧ ∀ b H' ρ', Stp (own A.FO Ow) H H' → Rel K A Ow σ H' ρ' → R b ρ' → Q b H'
def lamA (K : PySem.W.Frag) (ta : DA) : TA := fun σ H Q => ∃ A Ow ρ R, Rel K A Ow σ H ρ ∧ ta ρ R ∧ ∀ vs H' ds ρ', Stp (own A.FO Ow) H H' → Rel K A Ow σ H' ρ' → RpA K (own A.FO Ow) H' vs ds → R ds ρ' → Q vs H'
/-- a new list -/
def lamF (K : PySem.W.Frag) (tf : DF) : TE := fun σ H Q => ∃ A Ow ρ R, Rel K A Ow σ H ρ ∧ tf ρ R ∧ ∀ p H' xs cs ρ', Stp (own A.FO Ow) H H' → Nw A Ow p → H' p = some (.lst xs) → Rel K (A.fo p) Ow σ H' ρ' → RpA K (own (A.fo p).FO Ow) H' xs cs → R cs ρ' → Q (.ref p) H'
def lamS (K : PySem.W.Frag) (ts : DS) : TS := fun D σ H => ∃ A Ow ρ DD, Rel K A Ow σ H ρ ∧ ts DD ρ ∧ (∀ Ow' σ' H' ρ', Rel K A Ow' σ' H' ρ' → DD.nx ρ' → D.nx σ' H') ∧ (∀ Ow' σ' H' ρ', Rel K A Ow' σ' H' ρ' → DD.bk ρ' → D.bk σ' H') ∧
  (∀ Ow' σ' H' ρ', Rel K A Ow' σ' H' ρ' → DD.ct ρ' → D.ct σ' H') ∧ ((∀ Ow' σ' H' ρ' v d, Rel K A Ow' σ' H' ρ' → Rp K (own A.FO Ow') H' v d → DD.rt d ρ' → D.rt v H') ∧
  ∀ Ow' σ' H' ρ' p xs cs, Nw A Ow' p → H' p = some (.lst xs) → Rel K (A.fo p) Ow' σ' H' ρ' → RpA K (own (A.fo p).FO Ow') H' xs cs → DD.rf cs ρ' → D.rt (.ref p) H')
def QE (X : Cx) (e : Expr) (te : DE) : Prop := PE X e (lam X.K te)
def QT (X : Cx) (e : Expr) (tt : DT) : Prop := PT X e (lamT X.K tt)
def QW (X : Cx) (e : Expr) (tt : DT) : Prop := PW X e (lamT X.K tt)
def QA (X : Cx) (es : List Expr) (ta : DA) : Prop := PA X es (lamA X.K ta)
def QF (X : Cx) (e : Expr) (tf : DF) : Prop := PE X e (lamF X.K tf)
def QS (X : Cx) (st : Stmt) (ts : DS) : Prop := PS X st (lamS X.K ts)
def QSs (X : Cx) (st : List Stmt) (ts : DS) : Prop := PSs X st (lamS X.K ts)
section
variable {X : Cx} {e : Expr}
theorem pe_less {t t' : TE} (h : PE X e t) (k : ∀ σ H Q, t' σ H Q → t σ H Q) : PE X e t' := ⟨fun pins s σ H Q I q => h.run pins s σ H Q I (k σ H Q q)⟩
theorem pt_less {t t' : TT} (h : PT X e t) (k : ∀ σ H Q, t' σ H Q → t σ H Q) : PT X e t' := ⟨fun pins s σ H Q I q => h.run pins s σ H Q I (k σ H Q q)⟩
theorem pw_less {t t' : TT} (h : PW X e t) (k : ∀ σ H Q, t' σ H Q → t σ H Q) : PW X e t' := ⟨fun wh pins s σ H Q I q => h.run wh pins s σ H Q I (k σ H Q q)⟩
theorem pa_less {es : List Expr} {t t' : TA} (h : PA X es t) (k : ∀ σ H Q, t' σ H Q → t σ H Q) : PA X es t' := ⟨fun pos pins s σ H Q I q => h.run pos pins s σ H Q I (k σ H Q q)⟩
theorem ps_less {st : Stmt} {t t' : TS} (h : PS X st t) (k : ∀ D σ H, t' D σ H → t D σ H) : PS X st t' := ⟨fun pins s σ H D I q => h.run pins s σ H D I (k D σ H q)⟩
theorem pss_less {st : List Stmt} {t t' : TS} (h : PSs X st t) (k : ∀ D σ H, t' D σ H → t D σ H) : PSs X st t' := ⟨fun pins s σ H D I q => h.run pins s σ H D I (k D σ H q)⟩
end

/-! ### the primitive steps of the state -/
section
variable {K : PySem.W.Frag} {A : Act} {Ow : Nat → Option Addr} {σ : L2.St} {H H' : Hp} {ρ : Env}
theorem own_fo {p : Addr} : ∀ b, own (A.fo p).FO Ow b → own A.FO Ow b ∨ b = p := fun b z => by
  rcases z with (z | z) | z
  · exact .inl (.inl z)
  · exact .inr z
  · exact .inl (.inr z)
theorem own_fo' {p : Addr} : ∀ b, own A.FO Ow b → own (A.fo p).FO Ow b := fun b z => by
  rcases z with z | z
  · exact .inl (.inl z)
  · exact .inr z
/-- a new object p; p is to be nobody's -/
theorem Rel.alloc (R : Rel K A Ow σ H ρ) {p : Addr} (hp : H p = none) (e : Same H H') (ht : ∃ o, H' p = some o) : Rel K (A.fo p) Ow σ H' ρ where
  len := R.len
  sl := fun i s h => by
    have q := R.sl i s h
    cases s with
    | no => exact q
    | sh d =>
      obtain ⟨h1, v, h2, h3⟩ := q
      exact ⟨h1, v, h2, (h3.more hp own_fo).mono (Stp.of e)⟩
    | ol ds =>
      obtain ⟨a, xs, h1, h2, h3, h4, h5⟩ := q
      exact ⟨a, xs, h1, h2, e _ _ h3, (h4.more hp own_fo).mono (Stp.of e), h5⟩
    | io ds =>
      obtain ⟨a, xs, h1, h2, h3, h4, h5⟩ := q
      exact ⟨a, xs, h1, h2, e _ _ h3, (h4.more hp own_fo).mono (Stp.of e), h5⟩
  out := R.out
  uniq := R.uniq
  kept := fun b o n h => e b o (R.kept b o n h)
  fo := fun b h => by
    rcases h with h | h
    · obtain ⟨o, q⟩ := R.fo b h
      exact ⟨o, e b o q⟩
    · subst h; exact ht
  new := R.new
  nofo := fun i a h => by
    rcases R.nofo i a h with q | q
    · exact .inl q
    · refine .inr fun z => ?_
      rcases z with z | z
      · exact q z
      · subst z
        obtain ⟨_, k, _⟩ := R.at h
        rw [hp] at k; cases k
  io := R.io
  one := R.one
  keep := fun p h => ⟨e _ _ (R.keep p h).1, (R.keep p h).2⟩
  pin := fun q h => ((R.pin q h).more hp own_fo).mono (Stp.of e)
theorem Rel.unfo {p : Addr} (R : Rel K (A.fo p) Ow σ H ρ) : Rel K A Ow σ H ρ where
  len := R.len
  sl := fun i s h => (R.sl i s h).less own_fo'
  out := R.out
  uniq := R.uniq
  kept := R.kept
  fo := fun b h => R.fo b (.inl h)
  new := R.new
  nofo := fun i a h => (R.nofo i a h).imp id fun q z => q (.inl z)
  io := R.io
  one := R.one
  keep := R.keep
  pin := fun q h => (R.pin q h).less own_fo'
/-- a new list that nobody holds goes into the slot i -/
theorem Rel.take {p : Addr} (R : Rel K (A.fo p) Ow σ H ρ) {i : Nat} {xs : List V} {cs : List D} (hi : ∀ ds, ρ[i]? ≠ some (.io ds)) (hl : i < ρ.length) (np : Nw A Ow p) (ha : H p = some (.lst xs)) (hc : RpA K (own (A.fo p).FO Ow) H xs cs) :
    Rel K A (onn Ow i p) (σ.set i (some (.ref p))) H (ρ.set i (.ol cs)) := by
  have lessO : ∀ b, own A.FO (onn Ow i p) b → own (A.fo p).FO Ow b := fun b z => by
    rcases own_onn b z with z | z
    · exact own_fo' b z
    · exact .inl (.inr z)
  have hp := np.no
  have hn := np.h0
  have np' : ∀ j, Ow j ≠ some p := fun j z => hp (.inr ⟨j, z⟩)
  have hio : ∀ b, (i, b) ∉ A.io := fun b hb => by
    obtain ⟨ds, q⟩ := R.io _ hb
    exact hi ds q
  refine ⟨by rw [List.length_set, List.length_set]; exact R.len, fun j t hj => ?_, fun j hj => ?_, fun j k a h1 h2 => ?_, R.kept, fun b h => R.fo b (.inl h), fun j a h => ?_, fun j a h => ?_, fun q hq => ?_, R.one, fun q hq => ⟨(R.keep q hq).1, fun j z => ?_⟩, fun q hq => (R.pin q hq).less lessO⟩
  · by_cases hij : i = j
    · subst hij
      rw [List.getElem?_set_self hl] at hj
      cases hj
      rw [List.getElem?_set_self (by rw [R.len]; exact hl), onn_self]
      exact ⟨p, xs, rfl, rfl, ha, hc.less lessO, hio⟩
    · rw [List.getElem?_set_ne hij] at hj
      rw [List.getElem?_set_ne hij, onn_ne (Ne.symm hij)]
      exact (R.sl j t hj).less lessO
  · rw [List.length_set] at hj
    rw [onn_ne (by omega)]
    exact R.out j hj
  · by_cases z1 : j = i
    · by_cases z2 : k = i
      · rw [z1, z2]
      · rw [z1, onn_self] at h1
        cases h1
        rw [onn_ne z2] at h2
        exact (np' k h2).elim
    · by_cases z2 : k = i
      · rw [z2, onn_self] at h2
        cases h2
        rw [onn_ne z1] at h1
        exact (np' j h1).elim
      · rw [onn_ne z1] at h1
        rw [onn_ne z2] at h2
        exact R.uniq j k a h1 h2
  · by_cases z : j = i
    · subst z; rw [onn_self] at h; cases h; exact .inl hn
    · rw [onn_ne z] at h; exact R.new j a h
  · by_cases z : j = i
    · subst z; rw [onn_self] at h; cases h
      exact .inr fun q => hp (.inl q)
    · rw [onn_ne z] at h
      exact (R.nofo j a h).imp id fun q z => q (.inl z)
  · obtain ⟨es, q'⟩ := R.io q hq
    by_cases z : i = q.1
    · rw [← z] at q'; exact absurd q' (hi es)
    · exact ⟨es, by rw [List.getElem?_set_ne z]; exact q'⟩
  · by_cases k : j = i
    · subst k
      rw [onn_self] at z
      exact np.kp q hq (Option.some.inj z).symm
    · rw [onn_ne k] at z; exact (R.keep q hq).2 j z

theorem Rel.nw (R : Rel K A Ow σ H ρ) {p : Addr} (hp : H p = none) : Nw A Ow p where
  h0 := by
    cases q : A.H0 p with
    | none => rfl
    | some o =>
      by_cases h : ∃ i, (i, p) ∈ A.io
      · obtain ⟨i, h⟩ := h
        obtain ⟨ds, e⟩ := R.io _ h
        obtain ⟨a, xs, h1, h2, h3, h4, h5⟩ := R.sl i _ e
        have z := R.one i a p h5 h
        rw [z, hp] at h3
        cases h3
      · have z := R.kept p o (fun i hi => h ⟨i, hi⟩) q
        rw [hp] at z
        cases z
  no := R.fresh hp
  kp := fun q hq z => by
    have k := (R.keep q hq).1
    rw [z, hp] at k
    cases k
theorem Rel.pins (R : Rel K A Ow σ H ρ) {P : List (List V × List D)} (h : ∀ p ∈ P, RpA K (own A.FO Ow) H p.1 p.2) : Rel K { A with pin := P ++ A.pin } Ow σ H ρ :=
  ⟨R.len, R.sl, R.out, R.uniq, R.kept, R.fo, R.new, R.nofo, R.io, R.one, R.keep, fun p hp => (List.mem_append.mp hp).elim (h p) (R.pin p)⟩
theorem Rel.unpin {P : List (List V × List D)} (R : Rel K { A with pin := P ++ A.pin } Ow σ H ρ) : Rel K A Ow σ H ρ :=
  ⟨R.len, R.sl, R.out, R.uniq, R.kept, R.fo, R.new, R.nofo, R.io, R.one, R.keep, fun p hp => R.pin p (List.mem_append_right _ hp)⟩
theorem Rel.nil (R : Rel K A Ow σ H ρ) : Rel K { A with pin := [] ++ A.pin } Ow σ H ρ := R.pins fun _ z => nomatch z
/-- what is new is data as well -/
theorem Nw.rp {p : Addr} {xs : List V} {cs : List D} (n : Nw A Ow p) (h : H p = some (.lst xs)) (hc : RpA K (own (A.fo p).FO Ow) H xs cs) : Rp K (own A.FO Ow) H (.ref p) (.list cs) :=
  .lst (.inl ⟨n.no, .inl h⟩) (hc.less own_fo')
theorem Same.new {p : Addr} {o : HO} (h : H p = none) : Same H (upd H p o) := fun b u e => by
  rw [upd_ne (ne_of_none e h)]
  exact e
end

/-! ### expressions -/
section
variable {X : Cx} {e : Expr} {pos : Pos}
def dVar (i : Nat) : DE := fun ρ Q => match ρ[i]? with
  | some (.sh d) => Q d ρ
  | _ => False
theorem qe_var (i : Nat) {x : Str} (hN : X.N[i]? = some x := by rfl) (hv : Vis X.env.scope x := by first | exact Or.inl rfl | exact Or.inr (Or.inl rfl) | exact Or.inr (Or.inr rfl)) (hd : (x == ("__debug__" : Str)) = false := by decide)
    (hcd : (x == ("__classdict__" : Str)) = false := by decide) : QE X (.Name x pos) (dVar i) := pe_less (pv i hN hv hd hcd) fun σ H Q ⟨A, Ow, ρ, R, rel, h, k⟩ => by
  unfold dVar at h
  split at h
  · rename_i d hs
    obtain ⟨_, v, h1, h2⟩ := rel.sl i _ hs
    exact ⟨v, h1, k v H d ρ Stp.refl rel h2 h⟩
  · exact h.elim
def dC (d : D) : DE := fun ρ Q => Q d ρ
theorem qe_cst {v : V} {d : D} (h : PE X e (tC v)) (r : ∀ K O H, Rp K O H v d) : QE X e (dC d) := pe_less h fun σ H Q ⟨A, Ow, ρ, R, rel, h, k⟩ => k v H d ρ Stp.refl rel (r _ _ _) h
theorem qe_int {i j} : QE X (.Constant (.int i) j pos) (dC (.int i)) := qe_cst pe_int fun _ _ _ => .int i
theorem qe_bl {b j} : QE X (.Constant (.bool b) j pos) (dC (.bool b)) := qe_cst pe_bl fun _ _ _ => .bl b
theorem qe_non {j} : QE X (.Constant .none j pos) (dC .none) := qe_cst pe_non fun _ _ _ => .non
theorem qe_str {x j} : QE X (.Constant (.str x) j pos) (dC (.str x)) := qe_cst pe_str fun _ _ _ => .str x
/-- operations on values: r on values, rd on data -/
def Lift2 (K : PySem.W.Frag) (r : R2) (rd : D → D → (D → Prop) → Prop) : Prop := ∀ (O : Addr → Prop) (H : Hp) (x y : V) (d e : D) (R : D → Prop) (Q : VK), (∀ a, O a → ∃ o, H a = some o) → Rp K O H x d → Rp K O H y e → rd d e R → (∀ v H' z, Same H H' → Rp K O H' v z → R z → Q v H') → r x y H Q
def Lift1 (K : PySem.W.Frag) (r : V → Hp → VK → Prop) (rd : D → (D → Prop) → Prop) : Prop := ∀ (O : Addr → Prop) (H : Hp) (x : V) (d : D) (R : D → Prop) (Q : VK), (∀ a, O a → ∃ o, H a = some o) → Rp K O H x d → rd d R → (∀ v H' z, Same H H' → Rp K O H' v z → R z → Q v H') → r x H Q
def LiftC (K : PySem.W.Frag) (r : List V → Hp → VK → Prop) (rd : List D → (D → Prop) → Prop) : Prop := ∀ (O : Addr → Prop) (H : Hp) (xs : List V) (ds : List D) (R : D → Prop) (Q : VK), (∀ a, O a → ∃ o, H a = some o) → RpA K O H xs ds → rd ds R → (∀ v H' z, Same H H' → Rp K O H' v z → R z → Q v H') → r xs H Q
def dOp (rd : D → D → (D → Prop) → Prop) (ta tb : DE) : DE := fun ρ Q => ta ρ fun d ρ1 => tb ρ1 fun e ρ2 => rd d e fun z => Q z ρ2
theorem lam_op {r : R2} {rd : D → D → (D → Prop) → Prop} {ta tb : DE} {K : PySem.W.Frag} (hr : Lift2 K r rd) (σ : L2.St) (H : Hp) (Q : VK) : lam K (dOp rd ta tb) σ H Q → tOp r (lam K ta) (lam K tb) σ H Q := fun ⟨A, Ow, ρ, R, rel, h, k⟩ =>
  ⟨A, Ow, ρ, _, rel, h, fun x H1 d ρ1 e1 rel1 rp1 h1 => ⟨A, Ow, ρ1, _, rel1, h1, fun y H2 e ρ2 e2 rel2 rp2 h2 =>
    hr (own A.FO Ow) H2 x y d e _ Q (fun a ha => rel2.tracked ha) (rp1.mono e2) rp2 h2 fun v H3 z e3 rp3 q3 => k v H3 z ρ2 ((e1.trans e2).trans (Stp.of e3)) (rel2.ext e3) rp3 q3⟩⟩
theorem qe_op {op : Operator} {r : R2} {rd : D → D → (D → Prop) → Prop} {a b : Expr} {ta tb : DE} (ho : OpR X (binaryOp op) r) (hr : Lift2 X.K r rd) (ha : QE X a ta) (hb : QE X b tb) : QE X (.BinOp a op b pos) (dOp rd ta tb) := pe_less (pe_op ho ha hb) (lam_op hr)
theorem qe_cmpR {op : CmpOp} {r : R2} {rd : D → D → (D → Prop) → Prop} {a b : Expr} {ta tb : DE} (ho : OpR X (compareOp op) r) (hr : Lift2 X.K r rd) (ha : QE X a ta) (hb : QE X b tb) (hm : behindInMarks op b = false) : QE X (.Compare a [op] [b] pos) (dOp rd ta tb) := pe_less (pe_cmpR ho ha hb hm) (lam_op hr)
def dTest (te : DE) : DT := fun ρ Q => te ρ fun d ρ' => ∃ b, d = .bool b ∧ Q b ρ'
theorem rp_bool {K : PySem.W.Frag} {O : Addr → Prop} {H : Hp} {v : V} {b : Bool} (h : Rp K O H v (.bool b)) : v = .bl b := by cases h; rfl
theorem rp_int {K : PySem.W.Frag} {O : Addr → Prop} {H : Hp} {v : V} {i : Int} (h : Rp K O H v (.int i)) : v = .int i := by cases h; rfl
theorem rp_str {K : PySem.W.Frag} {O : Addr → Prop} {H : Hp} {v : V} {x : Str} (h : Rp K O H v (.str x)) : v = .str x := by cases h; rfl
theorem rp_non {K : PySem.W.Frag} {O : Addr → Prop} {H : Hp} {v : V} (h : Rp K O H v .none) : v = .non := by cases h; rfl
theorem lam_test {te : DE} {K : PySem.W.Frag} (σ : L2.St) (H : Hp) (Q : Bool → Hp → Prop) : lamT K (dTest te) σ H Q → (lam K te) σ H fun x H' => ∃ k, x = .bl k ∧ Q k H' := fun ⟨A, Ow, ρ, R, rel, h, k⟩ =>
  ⟨A, Ow, ρ, _, rel, h, fun v H' d ρ' e' rel' rp' ⟨b, hb, h'⟩ => ⟨b, rp_bool (hb ▸ rp'), k b H' ρ' e' rel' h'⟩⟩
theorem qt_cmpR {op : CmpOp} {r : R2} {rd : D → D → (D → Prop) → Prop} {a b : Expr} {ta tb : DE} (ho : OpR X (compareOp op) r) (hr : Lift2 X.K r rd) (ha : QE X a ta) (hb : QE X b tb) (hm : behindInMarks op b = false) : QT X (.Compare a [op] [b] pos) (dTest (dOp rd ta tb)) :=
  pt_less (pt_cmpR ho ha hb hm) fun σ H Q h => by
    obtain ⟨A, Ow, ρ, R, rel, h, k⟩ := lam_test σ H Q h
    exact lam_op hr σ H _ ⟨A, Ow, ρ, R, rel, h, k⟩
theorem qt_val {te : DE} (h : QE X e te) (he : ∀ whole, isTrue e X.env whole = (do let v ← whole; standAt e.pos; holding [v] (truthy v)) := by intro _; rfl) : QT X e (dTest te) := pt_less (pt_val h he) lam_test
theorem qe_un {op : UnaryOp} {a : Expr} {ta : DE} {r : V → Hp → VK → Prop} {rd : D → (D → Prop) → Prop} (ho : UnR X (unaryOp op) r) (hr : Lift1 X.K r rd) (ha : QE X a ta) : QE X (.UnaryOp op a pos) (fun ρ Q => ta ρ fun d ρ1 => rd d fun z => Q z ρ1) :=
  pe_less (pe_un ho ha) fun σ H Q ⟨A, Ow, ρ, R, rel, h, k⟩ => ⟨A, Ow, ρ, _, rel, h, fun x H1 d ρ1 e1 rel1 rp1 h1 =>
    hr (own A.FO Ow) H1 x d _ Q (fun a ha => rel1.tracked ha) rp1 h1 fun v H3 z e3 rp3 q3 => k v H3 z ρ1 (e1.trans (Stp.of e3)) (rel1.ext e3) rp3 q3⟩
/-! and, or, not, if -/
def dAnd (t u : DT) : DT := fun ρ Q => t ρ fun c ρ1 => (c = true → u ρ1 Q) ∧ (c = false → Q false ρ1)
def dOr (t u : DT) : DT := fun ρ Q => t ρ fun c ρ1 => (c = true → Q true ρ1) ∧ (c = false → u ρ1 Q)
def dNot (t : DT) : DT := fun ρ Q => t ρ fun c ρ1 => Q (!c) ρ1
variable {a b : Expr} {rest : List Expr} {t u : DT} {ta tb : DE}
theorem qw_and1 (ha : QT X a t) : QW X (.BoolOp .And [a] pos) t := pw_and1 ha
theorem qw_or1 (ha : QT X a t) : QW X (.BoolOp .Or [a] pos) t := pw_or1 ha
theorem qw_and (ha : QT X a t) (hb : QW X (.BoolOp .And (b :: rest) pos) u) : QW X (.BoolOp .And (a :: b :: rest) pos) (dAnd t u) := pw_less (pw_and ha hb) fun σ H Q ⟨A, Ow, ρ, R, rel, h, k⟩ =>
  ⟨A, Ow, ρ, _, rel, h, fun c H1 ρ1 e1 rel1 ⟨h1, h2⟩ => by
    cases c with
    | true => exact (if_pos rfl).mpr ⟨A, Ow, ρ1, R, rel1, h1 rfl, fun b H2 ρ2 e2 rel2 h2 => k b H2 ρ2 (e1.trans e2) rel2 h2⟩
    | false => exact (if_neg Bool.false_ne_true).mpr (k false H1 ρ1 e1 rel1 (h2 rfl))⟩
theorem qw_or (ha : QT X a t) (hb : QW X (.BoolOp .Or (b :: rest) pos) u) : QW X (.BoolOp .Or (a :: b :: rest) pos) (dOr t u) := pw_less (pw_or ha hb) fun σ H Q ⟨A, Ow, ρ, R, rel, h, k⟩ =>
  ⟨A, Ow, ρ, _, rel, h, fun c H1 ρ1 e1 rel1 ⟨h1, h2⟩ => by
    cases c with
    | true => exact (if_pos rfl).mpr (k true H1 ρ1 e1 rel1 (h1 rfl))
    | false => exact (if_neg Bool.false_ne_true).mpr ⟨A, Ow, ρ1, R, rel1, h2 rfl, fun b H2 ρ2 e2 rel2 h2 => k b H2 ρ2 (e1.trans e2) rel2 h2⟩⟩
theorem qt_bool (h : QW X e t) : QT X e t := PW.pt h
theorem qt_not (ha : QT X a t) : QT X (.UnaryOp .Not a pos) (dNot t) := pt_less (pt_not ha) fun σ H Q ⟨A, Ow, ρ, R, rel, h, k⟩ =>
  ⟨A, Ow, ρ, _, rel, h, fun c H1 ρ1 e1 rel1 h1 => k (!c) H1 ρ1 e1 rel1 h1⟩
/-- as values (bools) -/
def dAndV (ta tb : DE) : DE := fun ρ Q => ta ρ fun d ρ1 => ∃ c, d = .bool c ∧ (c = true → tb ρ1 Q) ∧ (c = false → Q (.bool false) ρ1)
def dOrV (ta tb : DE) : DE := fun ρ Q => ta ρ fun d ρ1 => ∃ c, d = .bool c ∧ (c = true → Q (.bool true) ρ1) ∧ (c = false → tb ρ1 Q)
def dNotV (ta : DE) : DE := fun ρ Q => ta ρ fun d ρ1 => ∃ c, d = .bool c ∧ Q (.bool !c) ρ1
theorem qe_one {op} (h : QE X a ta) : QE X (.BoolOp op [a] pos) ta := pe_one h
theorem qe_and (ha : QE X a ta) (hb : QE X (.BoolOp .And (b :: rest) pos) tb) : QE X (.BoolOp .And (a :: b :: rest) pos) (dAndV ta tb) := pe_less (pe_and ha hb) fun σ H Q ⟨A, Ow, ρ, R, rel, h, k⟩ =>
  ⟨A, Ow, ρ, _, rel, h, fun x H1 d ρ1 e1 rel1 rp1 ⟨c, hc, h1, h2⟩ => ⟨c, rp_bool (hc ▸ rp1), by
    cases c with
    | true => exact (if_pos rfl).mpr ⟨A, Ow, ρ1, R, rel1, h1 rfl, fun v H2 z ρ2 e2 rel2 rp2 h2 => k v H2 z ρ2 (e1.trans e2) rel2 rp2 h2⟩
    | false => exact (if_neg Bool.false_ne_true).mpr (k _ H1 _ ρ1 e1 rel1 (.bl false) (h2 rfl))⟩⟩
theorem qe_or (ha : QE X a ta) (hb : QE X (.BoolOp .Or (b :: rest) pos) tb) : QE X (.BoolOp .Or (a :: b :: rest) pos) (dOrV ta tb) := pe_less (pe_or ha hb) fun σ H Q ⟨A, Ow, ρ, R, rel, h, k⟩ =>
  ⟨A, Ow, ρ, _, rel, h, fun x H1 d ρ1 e1 rel1 rp1 ⟨c, hc, h1, h2⟩ => ⟨c, rp_bool (hc ▸ rp1), by
    cases c with
    | true => exact (if_pos rfl).mpr (k _ H1 _ ρ1 e1 rel1 (.bl true) (h1 rfl))
    | false => exact (if_neg Bool.false_ne_true).mpr ⟨A, Ow, ρ1, R, rel1, h2 rfl, fun v H2 z ρ2 e2 rel2 rp2 h2 => k v H2 z ρ2 (e1.trans e2) rel2 rp2 h2⟩⟩⟩
theorem qe_not (ha : QE X a ta) : QE X (.UnaryOp .Not a pos) (dNotV ta) := pe_less (pe_not ha) fun σ H Q ⟨A, Ow, ρ, R, rel, h, k⟩ =>
  ⟨A, Ow, ρ, _, rel, h, fun x H1 d ρ1 e1 rel1 rp1 ⟨c, hc, h1⟩ => ⟨c, rp_bool (hc ▸ rp1), k _ H1 _ ρ1 e1 rel1 (.bl _) h1⟩⟩
def dIf (t : DT) (ta tb : DE) : DE := fun ρ Q => t ρ fun c ρ1 => (c = true → ta ρ1 Q) ∧ (c = false → tb ρ1 Q)
theorem qe_if {c : Expr} (hc : QT X c t) (ha : QE X a ta) (hb : QE X b tb) : QE X (.IfExp c a b pos) (dIf t ta tb) := pe_less (pe_ifExp hc ha hb) fun σ H Q ⟨A, Ow, ρ, R, rel, h, k⟩ =>
  ⟨A, Ow, ρ, _, rel, h, fun c H1 ρ1 e1 rel1 ⟨h1, h2⟩ => by
    cases c with
    | true => exact (if_pos rfl).mpr ⟨A, Ow, ρ1, R, rel1, h1 rfl, fun v H2 z ρ2 e2 rel2 rp2 h2 => k v H2 z ρ2 (e1.trans e2) rel2 rp2 h2⟩
    | false => exact (if_neg Bool.false_ne_true).mpr ⟨A, Ow, ρ1, R, rel1, h2 rfl, fun v H2 z ρ2 e2 rel2 rp2 h2 => k v H2 z ρ2 (e1.trans e2) rel2 rp2 h2⟩⟩
/-! lists of arguments, tuples, lists -/
def dNil : DA := fun ρ Q => Q [] ρ
def dCons (ta : DE) (tr : DA) : DA := fun ρ Q => ta ρ fun d ρ1 => tr ρ1 fun ds ρ2 => Q (d :: ds) ρ2
theorem qa_nil : QA X [] dNil := pa_less pa_nil fun σ H Q ⟨A, Ow, ρ, R, rel, h, k⟩ => k [] H [] ρ Stp.refl rel .nil h
theorem qa_cons {es : List Expr} {tr : DA} (ha : QE X a ta) (hr : QA X es tr) (hs : starEach (a :: es) X.env = (false, eval a X.env) :: starEach es X.env := by rfl) : QA X (a :: es) (dCons ta tr) := pa_less (pa_cons ha hr hs) fun σ H Q ⟨A, Ow, ρ, R, rel, h, k⟩ =>
  ⟨A, Ow, ρ, _, rel, h, fun x H1 d ρ1 e1 rel1 rp1 h1 => ⟨A, Ow, ρ1, _, rel1, h1, fun xs H2 ds ρ2 e2 rel2 rp2 h2 => k _ H2 _ ρ2 (e1.trans e2) rel2 (.cons (rp1.mono e2) rp2) h2⟩⟩
def dTup (ta : DA) : DE := fun ρ Q => ta ρ fun ds ρ1 => ds.length ≤ sizeLine ∧ Q (.tuple ds) ρ1
theorem qe_tup {es : List Expr} {x1} {ta : DA} (h : QA X es ta) : QE X (.Tuple es x1 pos) (dTup ta) := pe_less (pe_tup h) fun σ H Q ⟨A, Ow, ρ, R, rel, h, k⟩ =>
  ⟨A, Ow, ρ, _, rel, h, fun xs H1 ds ρ1 e1 rel1 rp1 ⟨h1, h2⟩ => ⟨by rw [rp1.len]; exact h1, fun p hp =>
    k _ _ _ ρ1 (e1.trans (Stp.of (Same.new hp))) (rel1.ext (Same.new hp)) (.tup (.inl ⟨rel1.fresh hp, .inl upd_same⟩) (rp1.mono (Stp.of (Same.new hp)))) h2⟩⟩
def dLst (ta : DA) : DF := fun ρ Q => ta ρ fun ds ρ1 => ds.length ≤ sizeLine ∧ Q ds ρ1
theorem qf_lst {es : List Expr} {ta : DA} (h : QA X es ta) : QF X (.List es pos) (dLst ta) := pe_less (pe_lst h) fun σ H Q ⟨A, Ow, ρ, R, rel, h, k⟩ =>
  ⟨A, Ow, ρ, _, rel, h, fun xs H1 ds ρ1 e1 rel1 rp1 ⟨h1, h2⟩ => ⟨by rw [rp1.len]; exact h1, fun p hp =>
    k p _ xs ds ρ1 (e1.trans (Stp.of (Same.new hp))) (rel1.nw hp) upd_same (rel1.alloc hp (Same.new hp) ⟨_, upd_same⟩) ((rp1.more hp own_fo).mono (Stp.of (Same.new hp))) h2⟩⟩
/-- a new list as a value -/
def dFr (tf : DF) : DE := fun ρ Q => tf ρ fun ds ρ1 => Q (.list ds) ρ1
theorem qe_fr {tf : DF} (h : QF X e tf) : QE X e (dFr tf) := pe_less h fun σ H Q ⟨A, Ow, ρ, R, rel, h, k⟩ =>
  ⟨A, Ow, ρ, _, rel, h, fun p H1 xs cs ρ1 e1 n hp rel1 rp1 h1 => k _ H1 _ ρ1 e1 rel1.unfo (n.rp hp rp1) h1⟩
/-! calls of what is known -/
def dCB (rd : List D → (D → Prop) → Prop) (ta : DA) : DE := fun ρ Q => ta ρ fun ds ρ1 => rd ds fun z => Q z ρ1
theorem lam_cb {r : List V → Hp → VK → Prop} {rd : List D → (D → Prop) → Prop} {ta : DA} {K : PySem.W.Frag} (hr : LiftC K r rd) (σ : L2.St) (H : Hp) (Q : VK) : lam K (dCB rd ta) σ H Q → tCB r (lamA K ta) σ H Q := fun ⟨A, Ow, ρ, R, rel, h, k⟩ =>
  ⟨A, Ow, ρ, _, rel, h, fun xs H1 ds ρ1 e1 rel1 rp1 h1 => hr (own A.FO Ow) H1 xs ds _ Q (fun a ha => rel1.tracked ha) rp1 h1 fun v H3 z e3 rp3 q3 => k v H3 z ρ1 (e1.trans (Stp.of e3)) (rel1.ext e3) rp3 q3⟩
theorem qe_callB {id : String} {r : List V → Hp → VK → Prop} {rd : List D → (D → Prop) → Prop} {x : Str} {es : List Expr} {ta : DA} {p : Pos} (hc : CallR X (.builtin id) r) (hr : LiftC X.K r rd) (hg : Gl X x) (hm : X.mg x = none) (hv : bootBuiltins x = some (.builtin id)) (ha : QA X (e :: es) ta) (hn : x ≠ "__name__" := by decide) (hdb : (x == ("__debug__" : Str)) = false := by decide)
    (he : starEach (e :: es) X.env = (false, eval e X.env) :: starEach es X.env := by rfl) (hpl : (backTo pos (starEach es X.env)).any (·.1) = false := by rfl) : QE X (.Call (.Name x p) (e :: es) [] pos) (dCB rd ta) := pe_less (pe_callB hc hg hm hv ha hn hdb he hpl) (lam_cb hr)
theorem qe_callTy {T : String} {r : List V → Hp → VK → Prop} {rd : List D → (D → Prop) → Prop} {x : Str} {es : List Expr} {ta : DA} {p : Pos} (hc : CallR X (.type T) r) (hr : LiftC X.K r rd) (hg : Gl X x) (hm : X.mg x = none) (hv : bootBuiltins x = some (.type T)) (ha : QA X (e :: es) ta) (hn : x ≠ "__name__" := by decide) (hdb : (x == ("__debug__" : Str)) = false := by decide)
    (he : starEach (e :: es) X.env = (false, eval e X.env) :: starEach es X.env := by rfl) (hpl : (backTo pos (starEach es X.env)).any (·.1) = false := by rfl) : QE X (.Call (.Name x p) (e :: es) [] pos) (dCB rd ta) := pe_less (pe_callTy hc hg hm hv ha hn hdb he hpl) (lam_cb hr)
/-! subscripts -/
def dIxR (d e : D) (R : D → Prop) : Prop := match d, e with
  | .list xs, .int i => ∃ z, atI xs i = some z ∧ R z
  | .tuple xs, .int i => ∃ z, atI xs i = some z ∧ R z
  | .str z, .int i => z.length ≤ sizeLine ∧ ∃ c, atI z.cps.toList i = some c ∧ R (.str ⟨#[c]⟩)
  | _, _ => False
theorem atI_len {α β : Type} {xs : List α} {ys : List β} {i : Int} {y : β} (h : xs.length = ys.length) (hy : atI ys i = some y) : ∃ j : Nat, ixN ys.length i = some j ∧ ys[j]? = some y ∧ atI xs i = xs[j]? := by
  unfold atI at hy
  cases q : ixN ys.length i with
  | none => rw [q] at hy; cases hy
  | some j =>
    rw [q] at hy
    refine ⟨j, rfl, hy, ?_⟩
    unfold atI
    rw [h, q]
    rfl
theorem RpA.at {K : PySem.W.Frag} {O : Addr → Prop} {H : Hp} {xs : List V} {ds : List D} {i : Int} {d : D} (r : RpA K O H xs ds) (h : atI ds i = some d) : ∃ v, atI xs i = some v ∧ Rp K O H v d := by
  obtain ⟨j, h1, h2, h3⟩ := atI_len r.len h
  obtain ⟨v, h4, h5⟩ := r.get h2
  exact ⟨v, by rw [h3]; exact h4, h5⟩
theorem lift_ix {K : PySem.W.Frag} : Lift2 K (rIx K) dIxR := fun O H x y d e R Q _ hx hy h k => by
  cases hx with
  | lst hs ha =>
    cases hy with
    | int i =>
      obtain ⟨z, h1, h2⟩ := h
      obtain ⟨v, h3, h4⟩ := ha.at h1
      exact .inl ⟨_, _, i, v, rfl, rfl, hs.sq, h3, k v H z (Same.refl H) h4 h2⟩
    | _ => exact h.elim
  | tup hs ha =>
    cases hy with
    | int i =>
      obtain ⟨z, h1, h2⟩ := h
      obtain ⟨v, h3, h4⟩ := ha.at h1
      exact .inr (.inl ⟨_, _, i, v, rfl, rfl, hs.sq, h3, k v H z (Same.refl H) h4 h2⟩)
    | _ => exact h.elim
  | str z =>
    cases hy with
    | int i =>
      obtain ⟨h0, c, h1, h2⟩ := h
      exact .inr (.inr ⟨z, i, c, rfl, rfl, h0, h1, k _ H _ (Same.refl H) (.str _) h2⟩)
    | _ => exact h.elim
  | _ => cases hy <;> exact h.elim
theorem qe_ix (ha : QE X a ta) (hb : QE X b tb) (hs : PlainIx b := by exact fun _ _ => rfl) : QE X (.Subscript a b pos) (dOp dIxR ta tb) := pe_less (pe_ix ix_seq ha hb hs) (lam_op lift_ix)
/-! lists of the def's own -/
def ownedAt (ρ : Env) (i : Nat) : Option (List D) := match ρ[i]? with
  | some (.ol cs) => some cs
  | some (.io cs) => some cs
  | _ => none
def putOwned (ρ : Env) (i : Nat) (cs : List D) : Env := match ρ[i]? with
  | some (.ol _) => ρ.set i (.ol cs)
  | some (.io _) => ρ.set i (.io cs)
  | _ => ρ
theorem Rel.owned {K : PySem.W.Frag} {A : Act} {Ow : Nat → Option Addr} {σ : L2.St} {H : Hp} {ρ : Env} {i : Nat} {cs : List D} (R : Rel K A Ow σ H ρ) (h : ownedAt ρ i = some cs) : ∃ a xs, Ow i = some a ∧ σ[i]? = some (some (.ref a)) ∧ H a = some (.lst xs) ∧ RpA K (own A.FO Ow) H xs cs ∧
    ∀ H' xs' cs', Stp (fun b => b = a) H H' → H' a = some (.lst xs') → RpA K (own A.FO Ow) H' xs' cs' → Rel K A Ow σ H' (putOwned ρ i cs') := by
  unfold ownedAt at h
  split at h
  · rename_i ds hs
    cases h
    obtain ⟨a, xs, h1, h2, h3, h4, _⟩ := R.sl i _ hs
    refine ⟨a, xs, h1, h2, h3, h4, fun H' xs' cs' e ha hc => ?_⟩
    unfold putOwned
    rw [hs]
    exact (R.mut h1 e ha hc).1 hs
  · rename_i ds hs
    cases h
    obtain ⟨a, xs, h1, h2, h3, h4, _⟩ := R.sl i _ hs
    refine ⟨a, xs, h1, h2, h3, h4, fun H' xs' cs' e ha hc => ?_⟩
    unfold putOwned
    rw [hs]
    exact (R.mut h1 e ha hc).2 hs
  · cases h
theorem Stp.upd {p : Addr} {H : Hp} {o : HO} : Stp (fun b => b = p) H (L2.upd H p o) := fun b u n h => by
  rw [upd_ne n]
  exact h
theorem stp_own {A : Act} {Ow : Nat → Option Addr} {i : Nat} {a : Addr} {H H' : Hp} (h : Ow i = some a) (e : Stp (fun b => b = a) H H') : Stp (own A.FO Ow) H H' := e.weak fun b z => by subst z; exact .inr ⟨i, h⟩
/-- x[i], x a list of its own -/
def dIxO (i : Nat) (tb : DE) : DE := fun ρ Q => (ownedAt ρ i).isSome = true ∧ tb ρ fun e ρ1 => ∃ cs k z, ownedAt ρ1 i = some cs ∧ e = .int k ∧ atI cs k = some z ∧ Q z ρ1
theorem qe_ixO (i : Nat) {x : Str} {p : Pos} (hb : QE X b tb) (hN : X.N[i]? = some x := by rfl) (hv : Vis X.env.scope x := by first | exact Or.inl rfl | exact Or.inr (Or.inl rfl) | exact Or.inr (Or.inr rfl)) (hd : (x == ("__debug__" : Str)) = false := by decide)
    (hcd : (x == ("__classdict__" : Str)) = false := by decide) (hs : PlainIx b := by exact fun _ _ => rfl) : QE X (.Subscript (.Name x p) b pos) (dIxO i tb) := by
  refine pe_less (pe_ix ix_seq (pv i hN hv hd hcd) hb hs) fun σ H Q ⟨A, Ow, ρ, R, rel, ⟨h0, h⟩, k⟩ => ?_
  obtain ⟨cs0, e0⟩ := Option.isSome_iff_exists.mp h0
  obtain ⟨a, xs, h1, h2, h3, h4, _⟩ := rel.owned e0
  refine ⟨.ref a, h2, A, Ow, ρ, _, rel, h, fun y H2 e ρ2 e2 rel2 rp2 ⟨cs, j, z, g1, g2, g3, g4⟩ => ?_⟩
  subst g2
  cases rp2
  obtain ⟨a', xs', k1, k2, k3, k4, _⟩ := rel2.owned g1
  rw [h1] at k1
  cases k1
  obtain ⟨v, q1, q2⟩ := k4.at g3
  exact .inl ⟨a, xs', j, v, rfl, rfl, SqL.of k3, q1, k v H2 z ρ2 e2 rel2 q2 g4⟩
/-! calls of the program's own defs -/
/-- from data to data -/
def spD (K : PySem.W.Frag) (P : List D → (D → Prop) → Prop) : Sp := fun vs H Q _ => ∃ (O : Addr → Prop) (ds : List D) (R : D → Prop), RpA K O H vs ds ∧ (∀ a, O a → ∃ o, H a = some o) ∧ P ds R ∧ ∀ v H' d, Same H H' → Rp K O H' v d → R d → Q v H'
/-- .. that returns a new list -/
def spF (K : PySem.W.Frag) (P : List D → (List D → Prop) → Prop) : Sp := fun vs H Q _ => ∃ (O : Addr → Prop) (ds : List D) (R : List D → Prop), RpA K O H vs ds ∧ (∀ a, O a → ∃ o, H a = some o) ∧ P ds R ∧
  ∀ p H' xs cs, Same H H' → H p = none → H' p = some (.lst xs) → RpA K (fun b => O b ∨ b = p) H' xs cs → R cs → Q (.ref p) H'
/-- .. that changes the list that is its first argument -/
def spI (K : PySem.W.Frag) (P : List D → List D → (D → List D → Prop) → Prop) : Sp := fun vs H Q _ => ∃ (O : Addr → Prop) (a : Addr) (xs : List V) (cs : List D) (vs' : List V) (ds : List D) (R : D → List D → Prop), vs = .ref a :: vs' ∧ O a ∧ H a = some (.lst xs) ∧ RpA K O H xs cs ∧ RpA K O H vs' ds ∧
  (∀ a, O a → ∃ o, H a = some o) ∧ P cs ds R ∧ ∀ v H' xs' cs' d, Stp (fun b => b = a) H H' → H' a = some (.lst xs') → RpA K O H' xs' cs' → Rp K O H' v d → R d cs' → Q v H'
/-- .. and returns a new list -/
def spJ (K : PySem.W.Frag) (P : List D → List D → (List D → List D → Prop) → Prop) : Sp := fun vs H Q _ => ∃ (O : Addr → Prop) (a : Addr) (xs : List V) (cs : List D) (vs' : List V) (ds : List D) (R : List D → List D → Prop), vs = .ref a :: vs' ∧ O a ∧ H a = some (.lst xs) ∧ RpA K O H xs cs ∧ RpA K O H vs' ds ∧
  (∀ a, O a → ∃ o, H a = some o) ∧ P cs ds R ∧ ∀ p H' ys es xs' cs', Stp (fun b => b = a) H H' → H p = none → H' p = some (.lst ys) → RpA K (fun b => O b ∨ b = p) H' ys es → H' a = some (.lst xs') → RpA K (fun b => O b ∨ b = p) H' xs' cs' → R es cs' → Q (.ref p) H'
/-- a def that may be called -/
structure Cal (P : Program) (w : World) (K : PySem.W.Frag) (mg : Str → Option Value) (base : Heap) (x : Str) (k : Nat) (sp : Sp) : Prop where
  ex : ∃ (f : Addr) (fd : FuncData) (ps : List Str), mg x = some (.ref f) ∧ PySem.W.keepIn K (.ref f) = true ∧ Binds K fd ps [] ∧ FnOk P w K mg base CX0 k f fd ps sp
theorem pe_cal {x : Str} {k : Nat} {sp : Sp} {es : List Expr} {t : TA} {p : Pos} (C : Cal X.prog X.w X.K X.mg X.base x k sp) (hr : Room k X.A) (hg : Gl X x) (ha : PA X (e :: es) t) (hdb : (x == ("__debug__" : Str)) = false := by decide)
    (he : starEach (e :: es) X.env = (false, eval e X.env) :: starEach es X.env := by rfl) (hpl : (backTo pos (starEach es X.env)).any (·.1) = false := by rfl) : PE X (.Call (.Name x p) (e :: es) [] pos) (fun σ H Q => t σ H fun vs H1 => sp vs H1 Q E0) := by
  obtain ⟨f, fd, ps, h1, h2, h3, h4⟩ := C.ex
  refine pe_less (pe_call (dvs := []) h4 hr hg h1 h2 h3 .nil pass0 ha hdb he hpl) fun σ H Q h => ?_
  show t σ H fun vs H1 => sp (vs ++ []) H1 Q E0
  have e : (fun vs H1 => sp (vs ++ []) H1 Q E0) = (fun vs H1 => sp vs H1 Q E0) := by
    funext vs H1
    rw [List.append_nil]
  rw [e]
  exact h
def dCall (P : List D → (D → Prop) → Prop) (ta : DA) : DE := fun ρ Q => ta ρ fun ds ρ1 => P ds fun z => Q z ρ1
theorem qe_call {x : Str} {k : Nat} {P : List D → (D → Prop) → Prop} {es : List Expr} {ta : DA} {p : Pos} (C : Cal X.prog X.w X.K X.mg X.base x k (spD X.K P)) (hr : Room k X.A) (hg : Gl X x) (ha : QA X (e :: es) ta) (hdb : (x == ("__debug__" : Str)) = false := by decide)
    (he : starEach (e :: es) X.env = (false, eval e X.env) :: starEach es X.env := by rfl) (hpl : (backTo pos (starEach es X.env)).any (·.1) = false := by rfl) : QE X (.Call (.Name x p) (e :: es) [] pos) (dCall P ta) :=
  pe_less (pe_cal C hr hg ha hdb he hpl) fun σ H Q ⟨A, Ow, ρ, R, rel, h, k⟩ => ⟨A, Ow, ρ, _, rel, h, fun vs H1 ds ρ1 e1 rel1 rp1 h1 =>
    ⟨own A.FO Ow, ds, _, rp1, fun a ha => rel1.tracked ha, h1, fun v H' d e2 rp2 h2 => k v H' d ρ1 (e1.trans (Stp.of e2)) (rel1.ext e2) rp2 h2⟩⟩
def dCallF (P : List D → (List D → Prop) → Prop) (ta : DA) : DF := fun ρ Q => ta ρ fun ds ρ1 => P ds fun z => Q z ρ1
theorem own_or {A : Act} {Ow : Nat → Option Addr} {p : Addr} : ∀ b, own (A.fo p).FO Ow b → (own A.FO Ow b ∨ b = p) := own_fo
theorem own_or' {A : Act} {Ow : Nat → Option Addr} {p : Addr} : ∀ b, (own A.FO Ow b ∨ b = p) → own (A.fo p).FO Ow b := fun b z => by
  rcases z with (z | z) | z
  · exact .inl (.inl z)
  · exact .inr z
  · exact .inl (.inr z)
theorem qf_call {x : Str} {k : Nat} {P : List D → (List D → Prop) → Prop} {es : List Expr} {ta : DA} {p : Pos} (C : Cal X.prog X.w X.K X.mg X.base x k (spF X.K P)) (hr : Room k X.A) (hg : Gl X x) (ha : QA X (e :: es) ta) (hdb : (x == ("__debug__" : Str)) = false := by decide)
    (he : starEach (e :: es) X.env = (false, eval e X.env) :: starEach es X.env := by rfl) (hpl : (backTo pos (starEach es X.env)).any (·.1) = false := by rfl) : QF X (.Call (.Name x p) (e :: es) [] pos) (dCallF P ta) :=
  pe_less (pe_cal C hr hg ha hdb he hpl) fun σ H Q ⟨A, Ow, ρ, R, rel, h, k⟩ => ⟨A, Ow, ρ, _, rel, h, fun vs H1 ds ρ1 e1 rel1 rp1 h1 =>
    ⟨own A.FO Ow, ds, _, rp1, fun a ha => rel1.tracked ha, h1, fun p H' xs cs e2 hp h3 rp2 h2 => k p H' xs cs ρ1 (e1.trans (Stp.of e2)) (rel1.nw hp) h3 (rel1.alloc hp e2 ⟨_, h3⟩) (rp2.less own_or) h2⟩⟩
/-- f(x, ..), x a list of its own that f changes -/
def dCallI (P : List D → List D → (D → List D → Prop) → Prop) (i : Nat) (ta : DA) : DE := fun ρ Q => (ownedAt ρ i).isSome = true ∧ ta ρ fun ds ρ1 => ∃ cs, ownedAt ρ1 i = some cs ∧ P cs ds fun z cs' => Q z (putOwned ρ1 i cs')
theorem pa_consV (i : Nat) {x : Str} {p : Pos} {es : List Expr} {tr : TA} (hr : PA X es tr) (hN : X.N[i]? = some x) (hv : Vis X.env.scope x) (hd : (x == ("__debug__" : Str)) = false) (hcd : (x == ("__classdict__" : Str)) = false) (hs : starEach (.Name x p :: es) X.env = (false, eval (.Name x p) X.env) :: starEach es X.env) :
    PA X (.Name x p :: es) (tCons (tVar i) tr) := pa_cons (pv i hN hv hd hcd) hr hs
theorem qe_callI (i : Nat) {x y : Str} {k : Nat} {P : List D → List D → (D → List D → Prop) → Prop} {es : List Expr} {ta : DA} {p py : Pos} (C : Cal X.prog X.w X.K X.mg X.base x k (spI X.K P)) (hr : Room k X.A) (hg : Gl X x) (ha : QA X es ta)
    (hN : X.N[i]? = some y := by rfl) (hv : Vis X.env.scope y := by first | exact Or.inl rfl | exact Or.inr (Or.inl rfl) | exact Or.inr (Or.inr rfl)) (hd : (y == ("__debug__" : Str)) = false := by decide) (hcd : (y == ("__classdict__" : Str)) = false := by decide)
    (hdb : (x == ("__debug__" : Str)) = false := by decide) (he : starEach (.Name y py :: es) X.env = (false, eval (.Name y py) X.env) :: starEach es X.env := by rfl) (hpl : (backTo pos (starEach es X.env)).any (·.1) = false := by rfl) : QE X (.Call (.Name x p) (.Name y py :: es) [] pos) (dCallI P i ta) := by
  refine pe_less (pe_cal C hr hg (pa_consV i ha hN hv hd hcd he) hdb he hpl) fun σ H Q ⟨A, Ow, ρ, R, rel, ⟨h0, h⟩, k⟩ => ?_
  obtain ⟨cs0, e0⟩ := Option.isSome_iff_exists.mp h0
  obtain ⟨a, xs, h1, h2, h3, h4, _⟩ := rel.owned e0
  refine ⟨.ref a, h2, A, Ow, ρ, _, rel, h, fun vs H1 ds ρ1 e1 rel1 rp1 ⟨cs, g1, g2⟩ => ?_⟩
  obtain ⟨a', xs', k1, k2, k3, k4, k5⟩ := rel1.owned g1
  rw [h1] at k1
  cases k1
  exact ⟨own A.FO Ow, a, xs', cs, vs, ds, _, rfl, .inr ⟨i, h1⟩, k3, k4, rp1, fun a ha => rel1.tracked ha, g2, fun v H' ys cs' d e2 ha hc rp2 h2 =>
    k v H' d _ (e1.trans (stp_own h1 e2)) (k5 H' ys cs' e2 ha hc) rp2 h2⟩
end

/-! ### statements -/
section
variable {X : Cx} {e : Expr} {st : Stmt} {rest : List Stmt} {pos : Pos} {te : DE} {tf : DF} {t u : DS}
def dNext : DS := fun D ρ => D.nx ρ
def dSeq (t u : DS) : DS := fun D ρ => t { D with nx := u D } ρ
theorem qss_nil : QSs X [] dNext := pss_less pss_nil fun D σ H ⟨A, Ow, ρ, DD, rel, h, n, _⟩ => n _ _ _ _ rel h
theorem lam_seq {K : PySem.W.Frag} (D : Ends) (σ : L2.St) (H : Hp) : lamS K (dSeq t u) D σ H → tSeq (lamS K t) (lamS K u) D σ H := fun ⟨A, Ow, ρ, DD, rel, h, n, b, c, r⟩ =>
  ⟨A, Ow, ρ, _, rel, h, fun Ow' σ' H' ρ' rel' h' => ⟨A, Ow', ρ', DD, rel', h', n, b, c, r⟩, b, c, r⟩
theorem qss_cons (h1 : QS X st t) (h2 : QSs X rest u) : QSs X (st :: rest) (dSeq t u) := pss_less (pss_cons h1 h2) lam_seq
theorem qss_one (h1 : QS X st t) : QSs X [st] t := pss_one h1
/-- from here on the list in the slot i is read alone -/
def dFz (i : Nat) (t : DS) : DS := fun D ρ => match ρ[i]? with
  | some (.ol cs) => t D (ρ.set i (.sh (.list cs)))
  | _ => False
theorem qss_fz (i : Nat) (h : QSs X rest t) : QSs X rest (dFz i t) := pss_less h fun D σ H ⟨A, Ow, ρ, DD, rel, h, n, b, c, r⟩ => by
  unfold dFz at h
  split at h
  · rename_i cs hs
    exact ⟨A, off Ow i, _, DD, rel.freeze hs, h, n, b, c, r⟩
  · exact h.elim
/-- is not a list of the caller's -/
def noIo (ρ : Env) (i : Nat) : Prop := match ρ[i]? with
  | some (.io _) => False
  | none => False
  | _ => True
theorem noIo.ne {ρ : Env} {i : Nat} (h : noIo ρ i) : ∀ ds, ρ[i]? ≠ some (.io ds) := fun ds q => by
  unfold noIo at h
  rw [q] at h
  exact h
theorem noIo.lt {ρ : Env} {i : Nat} (h : noIo ρ i) : i < ρ.length := by
  by_cases q : i < ρ.length
  · exact q
  · unfold noIo at h
    rw [List.getElem?_eq_none (by omega)] at h
    exact h.elim
/-- targets -/
abbrev DG := D → Env → (Env → Prop) → Prop
abbrev DGs := List D → Env → (Env → Prop) → Prop
def lamG (K : PySem.W.Frag) (g : DG) : TG := fun v σ H Q => ∃ A Ow ρ R d, Rel K A Ow σ H ρ ∧ Rp K (own A.FO Ow) H v d ∧ g d ρ R ∧ ∀ Ow' σ' H' ρ', Rel K A Ow' σ' H' ρ' → (∀ w z, Rp K (own A.FO Ow) H w z → Rp K (own A.FO Ow') H' w z) → R ρ' → Q σ' H'
def lamGs (K : PySem.W.Frag) (g : DGs) : TGs := fun vs σ H Q => ∃ A Ow ρ R ds, Rel K A Ow σ H ρ ∧ RpA K (own A.FO Ow) H vs ds ∧ g ds ρ R ∧ ∀ Ow' σ' H' ρ', Rel K A Ow' σ' H' ρ' → (∀ w z, Rp K (own A.FO Ow) H w z → Rp K (own A.FO Ow') H' w z) → R ρ' → Q σ' H'
def QG (X : Cx) (tg : Expr) (g : DG) : Prop := PG X tg (lamG X.K g)
def QGs (X : Cx) (tg : List Expr) (g : DGs) : Prop := PGs X tg (lamGs X.K g)
theorem pg_less {tg : Expr} {t t' : TG} (h : PG X tg t) (k : ∀ v σ H Q, t' v σ H Q → t v σ H Q) : PG X tg t' := ⟨fun pins s σ H v u Q I r q => h.run pins s σ H v u Q I r (k v σ H Q q)⟩
theorem pgs_less {tg : List Expr} {t t' : TGs} (h : PGs X tg t) (k : ∀ v σ H Q, t' v σ H Q → t v σ H Q) : PGs X tg t' := ⟨fun pins s σ H v u Q I r q => h.run pins s σ H v u Q I r (k v σ H Q q)⟩
def gN (i : Nat) : DG := fun d ρ Q => noIo ρ i ∧ Q (ρ.set i (.sh d))
theorem qg_name (i : Nat) {x : Str} {p : Pos} (hN : X.N.Nodup) (hi : X.N[i]? = some x := by rfl) (hx : Loc X.env.scope x := by first | exact Or.inl rfl | exact Or.inr rfl) (hf : X.fn x = true ∨ X.env.scope.names.lookup x = some .local := by first | exact .inl rfl | exact .inr rfl) : QG X (.Name x p) (gN i) :=
  pg_less (pg_name (i := i) hN hi hx hf) fun v σ H Q ⟨A, Ow, ρ, R, d, rel, rp, ⟨h0, h⟩, k⟩ => k (off Ow i) _ H _ (rel.put (s := .sh d) h0.ne ⟨rfl, v, rfl, rp.less own_off⟩) (fun w z q => q.less own_off) h
def gs0 : DGs := fun ds ρ Q => ds = [] ∧ Q ρ
def gsC (g : DG) (r : DGs) : DGs := fun ds ρ Q => match ds with
  | d :: es => g d ρ fun ρ1 => r es ρ1 Q
  | [] => False
theorem qgs_nil : QGs X [] gs0 := pgs_less pgs_nil fun vs σ H Q ⟨A, Ow, ρ, R, ds, rel, rp, ⟨h0, h⟩, k⟩ => by
  subst h0
  cases rp
  exact ⟨rfl, k _ _ _ _ rel (fun _ _ q => q) h⟩
theorem qgs_cons {tg : Expr} {es : List Expr} {g : DG} {r : DGs} (h1 : QG X tg g) (h2 : QGs X es r) (hs : (assignEach (tg :: es) X.env).map (·.2) = assign tg X.env :: (assignEach es X.env).map (·.2) := by rfl) : QGs X (tg :: es) (gsC g r) :=
  pgs_less (pgs_cons h1 h2 hs) fun vs σ H Q ⟨A, Ow, ρ, R, ds, rel, rp, h, k⟩ => by
    cases rp with
    | nil => exact h.elim
    | cons r1 r2 =>
      exact ⟨_, _, rfl, A, Ow, ρ, _, _, rel, r1, h, fun Ow1 σ1 H1 ρ1 rel1 m1 h1 => ⟨A, Ow1, ρ1, _, _, rel1, r2.map1 m1, h1, fun Ow2 σ2 H2 ρ2 rel2 m2 h2 => k Ow2 σ2 H2 ρ2 rel2 (fun w z q => m2 w z (m1 w z q)) h2⟩⟩
def gT (g : DGs) (n : Nat) : DG := fun d ρ Q => match d with
  | .tuple ds => ds.length = n ∧ g ds ρ Q
  | _ => False
theorem lam_gT {K : PySem.W.Frag} {g : DGs} {n : Nat} (v : V) (σ : L2.St) (H : Hp) (Q : L2.St → Hp → Prop) : lamG K (gT g n) v σ H Q → gTup K n (lamGs K g) v σ H Q := fun ⟨A, Ow, ρ, R, d, rel, rp, h, k⟩ => by
  cases rp with
  | tup hs ha =>
    obtain ⟨h1, h2⟩ := h
    exact ⟨_, _, rfl, hs.sq, by rw [ha.len]; exact h1, A, Ow, ρ, _, _, rel, ha, h2, k⟩
  | _ => exact h.elim
theorem qg_tup {es : List Expr} {k : Nat} {g : DGs} {n : Nat} {p : Pos} (hc : X.calm = true) (h : QGs X es g) (hn : (assignEach es X.env).length = n := by rfl) (hst : (assignEach es X.env).findIdx? (·.1) = none := by rfl) : QG X (.Tuple es k p) (gT g n) := pg_less (pg_tup hc h hn hst) lam_gT
def dAsg (te : DE) (g : DG) : DS := fun D ρ => te ρ fun d ρ1 => g d ρ1 D.nx
theorem lam_asg {K : PySem.W.Frag} {te : DE} {g : DG} (D : Ends) (σ : L2.St) (H : Hp) : lamS K (dAsg te g) D σ H → tAsg (lam K te) (lamG K g) D σ H := fun ⟨A, Ow, ρ, DD, rel, h, n, b, c, r⟩ =>
  ⟨A, Ow, ρ, _, rel, h, fun v H' d ρ' e' rel' rp' h' => ⟨A, Ow, ρ', _, d, rel', rp', h', fun Ow' σ' H' ρ' rel' _ h' => n Ow' σ' H' ρ' rel' h'⟩⟩
theorem qs_asg {tg : Expr} {g : DG} (he : QE X e te) (hg : QG X tg g) (hs : swapsWithSole [tg] e pos.line X.env = pure false := by rfl) (hw : swappedStores [tg] e X.env = pure none := by rfl) (h1 : (assignEach [tg] X.env).map (·.2) = [assign tg X.env] := by rfl) : QS X (.Assign [tg] e pos) (dAsg te g) :=
  ps_less (ps_asg he hg hs hw h1) lam_asg
theorem qs_set (i : Nat) {x : Str} {p : Pos} (hN : X.N.Nodup) (he : QE X e te) (hi : X.N[i]? = some x := by rfl) (hx : Loc X.env.scope x := by first | exact Or.inl rfl | exact Or.inr rfl) (hs : swapsWith e (some (.Name x p)) pos.line X.env = pure false := by rfl) (hf : X.fn x = true ∨ X.env.scope.names.lookup x = some .local := by first | exact .inl rfl | exact .inr rfl) : QS X (.Assign [.Name x p] e pos) (dAsg te (gN i)) :=
  ps_less (ps_set (i := i) hN hi hx he hs hf) fun D σ H ⟨A, Ow, ρ, DD, rel, h, n, b, c, r⟩ => ⟨A, Ow, ρ, _, rel, h, fun v H' d ρ' e' rel' rp' ⟨h0, h'⟩ => n (off Ow i) _ H' _ (rel'.put (s := .sh d) h0.ne ⟨rfl, v, rfl, rp'.less own_off⟩) h'⟩
/-- x = a new list, from now on of its own -/
def dOwn (tf : DF) (i : Nat) : DS := fun D ρ => tf ρ fun cs ρ1 => noIo ρ1 i ∧ D.nx (ρ1.set i (.ol cs))
theorem qs_own (i : Nat) {x : Str} {p : Pos} (hN : X.N.Nodup) (he : QF X e tf) (hi : X.N[i]? = some x := by rfl) (hx : Loc X.env.scope x := by first | exact Or.inl rfl | exact Or.inr rfl) (hs : swapsWith e (some (.Name x p)) pos.line X.env = pure false := by rfl) (hf : X.fn x = true ∨ X.env.scope.names.lookup x = some .local := by first | exact .inl rfl | exact .inr rfl) : QS X (.Assign [.Name x p] e pos) (dOwn tf i) :=
  ps_less (ps_set (i := i) hN hi hx he hs hf) fun D σ H ⟨A, Ow, ρ, DD, rel, h, n, b, c, r⟩ => ⟨A, Ow, ρ, _, rel, h, fun p H' xs cs ρ' e' nw hp rel' rp' ⟨h0, h'⟩ => n (onn Ow i p) _ H' _ (rel'.take h0.ne h0.lt nw hp rp') h'⟩
def dRet (te : DE) : DS := fun D ρ => te ρ D.rt
theorem qs_ret (he : QE X e te) : QS X (.Return (some e) pos) (dRet te) := ps_less (ps_ret he) fun D σ H ⟨A, Ow, ρ, DD, rel, h, n, b, c, r⟩ => ⟨A, Ow, ρ, _, rel, h, fun v H' d ρ' e' rel' rp' h' => r.1 Ow σ H' ρ' v d rel' rp' h'⟩
/-- a new list is returned -/
def dRetF (tf : DF) : DS := fun D ρ => tf ρ D.rf
theorem qs_retF (he : QF X e tf) : QS X (.Return (some e) pos) (dRetF tf) := ps_less (ps_ret he) fun D σ H ⟨A, Ow, ρ, DD, rel, h, n, b, c, r⟩ => ⟨A, Ow, ρ, _, rel, h, fun p H' xs cs ρ' e' nw hp rel' rp' h' => r.2 Ow σ H' ρ' p xs cs nw hp rel' rp' h'⟩
/-- the def's own list is returned -/
def dRetO (i : Nat) : DS := fun D ρ => ∃ cs, ρ[i]? = some (.ol cs) ∧ D.rf cs (ρ.set i .no)
theorem Rel.give {K : PySem.W.Frag} {A : Act} {Ow : Nat → Option Addr} {σ : L2.St} {H : Hp} {ρ : Env} (R : Rel K A Ow σ H ρ) {i : Nat} {cs : List D} (h : ρ[i]? = some (.ol cs)) : ∃ p xs, σ[i]? = some (some (.ref p)) ∧ Nw A (off Ow i) p ∧ H p = some (.lst xs) ∧ Rel K (A.fo p) (off Ow i) σ H (ρ.set i .no) ∧ RpA K (own (A.fo p).FO (off Ow i)) H xs cs := by
  obtain ⟨a, xs, h1, h2, h3, h4, h5⟩ := R.sl i _ h
  have hi : ∀ ds, ρ[i]? ≠ some (.io ds) := fun ds z => by rw [h] at z; cases z
  have lessO : ∀ b, own (A.fo a).FO (off Ow i) b → own A.FO Ow b := fun b z => by
    rcases z with (z | z) | ⟨j, z⟩
    · exact .inl z
    · subst z; exact .inr ⟨i, h1⟩
    · exact .inr ⟨j, (off_some z).2⟩
  have nfo : ¬ A.FO a := by
    rcases R.nofo i a h1 with q | q
    · exact absurd q (h5 a)
    · exact q
  have q := R.put (i := i) (x := some (.ref a)) (s := .no) hi rfl
  have hl : i < σ.length := by
    rw [R.len]
    exact (List.getElem?_eq_some_iff.mp h).1
  have es : σ.set i (some (.ref a)) = σ := by
    obtain ⟨_, h2'⟩ := List.getElem?_eq_some_iff.mp h2
    rw [← h2']
    exact List.set_getElem_self hl
  rw [es] at q
  refine ⟨a, xs, h2, ⟨?_, fun z => ?_, fun p hp z => (R.keep p hp).2 i (by rw [z]; exact h1)⟩, h3, ⟨q.len, fun j s hj => ?_, q.out, q.uniq, q.kept, fun b hb => ?_, q.new, fun j b hb => ?_, q.io, q.one, q.keep, fun p hp => (R.pin p hp).less lessO⟩, h4.less lessO⟩
  · rcases R.new i a h1 with z | z
    · exact z
    · exact absurd z (h5 a)
  · rcases z with z | ⟨j, z⟩
    · exact nfo z
    · exact (off_some z).1 (R.uniq j i a (off_some z).2 h1)
  · by_cases z : i = j
    · subst z
      rw [List.getElem?_set_self (by rw [← R.len]; exact hl)] at hj
      cases hj
      exact off_self
    · rw [List.getElem?_set_ne z] at hj
      rw [off_ne (Ne.symm z)]
      exact (R.sl j s hj).less lessO
  · rcases hb with hb | hb
    · exact R.fo b hb
    · subst hb; exact ⟨_, h3⟩
  · obtain ⟨hj, hb'⟩ := off_some hb
    rcases R.nofo j b hb' with z | z
    · exact .inl z
    · refine .inr fun y => ?_
      rcases y with y | y
      · exact z y
      · subst y; exact hj (R.uniq j i b hb' h1)
theorem qs_retO (i : Nat) {x : Str} {p : Pos} (hN : X.N[i]? = some x := by rfl) (hv : Vis X.env.scope x := by first | exact Or.inl rfl | exact Or.inr (Or.inl rfl) | exact Or.inr (Or.inr rfl)) (hd : (x == ("__debug__" : Str)) = false := by decide) (hcd : (x == ("__classdict__" : Str)) = false := by decide) : QS X (.Return (some (.Name x p)) pos) (dRetO i) :=
  ps_less (ps_ret (pv i hN hv hd hcd)) fun D σ H ⟨A, Ow, ρ, DD, rel, ⟨cs, h0, h⟩, n, b, c, r⟩ => by
    obtain ⟨p, xs, h1, nw, h2, rel2, rp2⟩ := rel.give h0
    exact ⟨_, h1, r.2 _ σ H _ p xs cs nw h2 rel2 rp2 h⟩
def dRetN : DS := fun D ρ => D.rt .none ρ
theorem qs_retN : QS X (.Return none pos) dRetN := ps_less ps_retN fun D σ H ⟨A, Ow, ρ, DD, rel, h, n, b, c, r⟩ => r.1 Ow σ H ρ _ _ rel .non h
def dDrop (te : DE) : DS := fun D ρ => te ρ fun _ ρ1 => D.nx ρ1
theorem qs_expr (he : QE X e te) (hs : swapsWith e none pos.line X.env = pure false := by rfl) : QS X (.Expr e pos) (dDrop te) := ps_less (ps_expr he hs) fun D σ H ⟨A, Ow, ρ, DD, rel, h, n, b, c, r⟩ => ⟨A, Ow, ρ, _, rel, h, fun v H' d ρ' e' rel' rp' h' => n Ow σ H' ρ' rel' h'⟩
def dIfS (c : DT) (t u : DS) : DS := fun D ρ => c ρ fun b ρ1 => (b = true → t D ρ1) ∧ (b = false → u D ρ1)
theorem qs_if {c : Expr} {tc : DT} {p q : List Stmt} (hc : QT X c tc) (hp : QSs X p t) (hq : QSs X q u) : QS X (.If c p q pos) (dIfS tc t u) := ps_less (ps_if hc hp hq) fun D σ H ⟨A, Ow, ρ, DD, rel, h, n, b, c, r⟩ =>
  ⟨A, Ow, ρ, _, rel, h, fun k H1 ρ1 e1 rel1 ⟨h1, h2⟩ => by
    cases k with
    | true => exact (if_pos rfl).mpr ⟨A, Ow, ρ1, DD, rel1, h1 rfl, n, b, c, r⟩
    | false => exact (if_neg Bool.false_ne_true).mpr ⟨A, Ow, ρ1, DD, rel1, h2 rfl, n, b, c, r⟩⟩
def dBreak : DS := fun D ρ => D.bk ρ
def dCont : DS := fun D ρ => D.ct ρ
theorem qs_break : QS X (.Break pos) dBreak := ps_less ps_break fun D σ H ⟨A, Ow, ρ, DD, rel, h, n, b, c, r⟩ => b _ _ _ _ rel h
theorem qs_continue : QS X (.Continue pos) dCont := ps_less ps_continue fun D σ H ⟨A, Ow, ρ, DD, rel, h, n, b, c, r⟩ => c _ _ _ _ rel h
theorem qs_pass : QS X (.Pass pos) dNext := ps_less ps_pass fun D σ H ⟨A, Ow, ρ, DD, rel, h, n, b, c, r⟩ => n _ _ _ _ rel h
/-- a, b = x, y -/
def dPar (i j : Nat) (ta : DA) : DS := fun D ρ => ta ρ fun ds ρ1 => match ds with
  | [d, e] => noIo ρ1 i ∧ noIo ρ1 j ∧ D.nx ((ρ1.set i (.sh d)).set j (.sh e))
  | _ => False
theorem noIo.set {ρ : Env} {i j : Nat} {d : D} (h : noIo ρ j) : noIo (ρ.set i (.sh d)) j := by
  have hl := h.lt
  unfold noIo
  by_cases z : i = j
  · subst z
    rw [List.getElem?_set_self hl]
    trivial
  · rw [List.getElem?_set_ne z]
    exact h
theorem qs_par (i j : Nat) {x y : Str} {a b : Expr} {ta : DA} {px py pt : Pos} {kt k2 pt2} (hc : X.calm = true) (hN : X.N.Nodup) (hij : i ≠ j) (ha : QA X [a, b] ta) (hi : X.N[i]? = some x := by rfl) (hj : X.N[j]? = some y := by rfl) (hx : X.env.scope.names.lookup x = some .local := by rfl) (hy : X.env.scope.names.lookup y = some .local := by rfl)
    (hw : swappedStores [.Tuple [.Name x px, .Name y py] kt pt] (.Tuple [a, b] k2 pt2) X.env = pure (some [x, y]) := by rfl) (hs : swapsWithSole [.Tuple [.Name x px, .Name y py] kt pt] (.Tuple [a, b] k2 pt2) pos.line X.env = pure false := by rfl) :
    QS X (.Assign [.Tuple [.Name x px, .Name y py] kt pt] (.Tuple [a, b] k2 pt2) pos) (dPar i j ta) := ps_less (ps_par hc hN hi hj hij hx hy ha hw hs) fun D σ H ⟨A, Ow, ρ, DD, rel, h, n, b, c, r⟩ => ⟨A, Ow, ρ, _, rel, h, fun vs H' ds ρ' e' rel' rp' h' => by
  match ds, rp', h' with
  | [d, e], .cons (v := v) r1 (.cons (v := w) r2 .nil), ⟨h1, h2, h3⟩ =>
    have q1 := rel'.put (s := .sh d) h1.ne ⟨rfl, v, rfl, r1.less own_off⟩
    have q2 := q1.put (s := .sh e) h2.set.ne ⟨rfl, w, rfl, (r2.less own_off).less own_off⟩
    exact ⟨v, w, rfl, n _ _ _ _ q2 h3⟩⟩
/-- x op= e, of ints -/
def dAug (i : Nat) (te : DE) (f : Int → Int → Int) : DS := fun D ρ => ∃ a, ρ[i]? = some (.sh (.int a)) ∧ te ρ fun d ρ1 => ∃ b, d = .int b ∧ noIo ρ1 i ∧ D.nx (ρ1.set i (.sh (.int (f a b))))
theorem qs_aug (i : Nat) {x : Str} {op : Operator} {f : Int → Int → Int} {p : Pos} (hN : X.N.Nodup) (ho : PIp X op (ipI f)) (he : QE X e te) (hi : X.N[i]? = some x := by rfl) (hx : Loc X.env.scope x := by first | exact Or.inl rfl | exact Or.inr rfl) (hf : X.fn x = true ∨ X.env.scope.names.lookup x = some .local := by first | exact .inl rfl | exact .inr rfl) : QS X (.AugAssign (.Name x p) op e pos) (dAug i te f) :=
  ps_less (ps_aug (i := i) hN hi hx he ho hf) fun D σ H ⟨A, Ow, ρ, DD, rel, ⟨a, h0, h⟩, n, b, c, r⟩ => by
    obtain ⟨_, v, h1, h2⟩ := rel.sl i _ h0
    cases h2
    exact ⟨_, h1, A, Ow, ρ, _, rel, h, fun w H' d ρ' e' rel' rp' ⟨b, hb, h3, h4⟩ => by
      subst hb
      cases rp'
      exact ⟨a, b, rfl, rfl, n _ _ _ _ (rel'.put (s := .sh (.int (f a b))) h3.ne ⟨rfl, _, rfl, .int _⟩) h4⟩⟩
/-! changes of lists -/
/-- x.append(e) -/
def dApp (i : Nat) (te : DE) : DS := fun D ρ => (ownedAt ρ i).isSome = true ∧ te ρ fun d ρ1 => ∃ cs, ownedAt ρ1 i = some cs ∧ cs.length < sizeLine ∧ D.nx (putOwned ρ1 i (cs ++ [d]))
theorem qs_app (i : Nat) {x : Str} {p apos cpos : Pos} (he : QE X e te) (hN : X.N[i]? = some x := by rfl) (hv : Vis X.env.scope x := by first | exact Or.inl rfl | exact Or.inr (Or.inl rfl) | exact Or.inr (Or.inr rfl)) (hd : (x == ("__debug__" : Str)) = false := by decide) (hcd : (x == ("__classdict__" : Str)) = false := by decide)
    (hbase : attributeBase (.Name x p) "append" X.env (eval (.Name x p) X.env) = eval (.Name x p) X.env := by rfl)
    (hfew : ((backTo cpos (starEach [e] X.env)).all (fun x => !x.1) && (backToKw cpos (keywordEach [] X.env)).all (fun x => x.1.isSome) && decide ([e].length + ([] : List Keyword).length + (if ([] : List Keyword).isEmpty then 0 else 1) < 30)) = true := by rfl)
    (hline : (apos.endLine == cpos.line) = true := by rfl) (hs : starEach [e] X.env = (false, eval e X.env) :: starEach [] X.env := by rfl) (hplain : (backTo cpos (starEach [] X.env)).any (·.1) = false := by rfl) (hsw : swapsWith (.Call (.Attribute (.Name x p) "append" apos) [e] [] cpos) none pos.line X.env = pure false := by rfl) :
    QS X (.Expr (.Call (.Attribute (.Name x p) "append" apos) [e] [] cpos) pos) (dApp i te) := by
  refine ps_less (ps_expr (pe_bm PySem.F.plainAttrs_list PySem.F.slot_list_append PySem.F.type_list_append mt_append (pv i hN hv hd hcd) (pa_cons he pa_nil hs) hbase hfew hline hs hplain) hsw) fun D σ H ⟨A, Ow, ρ, DD, rel, ⟨h0, h⟩, n, b, c, r⟩ => ?_
  obtain ⟨cs0, e0⟩ := Option.isSome_iff_exists.mp h0
  obtain ⟨a, xs, h1, h2, h3, h4, _⟩ := rel.owned e0
  refine ⟨.ref a, h2, .inl ⟨rfl, _, SqL.of h3⟩, A, Ow, ρ, _, rel, h, fun v H1 d ρ1 e1 rel1 rp1 ⟨cs, g1, g2, g3⟩ => ?_⟩
  obtain ⟨a', xs', k1, k2, k3, k4, k5⟩ := rel1.owned g1
  rw [h1] at k1
  cases k1
  exact ⟨a, xs', v, rfl, rfl, k3, by rw [k4.len]; exact g2, n _ _ _ _ (k5 _ _ _ Stp.upd upd_same ((k4.append (.one rp1)).mono (stp_own h1 Stp.upd))) g3⟩
/-- x.extend(a new list) -/
def dExt (i : Nat) (tf : DF) : DS := fun D ρ => (ownedAt ρ i).isSome = true ∧ tf ρ fun ds ρ1 => ∃ cs, ownedAt ρ1 i = some cs ∧ cs.length + ds.length ≤ sizeLine ∧ D.nx (putOwned ρ1 i (cs ++ ds))
theorem qs_ext (i : Nat) {x : Str} {p apos cpos : Pos} (he : QF X e tf) (hN : X.N[i]? = some x := by rfl) (hv : Vis X.env.scope x := by first | exact Or.inl rfl | exact Or.inr (Or.inl rfl) | exact Or.inr (Or.inr rfl)) (hd : (x == ("__debug__" : Str)) = false := by decide) (hcd : (x == ("__classdict__" : Str)) = false := by decide)
    (hbase : attributeBase (.Name x p) "extend" X.env (eval (.Name x p) X.env) = eval (.Name x p) X.env := by rfl)
    (hfew : ((backTo cpos (starEach [e] X.env)).all (fun x => !x.1) && (backToKw cpos (keywordEach [] X.env)).all (fun x => x.1.isSome) && decide ([e].length + ([] : List Keyword).length + (if ([] : List Keyword).isEmpty then 0 else 1) < 30)) = true := by rfl)
    (hline : (apos.endLine == cpos.line) = true := by rfl) (hs : starEach [e] X.env = (false, eval e X.env) :: starEach [] X.env := by rfl) (hplain : (backTo cpos (starEach [] X.env)).any (·.1) = false := by rfl) (hsw : swapsWith (.Call (.Attribute (.Name x p) "extend" apos) [e] [] cpos) none pos.line X.env = pure false := by rfl) :
    QS X (.Expr (.Call (.Attribute (.Name x p) "extend" apos) [e] [] cpos) pos) (dExt i tf) := by
  refine ps_less (ps_expr (pe_bm PySem.F.plainAttrs_list PySem.F.slot_list_extend PySem.F.type_list_extend mt_extend (pv i hN hv hd hcd) (pa_cons he pa_nil hs) hbase hfew hline hs hplain) hsw) fun D σ H ⟨A, Ow, ρ, DD, rel, ⟨h0, h⟩, n, b, c, r⟩ => ?_
  obtain ⟨cs0, e0⟩ := Option.isSome_iff_exists.mp h0
  obtain ⟨a, xs, h1, h2, h3, h4, _⟩ := rel.owned e0
  refine ⟨.ref a, h2, .inl ⟨rfl, _, SqL.of h3⟩, A, Ow, ρ, _, rel, h, fun q H1 zs ds ρ1 e1 nw hq rel1 rp1 ⟨cs, g1, g2, g3⟩ => ?_⟩
  have rel2 := rel1.unfo
  obtain ⟨a', xs', k1, k2, k3, k4, k5⟩ := rel2.owned g1
  rw [h1] at k1
  cases k1
  exact ⟨a, q, xs', zs, rfl, rfl, k3, hq, by rw [k4.len, rp1.len]; exact g2, n _ _ _ _ (k5 _ _ _ Stp.upd upd_same ((k4.append (rp1.less own_fo')).mono (stp_own h1 Stp.upd))) g3⟩
/-- x[i] = e -/
def dSetI (i : Nat) (te tb : DE) : DS := fun D ρ => te ρ fun d ρ1 => (ownedAt ρ1 i).isSome = true ∧ tb ρ1 fun k ρ2 => ∃ cs n j, ownedAt ρ2 i = some cs ∧ k = .int n ∧ ixN cs.length n = some j ∧ D.nx (putOwned ρ2 i (cs.set j d))
theorem qs_setI (i : Nat) {x : Str} {b : Expr} {tb : DE} {p spos : Pos} (he : QE X e te) (hb : QE X b tb) (hN : X.N[i]? = some x := by rfl) (hv : Vis X.env.scope x := by first | exact Or.inl rfl | exact Or.inr (Or.inl rfl) | exact Or.inr (Or.inr rfl)) (hd : (x == ("__debug__" : Str)) = false := by decide) (hcd : (x == ("__classdict__" : Str)) = false := by decide)
    (ha : ∀ v, assign (.Subscript (.Name x p) b spos) X.env v = (do
      let ov ← holding [v] (eval (.Name x p) X.env)
      let iv ← holding [v, ov] (eval b X.env)
      standAt spos
      holding [v, ov, iv] (setItem ov iv v)
      release [v, ov, iv] []) := by intro _; rfl)
    (hs : swapsWithSole [.Subscript (.Name x p) b spos] e pos.line X.env = pure false := by rfl) (hw : swappedStores [.Subscript (.Name x p) b spos] e X.env = pure none := by rfl) (h1 : (assignEach [.Subscript (.Name x p) b spos] X.env).map (·.2) = [assign (.Subscript (.Name x p) b spos) X.env] := by rfl) :
    QS X (.Assign [.Subscript (.Name x p) b spos] e pos) (dSetI i te tb) := by
  refine ps_less (ps_asg he (pg_sub (pv i hN hv hd hcd) hb set_list ha) hs hw h1) fun D σ H ⟨A, Ow, ρ, DD, rel, h, n, b, c, r⟩ => ?_
  refine ⟨A, Ow, ρ, _, rel, h, fun v H1 d ρ1 e1 rel1 rp1 ⟨h0, h'⟩ => ?_⟩
  obtain ⟨cs0, e0⟩ := Option.isSome_iff_exists.mp h0
  obtain ⟨a, xs, h1, h2, h3, h4, _⟩ := rel1.owned e0
  refine ⟨.ref a, h2, A, Ow, ρ1, _, rel1, h', fun w H2 k ρ2 e2 rel2 rp2 ⟨cs, m, j, g1, g2, g3, g4⟩ => ?_⟩
  subst g2
  cases rp2
  obtain ⟨a', xs', k1, k2, k3, k4, k5⟩ := rel2.owned g1
  rw [h1] at k1
  cases k1
  exact ⟨a, xs', m, j, rfl, rfl, k3, by rw [k4.len]; exact g3, n _ _ _ _ (k5 _ _ _ Stp.upd upd_same ((RpA.set (rp1.mono e2) j k4).mono (stp_own h1 Stp.upd))) g4⟩
/-! ### while, for -/
def dWhile (c : DT) (tb : DS) : DS := fun D ρ => ∃ W : Nat → Env → Prop, (∃ m, W m ρ) ∧ ∀ m ρ, W m ρ → c ρ fun b ρ1 => (b = true → ∃ N : Env → Prop, (∀ ρ', N ρ' → ∃ m', m' < m ∧ W m' ρ') ∧ tb { D with nx := N, ct := N, bk := D.nx } ρ1) ∧ (b = false → D.nx ρ1)
theorem qs_while {c : Expr} {body : List Stmt} {tc : DT} {tb : DS} (hp : PassesOwn (model X.prog X.w) X.A X.env X.xe) (hc : QT X c tc) (hb : QSs X body tb) : QS X (.While c body [] pos) (dWhile tc tb) := ps_less (ps_while hp hc hb) fun D σ H ⟨A, Ow, ρ, DD, rel, ⟨W, ⟨m0, w0⟩, turn⟩, n, b, c, r⟩ =>
  ⟨fun m σ H => ∃ Ow ρ, Rel X.K A Ow σ H ρ ∧ W m ρ, ⟨m0, Ow, ρ, rel, w0⟩, fun m σ1 H1 ⟨Ow1, ρ1, rel1, w1⟩ => ⟨A, Ow1, ρ1, _, rel1, turn m ρ1 w1, fun k H2 ρ2 e2 rel2 ⟨h1, h2⟩ => by
    cases k with
    | true =>
      obtain ⟨N, hN, h3⟩ := h1 rfl
      have key : ∀ Ow' σ' H' ρ', Rel X.K A Ow' σ' H' ρ' → N ρ' → ∃ Ow ρ, Rel X.K A Ow σ' H' ρ ∧ N ρ := fun Ow' σ' H' ρ' rel' h' => ⟨Ow', ρ', rel', h'⟩
      refine (if_pos rfl).mpr ⟨fun σ H => ∃ Ow ρ, Rel X.K A Ow σ H ρ ∧ N ρ, fun σ' H' ⟨Ow', ρ', rel', h'⟩ => ?_, A, Ow1, ρ2, _, rel2, h3, key, fun Ow' σ' H' ρ' rel' h' => n Ow' σ' H' ρ' rel' h', key, r⟩
      obtain ⟨m', hm, hw⟩ := hN ρ' h'
      exact ⟨m', hm, Ow', ρ', rel', hw⟩
    | false => exact (if_neg Bool.false_ne_true).mpr (n Ow1 σ1 H2 ρ2 rel2 (h2 rfl))⟩⟩
/-- J walks the data ds, while the pins P stand -/
def WalkOk (K : PySem.W.Frag) (J : It) (P : List (List V × List D)) (ds : List D) : Prop := ∀ (O : Addr → Prop) (H : Hp), (∀ p ∈ P, RpA K O H p.1 p.2) → ∀ i, (ds.length ≤ i → J.stop i H) ∧ (i < ds.length → J.go i H ∧ ∀ x H', J.yld i H x H' → ∃ d, ds[i]? = some d ∧ Same H H' ∧ Rp K O H' x d)
abbrev DI := Env → (List D → Env → Prop) → Prop
def lamI (K : PySem.W.Frag) (ti : DI) : TI := fun σ H Q => ∃ A Ow ρ R, Rel K A Ow σ H ρ ∧ ti ρ R ∧ ∀ J P H' ds ρ', Stp (own A.FO Ow) H H' → Rel K { A with pin := P ++ A.pin } Ow σ H' ρ' → WalkOk K J P ds → R ds ρ' → Q J H'
def QI (X : Cx) (tg iter : Expr) (ti : DI) : Prop := PI X tg iter (lamI X.K ti)
theorem pi_less {tg it : Expr} {t t' : TI} (h : PI X tg it t) (k : ∀ σ H Q, t' σ H Q → t σ H Q) : PI X tg it t' := ⟨fun pins s σ H R I q => h.run pins s σ H R I (k σ H R q)⟩
def dFor (ti : DI) (g : DG) (tb : DS) : DS := fun D ρ => ti ρ fun ds ρ1 => ∃ J : Nat → Env → Prop, J 0 ρ1 ∧ (∀ i d ρ, ds[i]? = some d → J i ρ → g d ρ fun ρ2 => tb { D with nx := J (i + 1), ct := J (i + 1), bk := D.nx } ρ2) ∧ ∀ ρ, J ds.length ρ → D.nx ρ
theorem qs_for {tg iter : Expr} {body : List Stmt} {ti : DI} {g : DG} {tb : DS} (hp : PassesOwn (model X.prog X.w) X.A X.env X.xe) (hc : X.calm = true) (hi : QI X tg iter ti) (hg : QG X tg g) (hb : QSs X body tb) (hs : ∀ x, foldedSetIterable iter X.env x = pure x := by intro _; rfl) : QS X (.For tg iter body [] pos) (dFor ti g tb) :=
  ps_less (ps_for hp hc hi hg hb hs) fun D σ H ⟨A, Ow, ρ, DD, rel, h, n, b, c, r⟩ => ⟨A, Ow, ρ, _, rel, h, fun J P H1 ds ρ1 e1 rel1 wk ⟨V, v0, turn, fin⟩ => by
  refine ⟨fun i m σ H => m = ds.length - i ∧ i ≤ ds.length ∧ ∃ Ow ρ, Rel X.K { A with pin := P ++ A.pin } Ow σ H ρ ∧ V i ρ, ⟨_, rfl, Nat.zero_le _, Ow, ρ1, rel1, v0⟩, ?_⟩
  rintro i m σ2 H2 ⟨hm, hi, Ow2, ρ2, rel2, v2⟩
  have w := wk (own A.FO Ow2) H2 (fun p hp => rel2.pin p (List.mem_append_left _ hp)) i
  by_cases hlt : i < ds.length
  · obtain ⟨g1, g2⟩ := w.2 hlt
    refine .inr ⟨g1, fun σ H => ∃ Ow ρ, Rel X.K { A with pin := P ++ A.pin } Ow σ H ρ ∧ V (i + 1) ρ, fun σ' H' ⟨Ow', ρ', rel', v'⟩ => ⟨_, by omega, rfl, hlt, Ow', ρ', rel', v'⟩, fun x H3 y => ?_⟩
    obtain ⟨d, hd, sm, rp⟩ := g2 x H3 y
    have rel3 := rel2.ext sm
    refine ⟨_, Ow2, ρ2, _, d, rel3, rp, turn i d ρ2 hd v2, fun Ow4 σ4 H4 ρ4 rel4 _ h4 => ?_⟩
    exact ⟨_, Ow4, ρ4, _, rel4, h4, fun Ow' σ' H' ρ' rel' h' => ⟨Ow', ρ', rel', h'⟩, fun Ow' σ' H' ρ' rel' h' => n Ow' σ' H' ρ' rel'.unpin h', fun Ow' σ' H' ρ' rel' h' => ⟨Ow', ρ', rel', h'⟩, fun Ow' σ' H' ρ' v d rel' rp' h' => r.1 Ow' σ' H' ρ' v d rel'.unpin rp' h', fun Ow' σ' H' ρ' p xs cs nw hp rel' rp' h' => r.2 Ow' σ' H' ρ' p xs cs ⟨nw.h0, nw.no, nw.kp⟩ hp (rel'.unpin (A := A.fo p)) rp' h'⟩
  · have e : i = ds.length := by omega
    subst e
    exact .inl ⟨w.1 (Nat.le_refl _), n Ow2 σ2 H2 ρ2 rel2.unpin (fin ρ2 v2)⟩⟩
/-- over a list, a tuple that stands -/
def iSeq (te : DE) : DI := fun ρ Q => te ρ fun d ρ1 => match d with
  | .list ds => Q ds ρ1
  | _ => False
def iSeqT (te : DE) : DI := fun ρ Q => te ρ fun d ρ1 => match d with
  | .tuple ds => Q ds ρ1
  | _ => False
theorem walk_list {K : PySem.W.Frag} {a : Addr} {ds : List D} : WalkOk K (Itl K a) [([.ref a], [.list ds])] ds := fun O H hp i => by
  have h := hp _ List.mem_cons_self
  cases h with
  | cons h _ =>
    cases h with
    | lst hs ha =>
      refine ⟨fun hi => ⟨_, hs.sq, by rw [ha.len]; exact hi⟩, fun hi => ?_⟩
      obtain ⟨v, h1, h2⟩ := ha.get (List.getElem?_eq_getElem hi)
      refine ⟨⟨_, v, hs.sq, h1⟩, fun x H' y => ?_⟩
      obtain ⟨rfl, y2⟩ := y
      have e := (y2 _ hs.sq).symm.trans h1
      cases e
      exact ⟨_, List.getElem?_eq_getElem hi, Same.refl _, h2⟩
theorem walk_tup {K : PySem.W.Frag} {a : Addr} {ds : List D} : WalkOk K (Itt K a) [([.ref a], [.tuple ds])] ds := fun O H hp i => by
  have h := hp _ List.mem_cons_self
  cases h with
  | cons h _ =>
    cases h with
    | tup hs ha =>
      refine ⟨fun hi => ⟨_, hs.sq, by rw [ha.len]; exact hi⟩, fun hi => ?_⟩
      obtain ⟨v, h1, h2⟩ := ha.get (List.getElem?_eq_getElem hi)
      refine ⟨⟨_, v, hs.sq, h1⟩, fun x H' y => ?_⟩
      obtain ⟨rfl, y2⟩ := y
      have e := (y2 _ hs.sq).symm.trans h1
      cases e
      exact ⟨_, List.getElem?_eq_getElem hi, Same.refl _, h2⟩
theorem qi_list {tg : Expr} (he : QE X e te) : QI X tg e (iSeq te) := pi_less (pi_list he) fun σ H Q ⟨A, Ow, ρ, R, rel, h, k⟩ => ⟨A, Ow, ρ, _, rel, h, fun v H1 d ρ1 e1 rel1 rp1 h1 => by
  cases rp1 with
  | lst hs ha => exact ⟨_, rfl, ⟨_, hs.sq⟩, k _ [([.ref _], [.list _])] H1 _ ρ1 e1 (rel1.pins fun p hp => by
      cases List.mem_singleton.mp hp
      exact .one (.lst hs ha)) walk_list h1⟩
  | _ => exact h1.elim⟩
theorem qi_tup {tg : Expr} (he : QE X e te) : QI X tg e (iSeqT te) := pi_less (pi_tup he) fun σ H Q ⟨A, Ow, ρ, R, rel, h, k⟩ => ⟨A, Ow, ρ, _, rel, h, fun v H1 d ρ1 e1 rel1 rp1 h1 => by
  cases rp1 with
  | tup hs ha => exact ⟨_, rfl, ⟨_, hs.sq⟩, k _ [([.ref _], [.tuple _])] H1 _ ρ1 e1 (rel1.pins fun p hp => by
      cases List.mem_singleton.mp hp
      exact .one (.tup hs ha)) walk_tup h1⟩
  | _ => exact h1.elim⟩
def rgD (lo : Int) (n : Nat) : List D := (List.range n).map fun (k : Nat) => PyData.int (lo + (k : Int))
theorem rgD_len {lo : Int} {n : Nat} : (rgD lo n).length = n := by simp [rgD]
theorem rgD_get {lo : Int} {n i : Nat} (h : i < n) : (rgD lo n)[i]? = some (.int (lo + (i : Int))) := by simp [rgD, h]
theorem rgD_at {lo : Int} {n i : Nat} {d : D} (h : (rgD lo n)[i]? = some d) : i < n ∧ d = .int (lo + (i : Int)) := by
  have hi : i < n := by
    have := (List.getElem?_eq_some_iff.mp h).1
    rw [rgD_len] at this
    exact this
  rw [rgD_get hi] at h
  exact ⟨hi, (Option.some.inj h).symm⟩
theorem walk_range {K : PySem.W.Frag} {lo : Int} {n : Nat} : WalkOk K (Itr lo n) [] (rgD lo n) := fun O H hp i => by
  rw [rgD_len]
  refine ⟨fun hi => hi, fun hi => ⟨hi, fun x H' y => ?_⟩⟩
  obtain ⟨rfl, rfl⟩ := y
  exact ⟨_, rgD_get hi, Same.refl _, .int _⟩
def iRng1 (ta : DA) : DI := fun ρ Q => ta ρ fun ds ρ1 => ∃ j : Int, ds = [.int j] ∧ -(2 ^ 62) ≤ j ∧ j < 2 ^ 62 ∧ Q (rgD 0 j.toNat) ρ1
def iRng2 (ta : DA) : DI := fun ρ Q => ta ρ fun ds ρ1 => ∃ i j : Int, ds = [.int i, .int j] ∧ (-(2 ^ 62) ≤ i ∧ i < 2 ^ 62 ∧ -(2 ^ 62) ≤ j ∧ j < 2 ^ 62) ∧ Q (rgD i (j - i).toNat) ρ1
theorem qi_range1 {tg a : Expr} {ta : DA} {p : Pos} (hg : Gl X "range") (hm : X.mg "range" = none) (ha : QA X [a] ta) (hs : starEach [a] X.env = [(false, eval a X.env)] := by rfl) : QI X tg (.Call (.Name "range" p) [a] [] pos) (iRng1 ta) :=
  pi_less (pi_range1 hg hm ha hs) fun σ H Q ⟨A, Ow, ρ, R, rel, h, k⟩ => ⟨A, Ow, ρ, _, rel, h, fun vs H1 ds ρ1 e1 rel1 rp1 ⟨j, h0, h1, h2, h3⟩ => by
  subst h0
  match vs, rp1 with
  | _, .cons (.int _) .nil => exact ⟨j, rfl, h1, h2, k _ [] H1 _ ρ1 e1 rel1.nil walk_range h3⟩⟩
theorem qi_range2 {tg a b : Expr} {ta : DA} {p : Pos} (hg : Gl X "range") (hm : X.mg "range" = none) (ha : QA X [a, b] ta) (hs : starEach [a, b] X.env = [(false, eval a X.env), (false, eval b X.env)] := by rfl) (hs2 : starEach [b] X.env = [(false, eval b X.env)] := by rfl) : QI X tg (.Call (.Name "range" p) [a, b] [] pos) (iRng2 ta) :=
  pi_less (pi_range2 hg hm ha hs hs2) fun σ H Q ⟨A, Ow, ρ, R, rel, h, k⟩ => ⟨A, Ow, ρ, _, rel, h, fun vs H1 ds ρ1 e1 rel1 rp1 ⟨i, j, h0, h1, h3⟩ => by
  subst h0
  match vs, rp1 with
  | _, .cons (.int _) (.cons (.int _) .nil) => exact ⟨i, j, rfl, h1, k _ [] H1 _ ρ1 e1 rel1.nil walk_range h3⟩⟩
/-! ### list comprehensions -/
theorem Rel.keeps {K : PySem.W.Frag} {A : Act} {Ow : Nat → Option Addr} {σ : L2.St} {H : Hp} {ρ : Env} (R : Rel K A Ow σ H ρ) {k : List (Addr × HO)} (h : ∀ p ∈ k, H p.1 = some p.2 ∧ ∀ i, Ow i ≠ some p.1) : Rel K { A with keep := k ++ A.keep } Ow σ H ρ :=
  ⟨R.len, R.sl, R.out, R.uniq, R.kept, R.fo, R.new, R.nofo, R.io, R.one, fun p hp => (List.mem_append.mp hp).elim (h p) (R.keep p), R.pin⟩
theorem Rel.unkeep {K : PySem.W.Frag} {A : Act} {Ow : Nat → Option Addr} {σ : L2.St} {H : Hp} {ρ : Env} {k : List (Addr × HO)} (R : Rel K { A with keep := k ++ A.keep } Ow σ H ρ) : Rel K A Ow σ H ρ :=
  ⟨R.len, R.sl, R.out, R.uniq, R.kept, R.fo, R.new, R.nofo, R.io, R.one, fun p hp => R.keep p (List.mem_append_right _ hp), R.pin⟩
/-- what belongs to others is changed -/
theorem Rel.updFo {K : PySem.W.Frag} {A : Act} {Ow : Nat → Option Addr} {σ : L2.St} {H : Hp} {ρ : Env} {p : Addr} (R : Rel K (A.fo p) Ow σ H ρ) (np : Nw A Ow p) (o : HO) : Rel K (A.fo p) Ow σ (L2.upd H p o) ρ := by
  have e : Stp (own (A.fo p).FO Ow) H (L2.upd H p o) := Stp.upd.weak fun b z => .inl (.inr z)
  have nOw : ∀ i, Ow i ≠ some p := fun i z => np.no (.inr ⟨i, z⟩)
  refine ⟨R.len, fun i s h => (R.sl i s h).mono e fun a ha xs q => ?_, R.out, R.uniq, fun b u n q => ?_, fun b h => ?_, R.new, R.nofo, R.io, R.one, fun q hq => ⟨?_, (R.keep q hq).2⟩, fun q hq => (R.pin q hq).mono e⟩
  · rw [upd_ne (fun z => nOw i (by rw [ha, z]))]
    exact q
  · have hb : b ≠ p := fun z => by
      rw [z] at q
      have z0 : A.H0 p = some u := q
      rw [np.h0] at z0
      cases z0
    rw [upd_ne hb]
    exact R.kept b u n q
  · by_cases z : b = p
    · exact ⟨o, by rw [z]; exact upd_same⟩
    · obtain ⟨u, q⟩ := R.fo b h
      exact ⟨u, by rw [upd_ne z]; exact q⟩
  · rw [upd_ne (np.kp q hq)]
    exact (R.keep q hq).1
/-- a slot that holds nothing known -/
theorem Rel.clear {K : PySem.W.Frag} {A : Act} {Ow : Nat → Option Addr} {σ : L2.St} {H : Hp} {ρ : Env} (R : Rel K A Ow σ H ρ) {i : Nat} {x : Option V} (h : ρ[i]? = some .no) : Rel K A Ow (σ.set i x) H ρ := by
  refine ⟨by rw [List.length_set]; exact R.len, fun j s hj => ?_, R.out, R.uniq, R.kept, R.fo, R.new, R.nofo, R.io, R.one, R.keep, R.pin⟩
  by_cases z : i = j
  · subst z
    rw [h] at hj
    cases hj
    exact R.sl i _ h
  · rw [List.getElem?_set_ne z]
    exact R.sl j s hj
theorem off_id {Ow : Nat → Option Addr} {i : Nat} (h : Ow i = none) : off Ow i = Ow := by
  funext j
  unfold off
  by_cases z : j = i
  · rw [if_pos z, z, h]
  · rw [if_neg z]
def QTs (X : Cx) (ifs : List Expr) (tt : DT) : Prop := PTs X ifs (lamT X.K tt)
def dYes : DT := fun ρ Q => Q true ρ
theorem pts_less {ifs : List Expr} {t t' : TT} (h : PTs X ifs t) (k : ∀ σ H Q, t' σ H Q → t σ H Q) : PTs X ifs t' := ⟨fun pins s σ H Q I q => h.run pins s σ H Q I (k σ H Q q)⟩
theorem qts_nil : QTs X [] dYes := pts_less pts_nil fun σ H Q ⟨A, Ow, ρ, R, rel, h, k⟩ => k true H ρ Stp.refl rel h
theorem qts_one {c : Expr} {tt : DT} (h : QT X c tt) : QTs X [c] tt := pts_one h
/-- the comprehension's own slots -/
def clr (ρ : Env) : List Nat → Env
  | [] => ρ
  | v :: vs => (clr ρ vs).set v .no
def shAt (ρ : Env) (v : Nat) : Prop := match ρ[v]? with
  | some (.sh _) => True
  | some .no => True
  | _ => False
theorem shAt.ne {ρ : Env} {v : Nat} (h : shAt ρ v) : ∀ ds, ρ[v]? ≠ some (.io ds) := fun ds q => by
  unfold shAt at h
  rw [q] at h
  exact h
theorem shAt.set {ρ : Env} {v u : Nat} (h : shAt ρ v) : shAt (ρ.set u .no) v := by
  unfold shAt at h ⊢
  by_cases z : u = v
  · subst z
    by_cases hl : u < ρ.length
    · rw [List.getElem?_set_self hl]
      trivial
    · rw [List.getElem?_eq_none (by omega)] at h
      exact h.elim
  · rw [List.getElem?_set_ne z]
    exact h
theorem shAt.clr {ρ : Env} {v : Nat} (h : shAt ρ v) : ∀ vs, shAt (clr ρ vs) v
  | [] => h
  | u :: us => (h.clr us).set
theorem Rel.noOw {K : PySem.W.Frag} {A : Act} {Ow : Nat → Option Addr} {σ : L2.St} {H : Hp} {ρ : Env} (R : Rel K A Ow σ H ρ) {v : Nat} (h : shAt ρ v) : Ow v = none := by
  unfold shAt at h
  split at h
  · rename_i d q
    exact (R.sl v _ q).1
  · rename_i q
    exact R.sl v _ q
  · exact h.elim
theorem Rel.wiped {K : PySem.W.Frag} {A : Act} {Ow : Nat → Option Addr} {σ : L2.St} {H : Hp} {ρ : Env} (R : Rel K A Ow σ H ρ) : ∀ vs : List Nat, (∀ v ∈ vs, shAt ρ v) → Rel K A Ow (wipe σ vs) H (clr ρ vs)
  | [], _ => R
  | v :: vs, h => by
    have r := R.wiped vs fun u hu => h u (List.mem_cons_of_mem _ hu)
    have hv : shAt (clr ρ vs) v := (h v List.mem_cons_self).clr vs
    have q := r.put (i := v) (x := none) (s := .no) hv.ne rfl
    rw [off_id (r.noOw hv)] at q
    exact q
/-- a comprehension's target -/
def LcT (K : PySem.W.Frag) (g : DG) (G : TG) (vs : List Nat) : Prop := ∀ (A : Act) (Ow : Nat → Option Addr) (σ : L2.St) (H : Hp) (ρ : Env) (R : Env → Prop) (v : V) (d : D) (Q : L2.St → Hp → Prop), Rel K A Ow (wipe σ vs) H ρ → Rp K (own A.FO Ow) H v d → g d ρ R →
  (∀ σ' ρ', Rel K A Ow σ' H ρ' → wipe σ' vs = wipe σ vs → R ρ' → Q σ' H) → G v (wipe σ vs) H Q
def gL (i : Nat) : DG := fun d ρ Q => shAt ρ i ∧ Q (ρ.set i (.sh d))
theorem lct_name {K : PySem.W.Frag} (i : Nat) : LcT K (gL i) (gName i) [i] := fun A Ow σ H ρ R v d Q rel rp ⟨h0, h⟩ k => by
  have q := rel.put (i := i) (x := some v) (s := .sh d) h0.ne ⟨rfl, v, rfl, rp.less own_off⟩
  rw [off_id (rel.noOw h0)] at q
  refine k _ _ q ?_ h
  show (((σ.set i none).set i (some v)).set i none) = σ.set i none
  rw [List.set_set, List.set_set]
def gL2 (i j : Nat) : DG := fun d ρ Q => ∃ a b, d = .tuple [a, b] ∧ shAt ρ i ∧ shAt ρ j ∧ Q ((ρ.set i (.sh a)).set j (.sh b))
theorem shAt.setS {ρ : Env} {v u : Nat} {d : D} (h : shAt ρ v) : shAt (ρ.set u (.sh d)) v := by
  unfold shAt at h ⊢
  by_cases z : u = v
  · subst z
    by_cases hl : u < ρ.length
    · rw [List.getElem?_set_self hl]
      trivial
    · rw [List.getElem?_eq_none (by omega)] at h
      exact h.elim
  · rw [List.getElem?_set_ne z]
    exact h
theorem set_two {i j : Nat} (hij : i ≠ j) (l : L2.St) (x y : Option V) : (((((l.set j none).set i none).set i x).set j y).set j none).set i none = (l.set j none).set i none := by
  apply List.ext_getElem?
  intro k
  by_cases h1 : k = i
  · subst h1
    by_cases hl : k < l.length
    · rw [List.getElem?_set_self (by simpa using hl), List.getElem?_set_self (by simpa using hl)]
    · rw [List.getElem?_eq_none (by simpa using hl), List.getElem?_eq_none (by simpa using hl)]
  · rw [List.getElem?_set_ne (Ne.symm h1), List.getElem?_set_ne (Ne.symm h1)]
    by_cases h2 : k = j
    · subst h2
      by_cases hl : k < l.length
      · rw [List.getElem?_set_self (by simpa using hl), List.getElem?_set_self (by simpa using hl)]
      · rw [List.getElem?_eq_none (by simpa using hl), List.getElem?_eq_none (by simpa using hl)]
    · rw [List.getElem?_set_ne (Ne.symm h2), List.getElem?_set_ne (Ne.symm h2), List.getElem?_set_ne (Ne.symm h1), List.getElem?_set_ne (Ne.symm h1)]
theorem lct_two {K : PySem.W.Frag} {i j : Nat} (hij : i ≠ j) : LcT K (gL2 i j) (gTup K 2 (gCons (gName i) (gCons (gName j) gNil))) [i, j] := fun A Ow σ H ρ R v d Q rel rp h k => by
  obtain ⟨a, b, rfl, h1, h2, h3⟩ := h
  cases rp with
  | tup hs ha =>
    cases ha with
    | cons r1 ha =>
      cases ha with
      | cons r2 ha =>
        cases ha with
        | nil =>
          have q1 := rel.put (i := i) (x := some _) (s := .sh a) h1.ne ⟨rfl, _, rfl, r1.less own_off⟩
          rw [off_id (rel.noOw h1)] at q1
          have h2' : shAt (ρ.set i (.sh a)) j := h2.setS
          have q2 := q1.put (i := j) (x := some _) (s := .sh b) h2'.ne ⟨rfl, _, rfl, r2.less own_off⟩
          rw [off_id (q1.noOw h2')] at q2
          refine ⟨_, _, rfl, hs.sq, rfl, _, _, rfl, _, _, rfl, rfl, k _ _ q2 ?_ h3⟩
          show ((((((σ.set j none).set i none).set i (some _)).set j (some _)).set j none).set i none) = ((σ.set j none).set i none)
          exact set_two hij σ _ _
/-- [te for g in ti if tt]; vs: its own slots -/
def dLc (ti : DI) (g : DG) (tt : DT) (te : DE) (vs : List Nat) : DF := fun ρ Q => ti ρ fun ds ρ1 => (∀ v ∈ vs, shAt ρ1 v) ∧ ∃ J : Nat → List D → Env → Prop, J 0 [] (clr ρ1 vs) ∧
  (∀ k acc d ρ2, ds[k]? = some d → J k acc ρ2 → g d ρ2 fun ρ3 => tt ρ3 fun b ρ4 => (b = true → te ρ4 fun z ρ5 => acc.length < sizeLine ∧ (∀ v ∈ vs, shAt ρ5 v) ∧ J (k + 1) (acc ++ [z]) (clr ρ5 vs)) ∧ (b = false → (∀ v ∈ vs, shAt ρ4 v) ∧ J (k + 1) acc (clr ρ4 vs))) ∧
  ∀ acc ρ2, J ds.length acc ρ2 → Q acc ρ2
def noAt (ρ : Env) (v : Nat) : Prop := ∀ s, ρ[v]? = some s → s = .no
theorem clr_noAt {ρ : Env} : ∀ {vs : List Nat} {v : Nat}, v ∈ vs → noAt (clr ρ vs) v
  | u :: us, v, h => fun s hs => by
    have hs' : ((clr ρ us).set u .no)[v]? = some s := hs
    by_cases z : u = v
    · subst z
      by_cases hl : u < (clr ρ us).length
      · rw [List.getElem?_set_self hl] at hs'
        exact (Option.some.inj hs').symm
      · rw [List.getElem?_eq_none (by rw [List.length_set]; omega)] at hs'
        cases hs'
    · rw [List.getElem?_set_ne z] at hs'
      rcases List.mem_cons.mp h with q | q
      · exact absurd q.symm z
      · exact clr_noAt q s hs'
theorem wipe_get {σ : L2.St} {j : Nat} : ∀ {vs : List Nat}, j ∉ vs → (wipe σ vs)[j]? = σ[j]?
  | [], _ => rfl
  | v :: vs, h => by
    show ((wipe σ vs).set v none)[j]? = σ[j]?
    rw [List.getElem?_set_ne (fun z => h (by rw [z]; exact List.mem_cons_self))]
    exact wipe_get fun q => h (List.mem_cons_of_mem _ q)
theorem Rel.unwipe {K : PySem.W.Frag} {A : Act} {Ow : Nat → Option Addr} {σ : L2.St} {H : Hp} {ρ : Env} {vs : List Nat} (R : Rel K A Ow (wipe σ vs) H ρ) (h : ∀ v ∈ vs, noAt ρ v) : Rel K A Ow σ H ρ := by
  refine ⟨by rw [← wipe_length σ vs]; exact R.len, fun j s hj => ?_, R.out, R.uniq, R.kept, R.fo, R.new, R.nofo, R.io, R.one, R.keep, R.pin⟩
  by_cases z : j ∈ vs
  · have e := h j z s hj
    subst e
    exact R.sl j _ hj
  · rw [← wipe_get z]
    exact R.sl j s hj
theorem lam_lc {K : PySem.W.Frag} {ti : DI} {g : DG} {G : TG} {tt : DT} {te : DE} {vs : List Nat} (hG : LcT K g G vs) (σ : L2.St) (H : Hp) (Q : VK) : lamF K (dLc ti g tt te vs) σ H Q → tLc (lamI K ti) G (lamT K tt) (lam K te) vs σ H Q := fun ⟨A, Ow, ρ, R, rel, h, fin⟩ =>
  ⟨A, Ow, ρ, _, rel, h, fun J P H1 ds ρ1 e1 rel1 wk ⟨hv, V, v0, turn, last⟩ Dl hD => by
  have nw : Nw A Ow Dl := rel1.unpin.nw hD
  have nwP : Nw { A with pin := P ++ A.pin } Ow Dl := ⟨nw.h0, nw.no, nw.kp⟩
  have relD : Rel K ((({ A with pin := P ++ A.pin } : Act)).fo Dl) Ow (wipe σ vs) (L2.upd H1 Dl (.lst [])) (clr ρ1 vs) := (rel1.alloc hD (Same.new hD) ⟨_, upd_same⟩).wiped vs hv
  refine ⟨fun i m H => m = ds.length - i ∧ i ≤ ds.length ∧ ∃ acc xs ρ, H Dl = some (.lst xs) ∧ (∀ v ∈ vs, noAt ρ v) ∧ Rel K ((({ A with pin := P ++ A.pin } : Act)).fo Dl) Ow (wipe σ vs) H ρ ∧ RpA K (own (A.fo Dl).FO Ow) H xs acc ∧ V i acc ρ ∧ Stp (own (A.fo Dl).FO Ow) H1 H, ⟨_, rfl, Nat.zero_le _, [], [], _, upd_same, fun v hv => clr_noAt hv, relD, .nil, v0, Stp.upd.weak fun b z => .inl (.inr z)⟩, ?_⟩
  rintro i m H2 ⟨hm, hi, acc, xs, ρ2, hD2, no2, rel2, rp2, v2, st2⟩
  have w := wk (own (A.fo Dl).FO Ow) H2 (fun p hp => rel2.pin p (List.mem_append_left _ hp)) i
  by_cases hlt : i < ds.length
  · obtain ⟨g1, g2⟩ := w.2 hlt
    refine .inr ⟨g1, fun H => ∃ acc xs ρ, H Dl = some (.lst xs) ∧ (∀ v ∈ vs, noAt ρ v) ∧ Rel K ((({ A with pin := P ++ A.pin } : Act)).fo Dl) Ow (wipe σ vs) H ρ ∧ RpA K (own (A.fo Dl).FO Ow) H xs acc ∧ V (i + 1) acc ρ ∧ Stp (own (A.fo Dl).FO Ow) H1 H, fun H' q => ⟨_, by omega, rfl, hlt, q⟩, fun x H3 y => ?_⟩
    obtain ⟨d, hd, sm, rpx⟩ := g2 x H3 y
    -- the state of the turn: the list so far is kept, its items are pinned
    have k3 : H3 Dl = some (.lst xs) := sm _ _ hD2
    have rel3 := ((rel2.ext sm).pins (P := [(xs, acc)]) fun p hp => by
      cases List.mem_singleton.mp hp
      exact rp2.mono (Stp.of sm)).keeps (k := [(Dl, .lst xs)]) fun p hp => by
        cases List.mem_singleton.mp hp
        exact ⟨k3, fun j z => nw.no (.inr ⟨j, z⟩)⟩
    refine hG _ Ow σ H3 ρ2 _ x d _ rel3 rpx (turn i acc d ρ2 hd v2) fun σ4 ρ4 rel4 wq h4 => ⟨wq, ?_⟩
    refine ⟨_, Ow, ρ4, _, rel4, h4, fun b H5 ρ5 e5 rel5 ⟨h5, h6⟩ => ?_⟩
    have back : ∀ {H : Hp} {ρ : Env}, (∀ v ∈ vs, shAt ρ v) → Rel K ({ (({ A with pin := P ++ A.pin } : Act)).fo Dl with pin := [(xs, acc)] ++ (P ++ A.pin), keep := [(Dl, .lst xs)] ++ A.keep } : Act) Ow σ4 H ρ → Rel K ((({ A with pin := P ++ A.pin } : Act)).fo Dl) Ow (wipe σ vs) H (clr ρ vs) ∧ H Dl = some (.lst xs) ∧ RpA K (own (A.fo Dl).FO Ow) H xs acc := fun {H ρ} hs r => by
      refine ⟨?_, (r.keep _ List.mem_cons_self).1, r.pin _ List.mem_cons_self⟩
      have q := (r.unkeep.unpin (A := (({ A with pin := P ++ A.pin } : Act)).fo Dl)).wiped vs hs
      rw [wq] at q
      exact q
    cases b with
    | true =>
      refine (if_pos rfl).mpr ⟨_, Ow, ρ5, _, rel5, h5 rfl, fun y H6 z ρ6 e6 rel6 rp6 ⟨q1, q2, q3⟩ => ?_⟩
      obtain ⟨b1, b2, b3⟩ := back q2 rel6
      have up := b1.updFo nwP (.lst (xs ++ [y]))
      refine ⟨xs, b2, by rw [rp2.len]; exact q1, _, _, _, upd_same, fun v hv => clr_noAt hv, up, (b3.append (.one rp6)).mono (Stp.upd.weak fun b z => .inl (.inr z)), q3, ?_⟩
      exact ((st2.trans (Stp.of sm)).trans (e5.trans e6)).trans (Stp.upd.weak fun b z => .inl (.inr z))
    | false =>
      obtain ⟨q1, q2⟩ := h6 rfl
      obtain ⟨b1, b2, b3⟩ := back q1 rel5
      exact (if_neg Bool.false_ne_true).mpr ⟨acc, xs, _, b2, fun v hv => clr_noAt hv, b1, b3, q2, (st2.trans (Stp.of sm)).trans e5⟩
  · have e : i = ds.length := by omega
    subst e
    refine .inl ⟨w.1 (Nat.le_refl _), fin Dl H2 xs acc ρ2 ?_ nw hD2 ?_ rp2 (last acc ρ2 v2)⟩
    · refine e1.trans fun b o n h => ?_
      refine st2 b o (fun z => ?_) h
      rcases own_fo b z with z | z
      · exact n z
      · rw [z, hD] at h
        cases h
    · exact (rel2.unpin (A := A.fo Dl)).unwipe no2⟩
theorem qf_lc1 (i : Nat) {elt iter : Expr} {x : Str} {p : Pos} {ifs : List Expr} {scope : Scope} {ti : DI} {tt : DT} {te : DE} (hc : X.calm = true) (hN : X.N.Nodup) (hi : QI X (.Name x p) iter ti) (ok : BlkOk X.N X.env.scope scope [(x, i)])
    (hg : ∀ (s : Shared) (H : Hp) (C : Addr) (cl : List (Str × Addr)) (fp : List Addr), PG (X.blk s H scope (compEnvC scope cl C X.env) fp) (.Name x p) (gName i)) (ht : ∀ (s : Shared) (H : Hp) (C : Addr) (cl : List (Str × Addr)) (fp : List Addr), QTs (X.blk s H scope (compEnvC scope cl C X.env) fp) ifs tt)
    (he : ∀ (s : Shared) (H : Hp) (C : Addr) (cl : List (Str × Addr)) (fp : List Addr), QE (X.blk s H scope (compEnvC scope cl C X.env) fp) elt te) (hs : ∀ x, foldedSetIterable iter X.env x = pure x := by intro _; rfl) : QF X (.ListComp elt [⟨.Name x p, iter, ifs, 0⟩] scope pos) (dLc ti (gL i) tt te [i]) :=
  pe_less (pe_lc (own := [(x, i)]) (tt := lamT X.K tt) (te := lam X.K te) hc hN hi ok hg ht he hs) (lam_lc (lct_name i))
theorem qs_ownLc (i j : Nat) {elt iter : Expr} {x y : Str} {p py spos : Pos} {ifs : List Expr} {scope : Scope} {ti : DI} {tt : DT} {te : DE} (hc : X.calm = true) (hN : X.N.Nodup) (hsw : swapsWith (.ListComp elt [⟨.Name x p, iter, ifs, 0⟩] scope pos) (some (.Name y py)) spos.line X.env = pure true) (hi : QI X (.Name x p) iter ti) (ok : BlkOk X.N X.env.scope scope [(x, j)])
    (hg : ∀ (s : Shared) (H : Hp) (C : Addr) (cl : List (Str × Addr)) (fp : List Addr), PG (X.blk s H scope (compEnvC scope cl C X.env) fp) (.Name x p) (gName j)) (ht : ∀ (s : Shared) (H : Hp) (C : Addr) (cl : List (Str × Addr)) (fp : List Addr), QTs (X.blk s H scope (compEnvC scope cl C X.env) fp) ifs tt)
    (he : ∀ (s : Shared) (H : Hp) (C : Addr) (cl : List (Str × Addr)) (fp : List Addr), QE (X.blk s H scope (compEnvC scope cl C X.env) fp) elt te) (hy : X.N[i]? = some y := by rfl) (hyl : X.env.scope.names.lookup y = some .local := by rfl) (hs : ∀ x, foldedSetIterable iter X.env x = pure x := by intro _; rfl) :
    QS X (.Assign [.Name y py] (.ListComp elt [⟨.Name x p, iter, ifs, 0⟩] scope pos) spos) (dOwn (dLc ti (gL j) tt te [j]) i) :=
  ps_less (ps_setLc (i := i) (own := [(x, j)]) (tt := lamT X.K tt) (te := lam X.K te) hc hN hy hyl hsw hi ok hg ht he hs) fun D σ H ⟨A, Ow, ρ, DD, rel, h, n, b, c, r⟩ =>
    lam_lc (lct_name j) σ H _ ⟨A, Ow, ρ, _, rel, h, fun p H' xs cs ρ' e' nw hp rel' rp' ⟨h0, h'⟩ => n (onn Ow i p) _ H' _ (rel'.take h0.ne h0.lt nw hp rp') h'⟩
end

/-! ### defs -/
def startD (N : List Str) (ds : List D) : Env := ds.map .sh ++ List.replicate (N.length - ds.length) .no
/-- the state at a def's entry -/
theorem rel_start {K : PySem.W.Frag} {N : List Str} {O : Addr → Prop} {H : Hp} {vs : List V} {ds : List D} (r : RpA K O H vs ds) (ht : ∀ a, O a → ∃ o, H a = some o) : Rel K ⟨H, O, [], [], []⟩ (fun _ => none) (L2.start N vs) H (startD N ds) := by
  have e := r.len
  refine ⟨by unfold L2.start startD; simp [e], fun i s h => ?_, fun _ _ => rfl, fun i j a h => (nomatch h), fun b o _ h => h, ht, fun i a h => (nomatch h), fun i a h => (nomatch h), fun p hp => (nomatch hp), fun i a b h => (nomatch h), fun p hp => (nomatch hp), fun p hp => (nomatch hp)⟩
  unfold startD at h
  unfold L2.start
  by_cases hi : i < ds.length
  · rw [List.getElem?_append_left (by rw [List.length_map]; exact hi), List.getElem?_map, List.getElem?_eq_getElem hi] at h
    cases h
    obtain ⟨v, h1, h2⟩ := r.get (List.getElem?_eq_getElem hi)
    refine ⟨rfl, v, ?_, h2.less fun b z => ?_⟩
    · rw [List.getElem?_append_left (by rw [List.length_map, e]; exact hi), List.getElem?_map, h1]
      rfl
    · rcases z with z | ⟨j, z⟩
      · exact z
      · cases z
  · rw [List.getElem?_append_right (by rw [List.length_map]; omega)] at h
    have q := List.getElem?_eq_some_iff.mp h
    obtain ⟨_, q⟩ := q
    rw [List.getElem_replicate] at q
    subst q
    exact rfl
section
variable {P : Program} {w : World} {K : PySem.W.Frag} {mg : Str → Option Value} {base : Heap}
/-- the context of a def's body -/
abbrev ctx (P : Program) (w : World) (K : PySem.W.Frag) (mg : Str → Option Value) (base : Heap) (N : List Str) (qual : Str) (st : Stmt) (f : Addr) (cdv : Value) (A : Around) (outer : List PySem.Env) (s : Shared) (H : Hp) (E : XK) : Cx := (cxOf CX0 P w K mg base N qual (defScope st) f cdv A outer s H E).nox
/-- what a def's reading is: its body as a term of rules, for every context -/
def Body (P : Program) (w : World) (K : PySem.W.Frag) (mg : Str → Option Value) (base : Heap) (N : List Str) (qual : Str) (st : Stmt) (k : Nat) (G : DS → Prop) : Prop :=
  ∀ (f : Addr) (cdv : Value) (A : Around) (outer : List PySem.Env) (s : Shared) (H : Hp) (E : XK), Room k (ctx P w K mg base N qual st f cdv A outer s H E).A → ∃ ts, QSs (ctx P w K mg base N qual st f cdv A outer s H E) (defBody st) ts ∧ G ts
/-- a def's body from data to data -/
theorem fn_D {x qual : Str} {st : Stmt} {f : Addr} {fd : FuncData} {N ps : List Str} {k : Nat} {p : List D → (D → Prop) → Prop} (F : Fun K x qual st f fd) (S : FnScope N ps (defScope st)) (len : ∀ ds R, p ds R → ds.length = ps.length)
    (hbody : Body P w K mg base N qual st k fun ts => ∀ ds R, p ds R → ts { nx := fun _ => R .none, rt := fun d _ => R d } (startD N ds)) : FnOk P w K mg base CX0 (k + 1) f fd ps (spD K p) := by
  refine F.ok S (fun vs H Q E h => ?_) (fun cdv A outer s H vs Q E hr h => ?_)
  · obtain ⟨O, ds, R, h1, _, h2, _⟩ := h
    rw [h1.len]
    exact len ds R h2
  · obtain ⟨O, ds, R, h1, h2, h3, h4⟩ := h
    obtain ⟨ts, hq, hs⟩ := hbody f cdv A outer s H E hr
    refine ⟨_, hq, _, _, _, _, rel_start h1 h2, hs ds R h3, fun Ow' σ' H' ρ' rel' h' => ?_, fun _ _ _ _ _ z => z.elim, fun _ _ _ _ _ z => z.elim, fun Ow' σ' H' ρ' v d rel' rp' h' => ?_, fun _ _ _ _ _ _ _ _ _ _ _ z => z.elim⟩
    · exact h4 .non H' .none (fun b o q => rel'.kept b o (fun i z => nomatch z) q) .non h'
    · exact h4 v H' d (fun b o q => rel'.kept b o (fun i z => nomatch z) q) (rp'.less fun b z => .inl z) h'
theorem fn_F {x qual : Str} {st : Stmt} {f : Addr} {fd : FuncData} {N ps : List Str} {k : Nat} {p : List D → (List D → Prop) → Prop} (F : Fun K x qual st f fd) (S : FnScope N ps (defScope st)) (len : ∀ ds R, p ds R → ds.length = ps.length)
    (hbody : Body P w K mg base N qual st k fun ts => ∀ ds R, p ds R → ts { nx := fun _ => False, rt := fun _ _ => False, rf := fun cs _ => R cs } (startD N ds)) : FnOk P w K mg base CX0 (k + 1) f fd ps (spF K p) := by
  refine F.ok S (fun vs H Q E h => ?_) (fun cdv A outer s H vs Q E hr h => ?_)
  · obtain ⟨O, ds, R, h1, _, h2, _⟩ := h
    rw [h1.len]
    exact len ds R h2
  · obtain ⟨O, ds, R, h1, h2, h3, h4⟩ := h
    obtain ⟨ts, hq, hs⟩ := hbody f cdv A outer s H E hr
    refine ⟨_, hq, _, _, _, _, rel_start h1 h2, hs ds R h3, fun _ _ _ _ _ z => z.elim, fun _ _ _ _ _ z => z.elim, fun _ _ _ _ _ z => z.elim, fun _ _ _ _ _ _ _ _ z => z.elim, fun Ow' σ' H' ρ' q xs cs nw hp rel' rp' h' => ?_⟩
    exact h4 q H' xs cs (fun b o z => rel'.kept b o (fun i z => nomatch z) z) nw.h0 hp (rp'.less fun b z => .inl z) h'
def startI (N : List Str) (cs ds : List D) : Env := .io cs :: (ds.map .sh ++ List.replicate (N.length - (ds.length + 1)) .no)
theorem rel_startI {N : List Str} {O : Addr → Prop} {H : Hp} {a : Addr} {xs vs : List V} {cs ds : List D} (hO : O a) (ha : H a = some (.lst xs)) (hc : RpA K O H xs cs) (r : RpA K O H vs ds) (ht : ∀ a, O a → ∃ o, H a = some o) (hN : N ≠ []) :
    Rel K ⟨H, O, [(0, a)], [], []⟩ (fun i => if i = 0 then some a else none) (L2.start N (.ref a :: vs)) H (startI N cs ds) := by
  have e := r.len
  have lessO : ∀ b, own O (fun i => if i = 0 then some a else none) b → O b := fun b z => by
    rcases z with z | ⟨j, z⟩
    · exact z
    · by_cases q : j = 0
      · simp only [q, if_true] at z
        cases z; exact hO
      · simp only [q, if_false] at z
        cases z
  refine ⟨by unfold L2.start startI; simp [e], fun i s h => ?_, fun i hi => ?_, fun i j b h1 h2 => ?_, fun b o _ h => h, ht, fun i b h => ?_, fun i b h => ?_, fun p hp => ?_, fun i b c h1 h2 => ?_, fun p hp => (nomatch hp), fun p hp => (nomatch hp)⟩
  · unfold startI at h
    unfold L2.start
    cases i with
    | zero =>
      simp only [List.getElem?_cons_zero] at h
      cases h
      exact ⟨a, xs, rfl, rfl, ha, hc.less lessO, List.mem_singleton.mpr rfl⟩
    | succ i =>
      simp only [List.getElem?_cons_succ, List.map_cons, List.cons_append] at h ⊢
      have ez : (if i + 1 = 0 then some a else none) = (none : Option Addr) := by simp
      rw [ez]
      by_cases hi : i < ds.length
      · rw [List.getElem?_append_left (by rw [List.length_map]; exact hi), List.getElem?_map, List.getElem?_eq_getElem hi] at h
        cases h
        obtain ⟨v, h1, h2⟩ := r.get (List.getElem?_eq_getElem hi)
        refine ⟨rfl, v, ?_, h2.less lessO⟩
        rw [List.getElem?_append_left (by rw [List.length_map, e]; exact hi), List.getElem?_map, h1]
        rfl
      · rw [List.getElem?_append_right (by rw [List.length_map]; omega)] at h
        obtain ⟨_, q⟩ := List.getElem?_eq_some_iff.mp h
        rw [List.getElem_replicate] at q
        subst q
        exact rfl
  · have : i ≠ 0 := by
      unfold startI at hi
      simp at hi
      omega
    simp [this]
  · by_cases q : i = 0
    · by_cases q2 : j = 0
      · rw [q, q2]
      · simp [q2] at h2
    · simp [q] at h1
  · by_cases q : i = 0
    · simp [q] at h
      subst h
      exact .inr (by rw [q]; exact List.mem_singleton.mpr rfl)
    · simp [q] at h
  · by_cases q : i = 0
    · simp [q] at h
      subst h
      exact .inl (by rw [q]; exact List.mem_singleton.mpr rfl)
    · simp [q] at h
  · cases List.mem_singleton.mp hp
    exact ⟨cs, rfl⟩
  · cases List.mem_singleton.mp h1
    cases List.mem_singleton.mp h2
    rfl
theorem Rel.endI {A : Act} {O : Addr → Prop} {H0 : Hp} {a : Addr} {Ow : Nat → Option Addr} {σ : L2.St} {H : Hp} {ρ : Env} {cs : List D} (hA : A.io = [(0, a)]) (R : Rel K A Ow σ H ρ) (h : ρ[0]? = some (.io cs)) : ∃ xs, H a = some (.lst xs) ∧ RpA K (own A.FO Ow) H xs cs := by
  obtain ⟨b, xs, h1, h2, h3, h4, h5⟩ := R.sl 0 _ h
  rw [hA] at h5
  cases List.mem_singleton.mp h5
  exact ⟨xs, h3, h4⟩
theorem not_io {a b : Addr} (h : b ≠ a) : ∀ i : Nat, (i, b) ∉ [((0 : Nat), a)] := fun i z => by
  cases List.mem_singleton.mp z
  exact h rfl
theorem fn_I {x qual : Str} {st : Stmt} {f : Addr} {fd : FuncData} {N ps : List Str} {k : Nat} {p : List D → List D → (D → List D → Prop) → Prop} (F : Fun K x qual st f fd) (S : FnScope N ps (defScope st)) (hN : N ≠ []) (len : ∀ cs ds R, p cs ds R → ds.length + 1 = ps.length)
    (hbody : Body P w K mg base N qual st k fun ts => ∀ cs ds R, p cs ds R → ts { nx := fun ρ => ∃ cs', ρ[0]? = some (.io cs') ∧ R .none cs', rt := fun d ρ => ∃ cs', ρ[0]? = some (.io cs') ∧ R d cs' } (startI N cs ds)) : FnOk P w K mg base CX0 (k + 1) f fd ps (spI K p) := by
  refine F.ok S (fun vs H Q E h => ?_) (fun cdv A outer s H vs Q E hr h => ?_)
  · obtain ⟨O, a, xs, cs, vs', ds, R, rfl, _, _, _, h1, _, h2, _⟩ := h
    rw [List.length_cons, h1.len]
    exact len cs ds R h2
  · obtain ⟨O, a, xs, cs, vs', ds, R, rfl, hO, ha, hc, h1, h2, h3, h4⟩ := h
    obtain ⟨ts, hq, hs⟩ := hbody f cdv A outer s H E hr
    refine ⟨_, hq, _, _, _, _, rel_startI hO ha hc h1 h2 hN, hs cs ds R h3, fun Ow' σ' H' ρ' rel' ⟨cs', g1, g2⟩ => ?_, fun _ _ _ _ _ z => z.elim, fun _ _ _ _ _ z => z.elim, fun Ow' σ' H' ρ' v d rel' rp' ⟨cs', g1, g2⟩ => ?_, fun _ _ _ _ _ _ _ _ _ _ _ z => z.elim⟩
    · obtain ⟨xs', k1, k2⟩ := rel'.endI (O := O) (H0 := H) rfl g1
      exact h4 .non H' xs' cs' .none (fun b o n q => rel'.kept b o (not_io n) q) k1 (k2.less fun b z => .inl z) .non g2
    · obtain ⟨xs', k1, k2⟩ := rel'.endI (O := O) (H0 := H) rfl g1
      exact h4 v H' xs' cs' d (fun b o n q => rel'.kept b o (not_io n) q) k1 (k2.less fun b z => .inl z) (rp'.less fun b z => .inl z) g2
end
/-! ### operations -/
section
variable {K : PySem.W.Frag}
def dI (C : Int → Int → Prop) (g : Int → Int → D) (d e : D) (R : D → Prop) : Prop := match d, e with
  | .int i, .int j => C i j ∧ R (g i j)
  | _, _ => False
def dI0 (g : Int → Int → D) (d e : D) (R : D → Prop) : Prop := match d, e with
  | .int i, .int j => R (g i j)
  | _, _ => False
theorem lift_I {C : Int → Int → Prop} {g : Int → Int → V} {g' : Int → Int → D} (hg : ∀ O H i j, Rp K O H (g i j) (g' i j)) : Lift2 K (rI C g) (dI C g') := fun O H x y d e R Q _ hx hy h k => by
  cases hx with
  | int i =>
    cases hy with
    | int j => exact ⟨i, j, rfl, rfl, h.1, k _ _ _ (Same.refl H) (hg O H i j) h.2⟩
    | _ => exact h.elim
  | _ => cases hy <;> exact h.elim
theorem lift_I0 {g : Int → Int → V} {g' : Int → Int → D} (hg : ∀ O H i j, Rp K O H (g i j) (g' i j)) : Lift2 K (rI0 g) (dI0 g') := fun O H x y d e R Q _ hx hy h k => by
  cases hx with
  | int i =>
    cases hy with
    | int j => exact ⟨i, j, rfl, rfl, k _ _ _ (Same.refl H) (hg O H i j) h⟩
    | _ => exact h.elim
  | _ => cases hy <;> exact h.elim
theorem Lift2.or {r r' : R2} {rd rd' : D → D → (D → Prop) → Prop} (h : Lift2 K r rd) (h' : Lift2 K r' rd') : Lift2 K (fun x y H Q => r x y H Q ∨ r' x y H Q) (fun d e R => rd d e R ∨ rd' d e R) := fun O H x y d e R Q ho hx hy q k => by
  rcases q with q | q
  · exact .inl (h O H x y d e R Q ho hx hy q k)
  · exact .inr (h' O H x y d e R Q ho hx hy q k)
theorem Lift2.less {r : R2} {rd rd' : D → D → (D → Prop) → Prop} (h : Lift2 K r rd) (s : ∀ d e R, rd' d e R → rd d e R) : Lift2 K r rd' := fun O H x y d e R Q ho hx hy q k => h O H x y d e R Q ho hx hy (s d e R q) k
def dStrCat (d e : D) (R : D → Prop) : Prop := match d, e with
  | .str i, .str j => i.length + j.length ≤ sizeLine ∧ R (.str (i ++ j))
  | _, _ => False
theorem lift_strCat : Lift2 K (fun x y H Q => ∃ i j, x = .str i ∧ y = .str j ∧ i.length + j.length ≤ sizeLine ∧ Q (.str (i ++ j)) H) dStrCat := fun O H x y d e R Q _ hx hy h k => by
  cases hx with
  | str i =>
    cases hy with
    | str j => exact ⟨i, j, rfl, rfl, h.1, k _ _ _ (Same.refl H) (.str _) h.2⟩
    | _ => exact h.elim
  | _ => cases hy <;> exact h.elim
def dAdd (d e : D) (R : D → Prop) : Prop := match d, e with
  | .int i, .int j => R (.int (i + j))
  | .str i, .str j => i.length + j.length ≤ sizeLine ∧ R (.str (i ++ j))
  | _, _ => False
theorem lift_add : Lift2 K (fun x y H Q => rI0 (fun i j => .int (i + j)) x y H Q ∨ ∃ i j, x = .str i ∧ y = .str j ∧ i.length + j.length ≤ sizeLine ∧ Q (.str (i ++ j)) H) dAdd :=
  ((lift_I0 fun _ _ _ _ => .int _).or lift_strCat).less (rd' := dAdd) fun d e R h => by
    cases d <;> cases e <;> first | exact .inl h | exact .inr h | exact h.elim
abbrev dSub := dI0 fun i j => .int (i - j)
def CMulA (i j : Int) : Prop := CMul i j ∨ CMulW i j
theorem op_mulA {X : Cx} : OpR X (binaryOp .Mult) (rI CMulA fun i j => .int (i * j)) := opI fun _ _ _ _ _ _ _ hc q => PyProof.Rows.mul_int q (hc.elim (fun h => h.ok) fun h => h.ok)
def CDivG (i j : Int) : Prop := j ≠ 0 ∧ Builtin.divisionGoesByPylong i j = false
theorem op_fdivG {X : Cx} : OpR X (binaryOp .FloorDiv) (rI CDivG fun i j => .int (i.fdiv j)) := opI fun _ _ _ _ _ _ _ hc q => PyProof.Rows.floordiv_int hc.1 q (.inl hc.2)
abbrev dMul := dI CMulA fun i j => .int (i * j)
abbrev dFdv := dI CDivG fun i j => .int (i.fdiv j)
abbrev dMod := dI (fun _ j => j ≠ 0) fun i j => .int (i.fmod j)
abbrev dPow := dI CPow fun i j => .int (i ^ j.toNat)
/-! equality -/
def rEqA (K : PySem.W.Frag) : R2 := fun x y H Q => rEq x y H Q ∨ rEqD K x y H Q
def rNeA (K : PySem.W.Frag) : R2 := fun x y H Q => rNe x y H Q ∨ rNeD K x y H Q
def dEqB (d e : D) (R : Bool → Prop) : Prop := match d, e with
  | .int i, .int j => R (i == j)
  | .str i, .str j => R (i == j)
  | .bool i, .bool j => R (i == j)
  | d, e => SeqAt.shaped d = true ∧ SeqAt.shaped e = true ∧ R (PyData.eqv d e)
def dEq (d e : D) (R : D → Prop) : Prop := dEqB d e fun b => R (.bool b)
def dNe (d e : D) (R : D → Prop) : Prop := dEqB d e fun b => R (.bool !b)
theorem rEq_int {i j : Int} {H : Hp} {Q : VK} (h : Q (.bl (i == j)) H) : rEq (.int i) (.int j) H Q := ⟨rfl, by rw [dec_int]; exact h⟩
theorem rEq_str {i j : Str} {H : Hp} {Q : VK} (h : Q (.bl (i == j)) H) : rEq (.str i) (.str j) H Q := ⟨rfl, by rw [dec_str]; exact h⟩
theorem rEq_bl {i j : Bool} {H : Hp} {Q : VK} (h : Q (.bl (i == j)) H) : rEq (.bl i) (.bl j) H Q := ⟨rfl, by rw [dec_bl]; exact h⟩
theorem rNe_int {i j : Int} {H : Hp} {Q : VK} (h : Q (.bl (!(i == j))) H) : rNe (.int i) (.int j) H Q := ⟨rfl, by rw [dec_int]; exact h⟩
theorem rNe_str {i j : Str} {H : Hp} {Q : VK} (h : Q (.bl (!(i == j))) H) : rNe (.str i) (.str j) H Q := ⟨rfl, by rw [dec_str]; exact h⟩
theorem rNe_bl {i j : Bool} {H : Hp} {Q : VK} (h : Q (.bl (!(i == j))) H) : rNe (.bl i) (.bl j) H Q := ⟨rfl, by rw [dec_bl]; exact h⟩
theorem lift_eq : Lift2 K (rEqA K) dEq := fun O H x y d e R Q _ hx hy h k => by
  have dp1 := hx.dp
  have dp2 := hy.dp
  cases hx with
  | int i =>
    cases hy with
    | int j => exact .inl (rEq_int (k _ _ _ (Same.refl H) (.bl _) h))
    | _ => exact .inr ⟨_, _, dp1, dp2, h.1, h.2.1, k _ _ _ (Same.refl H) (.bl _) h.2.2⟩
  | str i =>
    cases hy with
    | str j => exact .inl (rEq_str (k _ _ _ (Same.refl H) (.bl _) h))
    | _ => exact .inr ⟨_, _, dp1, dp2, h.1, h.2.1, k _ _ _ (Same.refl H) (.bl _) h.2.2⟩
  | bl i =>
    cases hy with
    | bl j => exact .inl (rEq_bl (k _ _ _ (Same.refl H) (.bl _) h))
    | _ => exact .inr ⟨_, _, dp1, dp2, h.1, h.2.1, k _ _ _ (Same.refl H) (.bl _) h.2.2⟩
  | _ => cases hy <;> exact .inr ⟨_, _, dp1, dp2, h.1, h.2.1, k _ _ _ (Same.refl H) (.bl _) h.2.2⟩
theorem lift_ne : Lift2 K (rNeA K) dNe := fun O H x y d e R Q _ hx hy h k => by
  have dp1 := hx.dp
  have dp2 := hy.dp
  cases hx with
  | int i =>
    cases hy with
    | int j => exact .inl (rNe_int (k _ _ _ (Same.refl H) (.bl _) h))
    | _ => exact .inr ⟨_, _, dp1, dp2, h.1, h.2.1, k _ _ _ (Same.refl H) (.bl _) h.2.2⟩
  | str i =>
    cases hy with
    | str j => exact .inl (rNe_str (k _ _ _ (Same.refl H) (.bl _) h))
    | _ => exact .inr ⟨_, _, dp1, dp2, h.1, h.2.1, k _ _ _ (Same.refl H) (.bl _) h.2.2⟩
  | bl i =>
    cases hy with
    | bl j => exact .inl (rNe_bl (k _ _ _ (Same.refl H) (.bl _) h))
    | _ => exact .inr ⟨_, _, dp1, dp2, h.1, h.2.1, k _ _ _ (Same.refl H) (.bl _) h.2.2⟩
  | _ => cases hy <;> exact .inr ⟨_, _, dp1, dp2, h.1, h.2.1, k _ _ _ (Same.refl H) (.bl _) h.2.2⟩
/-! order -/
def rCmD (K : PySem.W.Frag) (f : D → D → Bool) : R2 := fun x y H Q => ∃ d e, Dp K H x d ∧ Dp K H y e ∧ PySem.W.alike d e = true ∧ d ≠ .none ∧ d.depth ≤ 64 ∧ Q (.bl (f d e)) H
def dCmB (g : Int → Int → Bool) (f : D → D → Bool) (d e : D) (R : D → Prop) : Prop := match d, e with
  | .int i, .int j => R (.bool (g i j))
  | d, e => PySem.W.alike d e = true ∧ d ≠ .none ∧ d.depth ≤ 64 ∧ R (.bool (f d e))
theorem lift_cm {g : Int → Int → Bool} {f : D → D → Bool} : Lift2 K (fun x y H Q => rI0 (fun i j => .bl (g i j)) x y H Q ∨ rCmD K f x y H Q) (dCmB g f) := fun O H x y d e R Q _ hx hy h k => by
  have dp1 := hx.dp
  have dp2 := hy.dp
  cases hx with
  | int i =>
    cases hy with
    | int j => exact .inl ⟨i, j, rfl, rfl, k _ _ _ (Same.refl H) (.bl _) h⟩
    | _ => exact .inr ⟨_, _, dp1, dp2, h.1, h.2.1, h.2.2.1, k _ _ _ (Same.refl H) (.bl _) h.2.2.2⟩
  | _ => cases hy <;> exact .inr ⟨_, _, dp1, dp2, h.1, h.2.1, h.2.2.1, k _ _ _ (Same.refl H) (.bl _) h.2.2.2⟩
variable {X : Cx}
theorem op_ltD (hu : X.A.units + 64 < cLine) : OpR X (compareOp .Lt) (rCmD X.K fun d e => PySem.W.dataLt d e) := by
  intro pins s σ H x y v u Q I rx ry h
  obtain ⟨d, e, hd, he, ha, hn, hdp, q⟩ := h
  obtain ⟨as, r1⟩ := Dp.reads I d x v hd rx
  obtain ⟨bs, r2⟩ := Dp.reads I e y u he ry
  have hm : min d.depth e.depth ≤ d.depth := Nat.min_le_left _ _
  exact PySem.W.lt_data r1 r2 ha hn (by omega) ⟨.bl _, H, I, rfl, q⟩
theorem op_gtD (hu : X.A.units + 64 < cLine) : OpR X (compareOp .Gt) (rCmD X.K fun d e => PySem.W.dataLt e d) := by
  intro pins s σ H x y v u Q I rx ry h
  obtain ⟨d, e, hd, he, ha, hn, hdp, q⟩ := h
  obtain ⟨as, r1⟩ := Dp.reads I d x v hd rx
  obtain ⟨bs, r2⟩ := Dp.reads I e y u he ry
  have hm : min d.depth e.depth ≤ d.depth := Nat.min_le_left _ _
  exact PySem.W.gt_data r1 r2 ha hn (by omega) ⟨.bl _, H, I, rfl, q⟩
theorem op_leD (hu : X.A.units + 64 < cLine) : OpR X (compareOp .LtE) (rCmD X.K fun d e => !PySem.W.dataLt e d) := by
  intro pins s σ H x y v u Q I rx ry h
  obtain ⟨d, e, hd, he, ha, hn, hdp, q⟩ := h
  obtain ⟨as, r1⟩ := Dp.reads I d x v hd rx
  obtain ⟨bs, r2⟩ := Dp.reads I e y u he ry
  have hm : min d.depth e.depth ≤ d.depth := Nat.min_le_left _ _
  exact PySem.W.le_data r1 r2 ha hn (by omega) ⟨.bl _, H, I, rfl, q⟩
theorem op_geD (hu : X.A.units + 64 < cLine) : OpR X (compareOp .GtE) (rCmD X.K fun d e => !PySem.W.dataLt d e) := by
  intro pins s σ H x y v u Q I rx ry h
  obtain ⟨d, e, hd, he, ha, hn, hdp, q⟩ := h
  obtain ⟨as, r1⟩ := Dp.reads I d x v hd rx
  obtain ⟨bs, r2⟩ := Dp.reads I e y u he ry
  have hm : min d.depth e.depth ≤ d.depth := Nat.min_le_left _ _
  exact PySem.W.ge_data r1 r2 ha hn (by omega) ⟨.bl _, H, I, rfl, q⟩
abbrev dLt := dCmB (fun i j => decide (i < j)) fun d e => PySem.W.dataLt d e
abbrev dGt := dCmB (fun i j => decide (j < i)) fun d e => PySem.W.dataLt e d
abbrev dLe := dCmB (fun i j => decide (i ≤ j)) fun d e => !PySem.W.dataLt e d
abbrev dGe := dCmB (fun i j => decide (j ≤ i)) fun d e => !PySem.W.dataLt d e
/-! in -/
def dIn (neg : Bool) (d e : D) (R : D → Prop) : Prop := match e with
  | .list ds => SeqAt.shaped d = true ∧ SeqAt.shaped (.list ds) = true ∧ R (.bool (if neg then !(ds.any fun z => PyData.eqv z d) else ds.any fun z => PyData.eqv z d))
  | _ => False
theorem lift_in : Lift2 K (rInD K) (dIn false) := fun O H x y d e R Q _ hx hy h k => by
  have dp1 := hx.dp
  have dp2 := hy.dp
  cases hy with
  | lst _ _ => exact ⟨d, _, dp1, dp2, h.1, h.2.1, k _ _ _ (Same.refl H) (.bl _) h.2.2⟩
  | _ => exact h.elim
theorem lift_notin : Lift2 K (rNotInD K) (dIn true) := fun O H x y d e R Q _ hx hy h k => by
  have dp1 := hx.dp
  have dp2 := hy.dp
  cases hy with
  | lst _ _ => exact ⟨d, _, dp1, dp2, h.1, h.2.1, k _ _ _ (Same.refl H) (.bl _) h.2.2⟩
  | _ => exact h.elim
/-! the rules -/
variable {pos : Pos} {a b : Expr} {ta tb : DE}
theorem q_add (ha : QE X a ta) (hb : QE X b tb) : QE X (.BinOp a .Add b pos) (dOp dAdd ta tb) := qe_op (op_add.or op_add_str) lift_add ha hb
theorem q_sub (ha : QE X a ta) (hb : QE X b tb) : QE X (.BinOp a .Sub b pos) (dOp dSub ta tb) := qe_op op_sub (lift_I0 fun _ _ _ _ => .int _) ha hb
theorem q_mul (ha : QE X a ta) (hb : QE X b tb) : QE X (.BinOp a .Mult b pos) (dOp dMul ta tb) := qe_op op_mulA (lift_I fun _ _ _ _ => .int _) ha hb
theorem q_fdv (ha : QE X a ta) (hb : QE X b tb) : QE X (.BinOp a .FloorDiv b pos) (dOp dFdv ta tb) := qe_op op_fdivG (lift_I fun _ _ _ _ => .int _) ha hb
theorem q_mod (ha : QE X a ta) (hb : QE X b tb) : QE X (.BinOp a .Mod b pos) (dOp dMod ta tb) := qe_op op_modN (lift_I fun _ _ _ _ => .int _) ha hb
theorem q_pow (ha : QE X a ta) (hb : QE X b tb) : QE X (.BinOp a .Pow b pos) (dOp dPow ta tb) := qe_op op_pow (lift_I fun _ _ _ _ => .int _) ha hb
def dNeg (d : D) (R : D → Prop) : Prop := match d with
  | .int i => R (.int (-i))
  | _ => False
theorem lift_neg : Lift1 K (rU fun i => .int (-i)) dNeg := fun O H x d R Q _ hx h k => by
  cases hx with
  | int i => exact ⟨i, rfl, k _ _ _ (Same.refl H) (.int _) h⟩
  | _ => exact h.elim
theorem q_neg (ha : QE X a ta) : QE X (.UnaryOp .USub a pos) (fun ρ Q => ta ρ fun d ρ1 => dNeg d fun z => Q z ρ1) := qe_un un_neg lift_neg ha
theorem q_eq (hu : X.A.units + 64 < cLine) (ha : QE X a ta) (hb : QE X b tb) : QE X (.Compare a [.Eq] [b] pos) (dOp dEq ta tb) := qe_cmpR (op_eq.or (op_eqD hu)) lift_eq ha hb (nomark _)
theorem q_ne (hu : X.A.units + 64 < cLine) (ha : QE X a ta) (hb : QE X b tb) : QE X (.Compare a [.NotEq] [b] pos) (dOp dNe ta tb) := qe_cmpR (op_ne.or (op_neD hu)) lift_ne ha hb (nomark _)
theorem q_lt (hu : X.A.units + 64 < cLine) (ha : QE X a ta) (hb : QE X b tb) : QE X (.Compare a [.Lt] [b] pos) (dOp dLt ta tb) := qe_cmpR (op_lt.or (op_ltD hu)) lift_cm ha hb (nomark _)
theorem q_gt (hu : X.A.units + 64 < cLine) (ha : QE X a ta) (hb : QE X b tb) : QE X (.Compare a [.Gt] [b] pos) (dOp dGt ta tb) := qe_cmpR (op_gt.or (op_gtD hu)) lift_cm ha hb (nomark _)
theorem q_le (hu : X.A.units + 64 < cLine) (ha : QE X a ta) (hb : QE X b tb) : QE X (.Compare a [.LtE] [b] pos) (dOp dLe ta tb) := qe_cmpR (op_le.or (op_leD hu)) lift_cm ha hb (nomark _)
theorem q_ge (hu : X.A.units + 64 < cLine) (ha : QE X a ta) (hb : QE X b tb) : QE X (.Compare a [.GtE] [b] pos) (dOp dGe ta tb) := qe_cmpR (op_ge.or (op_geD hu)) lift_cm ha hb (nomark _)
theorem t_eq (hu : X.A.units + 64 < cLine) (ha : QE X a ta) (hb : QE X b tb) : QT X (.Compare a [.Eq] [b] pos) (dTest (dOp dEq ta tb)) := qt_cmpR (op_eq.or (op_eqD hu)) lift_eq ha hb (nomark _)
theorem t_ne (hu : X.A.units + 64 < cLine) (ha : QE X a ta) (hb : QE X b tb) : QT X (.Compare a [.NotEq] [b] pos) (dTest (dOp dNe ta tb)) := qt_cmpR (op_ne.or (op_neD hu)) lift_ne ha hb (nomark _)
theorem t_lt (hu : X.A.units + 64 < cLine) (ha : QE X a ta) (hb : QE X b tb) : QT X (.Compare a [.Lt] [b] pos) (dTest (dOp dLt ta tb)) := qt_cmpR (op_lt.or (op_ltD hu)) lift_cm ha hb (nomark _)
theorem t_gt (hu : X.A.units + 64 < cLine) (ha : QE X a ta) (hb : QE X b tb) : QT X (.Compare a [.Gt] [b] pos) (dTest (dOp dGt ta tb)) := qt_cmpR (op_gt.or (op_gtD hu)) lift_cm ha hb (nomark _)
theorem t_le (hu : X.A.units + 64 < cLine) (ha : QE X a ta) (hb : QE X b tb) : QT X (.Compare a [.LtE] [b] pos) (dTest (dOp dLe ta tb)) := qt_cmpR (op_le.or (op_leD hu)) lift_cm ha hb (nomark _)
theorem t_ge (hu : X.A.units + 64 < cLine) (ha : QE X a ta) (hb : QE X b tb) : QT X (.Compare a [.GtE] [b] pos) (dTest (dOp dGe ta tb)) := qt_cmpR (op_ge.or (op_geD hu)) lift_cm ha hb (nomark _)
theorem q_in (hu : X.A.units + 65 < cLine) (ha : QE X a ta) (hb : QE X b tb) (hm : behindInMarks .In b = false := by with_unfolding_all rfl) : QE X (.Compare a [.In] [b] pos) (dOp (dIn false) ta tb) := qe_cmpR (op_inD hu) lift_in ha hb hm
theorem t_in (hu : X.A.units + 65 < cLine) (ha : QE X a ta) (hb : QE X b tb) (hm : behindInMarks .In b = false := by with_unfolding_all rfl) : QT X (.Compare a [.In] [b] pos) (dTest (dOp (dIn false) ta tb)) := qt_cmpR (op_inD hu) lift_in ha hb hm
theorem q_notin (hu : X.A.units + 65 < cLine) (ha : QE X a ta) (hb : QE X b tb) (hm : behindInMarks .NotIn b = false := by with_unfolding_all rfl) : QE X (.Compare a [.NotIn] [b] pos) (dOp (dIn true) ta tb) := qe_cmpR (op_notInD hu) lift_notin ha hb hm
theorem t_notin (hu : X.A.units + 65 < cLine) (ha : QE X a ta) (hb : QE X b tb) (hm : behindInMarks .NotIn b = false := by with_unfolding_all rfl) : QT X (.Compare a [.NotIn] [b] pos) (dTest (dOp (dIn true) ta tb)) := qt_cmpR (op_notInD hu) lift_notin ha hb hm
/-! built-ins -/
def dC1 (g : Int → D) (ds : List D) (R : D → Prop) : Prop := match ds with
  | [.int i] => R (g i)
  | _ => False
def dC2 (g : Int → Int → D) (ds : List D) (R : D → Prop) : Prop := match ds with
  | [.int i, .int j] => R (g i j)
  | _ => False
theorem lift_C1 {g : Int → V} {g' : Int → D} (hg : ∀ O H i, Rp K O H (g i) (g' i)) : LiftC K (fun xs H Q => ∃ i, xs = [.int i] ∧ Q (g i) H) (dC1 g') := fun O H xs ds R Q _ hx h k => by
  unfold dC1 at h
  split at h
  · match xs, hx with
    | _, .cons (.int i) .nil => exact ⟨i, rfl, k _ _ _ (Same.refl H) (hg _ _ _) h⟩
  · exact h.elim
theorem lift_C2 {g : Int → Int → V} {g' : Int → Int → D} (hg : ∀ O H i j, Rp K O H (g i j) (g' i j)) : LiftC K (fun xs H Q => ∃ i j, xs = [.int i, .int j] ∧ Q (g i j) H) (dC2 g') := fun O H xs ds R Q _ hx h k => by
  unfold dC2 at h
  split at h
  · match xs, hx with
    | _, .cons (.int i) (.cons (.int j) .nil) => exact ⟨i, j, rfl, k _ _ _ (Same.refl H) (hg _ _ _ _) h⟩
  · exact h.elim
abbrev dAbs := dC1 fun i => .int (if i < 0 then -i else i)
abbrev dMax2 := dC2 fun i j => .int (if j > i then j else i)
abbrev dMin2 := dC2 fun i j => .int (if j < i then j else i)
def dInt (ds : List D) (R : D → Prop) : Prop := match ds with
  | [.int i] => R (.int i)
  | [.bool k] => R (.int (if k then 1 else 0))
  | _ => False
theorem lift_int : LiftC K (fun xs H Q => (∃ i, xs = [.int i] ∧ Q (.int i) H) ∨ ∃ k, xs = [.bl k] ∧ Q (.int (if k then 1 else 0)) H) dInt := fun O H xs ds R Q _ hx h k => by
  unfold dInt at h
  split at h
  · match xs, hx with
    | _, .cons (.int i) .nil => exact .inl ⟨i, rfl, k _ _ _ (Same.refl H) (.int _) h⟩
  · match xs, hx with
    | _, .cons (.bl i) .nil => exact .inr ⟨i, rfl, k _ _ _ (Same.refl H) (.int _) h⟩
  · exact h.elim
def dLen (ds : List D) (R : D → Prop) : Prop := match ds with
  | [.list xs] => R (.int xs.length)
  | [.tuple xs] => R (.int xs.length)
  | [.str z] => z.length ≤ sizeLine ∧ R (.int z.length)
  | _ => False
theorem lift_len : LiftC K (fun xs H Q => ∃ x n, xs = [x] ∧ LenV K x H n ∧ Q (.int n) H) dLen := fun O H xs ds R Q _ hx h k => by
  unfold dLen at h
  split at h
  · match xs, hx with
    | _, .cons (.lst hs ha) .nil => exact ⟨_, _, rfl, .inl ⟨_, hs.sq, ha.len.symm⟩, k _ _ _ (Same.refl H) (.int _) h⟩
  · match xs, hx with
    | _, .cons (.tup hs ha) .nil => exact ⟨_, _, rfl, .inr ⟨_, hs.sq, ha.len.symm⟩, k _ _ _ (Same.refl H) (.int _) h⟩
  · match xs, hx with
    | _, .cons (.str z) .nil => exact ⟨_, _, rfl, ⟨h.1, rfl⟩, k _ _ _ (Same.refl H) (.int _) h.2⟩
  · exact h.elim
variable {e : Expr} {p : Pos}
theorem q_abs {ta : DA} (hg : Gl X "abs") (hm : X.mg "abs" = none) (ha : QA X [e] ta) (he : starEach [e] X.env = (false, eval e X.env) :: starEach [] X.env := by rfl) : QE X (.Call (.Name "abs" p) [e] [] pos) (dCB dAbs ta) := qe_callB call_abs (lift_C1 fun _ _ _ => .int _) hg hm (by rfl) ha (by decide) (by decide) he
theorem q_max {e2 : Expr} {ta : DA} (hc : X.calm = true) (hg : Gl X "max") (hm : X.mg "max" = none) (ha : QA X [e, e2] ta) (he : starEach [e, e2] X.env = (false, eval e X.env) :: starEach [e2] X.env := by rfl) (hpl : (backTo pos (starEach [e2] X.env)).any (·.1) = false := by rfl) :
    QE X (.Call (.Name "max" p) [e, e2] [] pos) (dCB dMax2 ta) := qe_callB (call_max2 hc) (lift_C2 fun _ _ _ _ => .int _) hg hm (by rfl) ha (by decide) (by decide) he hpl
theorem q_min {e2 : Expr} {ta : DA} (hc : X.calm = true) (hg : Gl X "min") (hm : X.mg "min" = none) (ha : QA X [e, e2] ta) (he : starEach [e, e2] X.env = (false, eval e X.env) :: starEach [e2] X.env := by rfl) (hpl : (backTo pos (starEach [e2] X.env)).any (·.1) = false := by rfl) :
    QE X (.Call (.Name "min" p) [e, e2] [] pos) (dCB dMin2 ta) := qe_callB (call_min2 hc) (lift_C2 fun _ _ _ _ => .int _) hg hm (by rfl) ha (by decide) (by decide) he hpl
theorem q_int {ta : DA} (hg : Gl X "int") (hm : X.mg "int" = none) (ha : QA X [e] ta) (he : starEach [e] X.env = (false, eval e X.env) :: starEach [] X.env := by rfl) : QE X (.Call (.Name "int" p) [e] [] pos) (dCB dInt ta) := qe_callTy call_int1 lift_int hg hm (by rfl) ha (by decide) (by decide) he
theorem q_len {ta : DA} (hg : Gl X "len") (hm : X.mg "len" = none) (ha : QA X [e] ta) (he : starEach [e] X.env = (false, eval e X.env) :: starEach [] X.env := by rfl) : QE X (.Call (.Name "len" p) [e] [] pos) (dCB dLen ta) := qe_callB call_len lift_len hg hm (by rfl) ha (by decide) (by decide) he
/-- len(x), x a list of its own -/
def dLenO (i : Nat) : DE := fun ρ Q => ∃ cs, ownedAt ρ i = some cs ∧ Q (.int cs.length) ρ
theorem q_lenO (i : Nat) {x : Str} {px : Pos} (hg : Gl X "len") (hm : X.mg "len" = none) (hN : X.N[i]? = some x := by rfl) (hv : Vis X.env.scope x := by first | exact Or.inl rfl | exact Or.inr (Or.inl rfl) | exact Or.inr (Or.inr rfl)) (hd : (x == ("__debug__" : Str)) = false := by decide)
    (hcd : (x == ("__classdict__" : Str)) = false := by decide) (he : starEach [.Name x px] X.env = (false, eval (.Name x px) X.env) :: starEach [] X.env := by rfl) : QE X (.Call (.Name "len" p) [.Name x px] [] pos) (dLenO i) := by
  refine pe_less (pe_callB call_len hg hm (by rfl) (pa_consV i pa_nil hN hv hd hcd he) (by decide) (by decide) he) fun σ H Q ⟨A, Ow, ρ, R, rel, ⟨cs, h0, h⟩, k⟩ => ?_
  obtain ⟨a, xs, h1, h2, h3, h4, _⟩ := rel.owned h0
  exact ⟨.ref a, h2, .ref a, _, rfl, .inl ⟨xs, SqL.of h3, h4.len.symm⟩, k _ H _ ρ Stp.refl rel (.int _) h⟩
/-! isinstance -/
def tyD : D → String
  | .none => "NoneType"
  | .bool _ => "bool"
  | .int _ => "int"
  | .str _ => "str"
  | .list _ => "list"
  | .tuple _ => "tuple"
  | .dict _ => "dict"
theorem tyx_of {O : Addr → Prop} {H : Hp} {v : V} {d : D} (h : Rp K O H v d) : TyX K H v (.type (tyD d)) := by
  cases h with
  | non => exact .base .non
  | bl b => exact .base (.bl b)
  | int i => exact .base (.int i)
  | str x => exact .base (.str x)
  | lst hs _ =>
    rcases hs with ⟨_, h | ⟨o, h⟩⟩ | ⟨o, its, n, h, hc, _⟩
    · exact .base (.lst h)
    · exact .base (.frz h)
    · exact .kList h hc
  | tup hs _ =>
    rcases hs with ⟨_, h | ⟨o, h⟩⟩ | ⟨o, its, n, h, hc, _⟩
    · exact .base (.tup h)
    · exact .fTuple h
    · exact .kTuple h hc
def dIsi (T : String) (te : DE) : DE := fun ρ Q => te ρ fun d ρ1 => ∃ b, kitB (tyD d) T = some b ∧ Q (.bool b) ρ1
theorem q_isi {T : String} {x : Str} {te : DE} {px : Pos} (hg : Gl X "isinstance") (hm : X.mg "isinstance" = none) (hgT : Gl X x) (hmT : X.mg x = none) (he : QE X e te) (hvT : bootBuiltins x = some (.type T) := by rfl) (hnT : x ≠ "__name__" := by decide) (hdT : (x == ("__debug__" : Str)) = false := by decide)
    (h1 : starEach [e, .Name x px] X.env = (false, eval e X.env) :: starEach [.Name x px] X.env := by rfl) (h2 : starEach [.Name x px] X.env = (false, eval (.Name x px) X.env) :: starEach [] X.env := by rfl) (hpl : (backTo pos (starEach [.Name x px] X.env)).any (·.1) = false := by rfl) :
    QE X (.Call (.Name "isinstance" p) [e, .Name x px] [] pos) (dIsi T te) :=
  pe_less (pe_callB call_isi hg hm (by rfl) (pa_cons he (pa_cons (pe_bltn (v := .ty T) hgT hmT hvT rfl hnT hdT) pa_nil h2) h1) (by decide) (by decide) h1 hpl) fun σ H Q ⟨A, Ow, ρ, R, rel, h, k⟩ =>
    ⟨A, Ow, ρ, _, rel, h, fun v H1 d ρ1 e1 rel1 rp1 ⟨b, hb, h1⟩ => ⟨v, .ty T, .type (tyD d), .type T, b, rfl, .ty T, tyx_of rp1, kit_ty hb, k _ H1 _ ρ1 e1 rel1 (.bl b) h1⟩⟩
/-! list(range(..)) -/
def dLRg2 (ta tb : DE) : DF := fun ρ Q => ta ρ fun d ρ1 => tb ρ1 fun e ρ2 => ∃ i j : Int, d = .int i ∧ e = .int j ∧ RgOk i j ∧ Q (rgD i (j - i).toNat) ρ2
theorem rpa_rg {O : Addr → Prop} {H : Hp} {lo : Int} {n : Nat} : RpA K O H ((List.range n).map fun i => V.int (lo + (i : Nat))) (rgD lo n) := by
  have e : ∀ l : List Nat, RpA K O H (l.map fun i => V.int (lo + (i : Nat))) (l.map fun (k : Nat) => PyData.int (lo + (k : Int))) := fun l => by
    induction l with
    | nil => exact .nil
    | cons a l ih => exact .cons (.int _) ih
  exact e _
theorem f_lrg2 {pr : Pos} (hc : X.calm = true) (hg : Gl X "list") (hm : X.mg "list" = none) (hgr : Gl X "range") (hmr : X.mg "range" = none) (ha : QE X a ta) (hb : QE X b tb) (na : starEach [a, b] X.env = (false, eval a X.env) :: starEach [b] X.env := by rfl)
    (nb : starEach [b] X.env = (false, eval b X.env) :: starEach [] X.env := by rfl) (hp : (backTo pr (starEach [b] X.env)).any (·.1) = false := by rfl) {p2 : Pos} (nc : starEach [.Call (.Name "range" p2) [a, b] [] pr] X.env = (false, eval (.Call (.Name "range" p2) [a, b] [] pr) X.env) :: starEach [] X.env := by rfl) :
    QF X (.Call (.Name "list" p) [.Call (.Name "range" p2) [a, b] [] pr] [] pos) (dLRg2 ta tb) :=
  pe_less (pe_listRg hc hg hm (prg_2 hgr hmr ha hb na nb hp) nc) fun σ H Q ⟨A, Ow, ρ, R, rel, h, k⟩ =>
    ⟨A, Ow, ρ, _, rel, h, fun x H1 d ρ1 e1 rel1 rp1 h1 => ⟨A, Ow, ρ1, _, rel1, h1, fun y H2 e ρ2 e2 rel2 rp2 ⟨i, j, hi, hj, ok, h2⟩ => by
      subst hi hj
      cases rp1
      cases rp2
      refine ⟨i, j, rfl, rfl, ok, fun q hq => ?_⟩
      exact k q _ _ _ ρ2 ((e1.trans e2).trans (Stp.of (Same.new hq))) (rel2.nw hq) upd_same (rel2.alloc hq (Same.new hq) ⟨_, upd_same⟩) rpa_rg h2⟩⟩
/-! xs.index(y) -/
def idxD (ds : List D) (y : D) : Option Nat := ds.findIdx? fun z => PyData.eqv z y
def dIdx (to te : DE) : DE := fun ρ Q => to ρ fun d ρ1 => ∃ ds, d = .list ds ∧ te ρ1 fun y ρ2 => ∃ j, SeqAt.shaped (.list ds) = true ∧ SeqAt.shaped y = true ∧ idxD ds y = some j ∧ Q (.int (j : Nat)) ρ2
theorem idx_spec {ds : List D} {y : D} {j : Nat} (h : idxD ds y = some j) : ∃ z, ds[j]? = some z ∧ PyData.eqv z y = true ∧ ∀ (m : Nat) (z' : D), m < j → ds[m]? = some z' → PyData.eqv z' y = false := by
  obtain ⟨hj, h1, h2⟩ := List.findIdx?_eq_some_iff_getElem.mp h
  refine ⟨ds[j], List.getElem?_eq_getElem hj, h1, fun m z' hm hz => ?_⟩
  have h3 := h2 m hm
  have h4 : m < ds.length := by omega
  rw [List.getElem?_eq_getElem h4] at hz
  cases hz
  simpa using h3
theorem q_index {o : Expr} {to te : DE} {apos cpos : Pos} (hu : X.A.units + 65 < cLine) (ho : QE X o to) (he : QE X e te) (hbase : attributeBase o "index" X.env (eval o X.env) = eval o X.env := by rfl)
    (hfew : ((backTo cpos (starEach [e] X.env)).all (fun x => !x.1) && (backToKw cpos (keywordEach [] X.env)).all (fun x => x.1.isSome) && decide (([e] : List Expr).length + ([] : List Keyword).length + (if ([] : List Keyword).isEmpty then 0 else 1) < 30)) = true := by rfl)
    (hline : (apos.endLine == cpos.line) = true := by rfl) (hs : starEach [e] X.env = (false, eval e X.env) :: starEach [] X.env := by rfl) (hplain : (backTo cpos (starEach [] X.env)).any (·.1) = false := by rfl) :
    QE X (.Call (.Attribute o "index" apos) [e] [] cpos) (dIdx to te) :=
  pe_less (pe_bm PySem.F.plainAttrs_list PySem.F.slot_list_index PySem.F.type_list_index (mt_indexD hu) ho (pa_cons he pa_nil hs) hbase hfew hline hs hplain) fun σ H Q ⟨A, Ow, ρ, R, rel, h, k⟩ =>
    ⟨A, Ow, ρ, _, rel, h, fun x H1 d ρ1 e1 rel1 rp1 ⟨ds, hd, h1⟩ => by
      subst hd
      have rp0 := rp1
      cases rp1 with
      | @lst a xs _ hs ha =>
      refine ⟨.inl ⟨rfl, xs, hs.sq⟩, A, Ow, ρ1, _, rel1, h1, fun y H2 z ρ2 e2 rel2 rp2 ⟨j, s1, s2, hj, h2⟩ => ?_⟩
      obtain ⟨w, g1, g2, g3⟩ := idx_spec hj
      exact ⟨a, y, z, ds, j, w, rfl, rfl, (rp0.mono e2).dp, rp2.dp, s1, s2, g1, g2, g3, k _ H2 _ ρ2 (e1.trans e2) rel2 (.int _) h2⟩⟩
end
section
variable {X : Cx} {st : Stmt} {rest : List Stmt} {pos : Pos}
/-- what is never reached -/
theorem qs_dead : QS X st (fun _ _ => False) := ⟨fun pins s σ H D I ⟨_, _, _, _, _, h, _⟩ => h.elim⟩
/-- from here on a term of HandS, which returns True -/
def dRaw (K : PySem.W.Frag) (t : TS) : DS := fun DD ρ => ∀ A Ow σ H D, Rel K A Ow σ H ρ → (∀ H', Same H H' → DD.rt (.bool true) ρ → D.rt (.bl true) H') → t D σ H
theorem qss_raw {t : TS} (h : PSs X rest t) : QSs X rest (dRaw X.K t) := pss_less h fun D σ H ⟨A, Ow, ρ, DD, rel, h, n, b, c, r⟩ =>
  h A Ow σ H D rel fun H' e q => r.1 Ow σ H' ρ _ _ (rel.ext e) (.bl true) q
/-- x + [..], x a list of its own -/
def dCatO (i : Nat) (tf : DF) : DF := fun ρ Q => (ownedAt ρ i).isSome = true ∧ tf ρ fun ds ρ1 => ∃ cs, ownedAt ρ1 i = some cs ∧ cs.length + ds.length ≤ sizeLine ∧ Q (cs ++ ds) ρ1
theorem qf_catO (i : Nat) {x : Str} {p : Pos} {b : Expr} {tf : DF} (hb : QF X b tf) (hN : X.N[i]? = some x := by rfl) (hv : Vis X.env.scope x := by first | exact Or.inl rfl | exact Or.inr (Or.inl rfl) | exact Or.inr (Or.inr rfl)) (hd : (x == ("__debug__" : Str)) = false := by decide) (hcd : (x == ("__classdict__" : Str)) = false := by decide) :
    QF X (.BinOp (.Name x p) .Add b pos) (dCatO i tf) := by
  refine pe_less (pe_op op_cat (pv i hN hv hd hcd) hb) fun σ H Q ⟨A, Ow, ρ, R, rel, ⟨h0, h⟩, k⟩ => ?_
  obtain ⟨cs0, e0⟩ := Option.isSome_iff_exists.mp h0
  obtain ⟨a, xs, h1, h2, h3, h4, _⟩ := rel.owned e0
  refine ⟨.ref a, h2, A, Ow, ρ, _, rel, h, fun q H2 zs ds ρ2 e2 nw hq rel2 rp2 ⟨cs, g1, g2, g3⟩ => ?_⟩
  obtain ⟨a', xs', k1, k2, k3, k4, _⟩ := rel2.owned g1
  rw [h1] at k1
  cases k1
  refine ⟨a, q, xs', zs, rfl, rfl, k3, hq, by rw [k4.len, rp2.len]; exact g2, fun r hr => ?_⟩
  have rel3 := rel2.unfo
  exact k r _ _ _ ρ2 (e2.trans (Stp.of (Same.new hr))) (rel3.nw hr) upd_same (rel3.alloc hr (Same.new hr) ⟨_, upd_same⟩) ((((k4.less own_fo').append (rp2.less own_fo')).more hr own_fo).mono (Stp.of (Same.new hr))) g3
end
/-- the reading gives d and leaves ρ' -/
theorem ev {te : DE} {ρ ρ' : Env} {Q : D → Env → Prop} (d : D) (h : ∀ K : D → Env → Prop, K d ρ' → te ρ K) (k : Q d ρ') : te ρ Q := h Q k
theorem evT {tt : DT} {ρ ρ' : Env} {Q : Bool → Env → Prop} (d : Bool) (h : ∀ K : Bool → Env → Prop, K d ρ' → tt ρ K) (k : Q d ρ') : tt ρ Q := h Q k


/-! ### the law -/

def top (i : Nat) : Stmt := PySem.Challenge.pw_drawntrue_k00_fractions_and_errors.main.body.getD i (.Pass ⟨0, 0, 0, 0⟩)
abbrev st_common_divisor : Stmt := top 8
abbrev N_common_divisor : List Str := ["one", "two"]
theorem sc_common_divisor : FnScope N_common_divisor ["one", "two"] (defScope st_common_divisor) := ⟨rfl, rfl, rfl, by decide +kernel, rfl, by decide +kernel, by decide +kernel⟩
abbrev st_ratio : Stmt := top 9
abbrev N_ratio : List Str := ["numerator", "denominator", "divisor"]
theorem sc_ratio : FnScope N_ratio ["numerator", "denominator"] (defScope st_ratio) := ⟨rfl, rfl, rfl, by decide +kernel, rfl, by decide +kernel, by decide +kernel⟩
abbrev st_is_ratio : Stmt := top 10
abbrev N_is_ratio : List Str := ["pair"]
theorem sc_is_ratio : FnScope N_is_ratio ["pair"] (defScope st_is_ratio) := ⟨rfl, rfl, rfl, by decide +kernel, rfl, by decide +kernel, by decide +kernel⟩
abbrev st_plus : Stmt := top 11
abbrev N_plus : List Str := ["one", "two"]
theorem sc_plus : FnScope N_plus ["one", "two"] (defScope st_plus) := ⟨rfl, rfl, rfl, by decide +kernel, rfl, by decide +kernel, by decide +kernel⟩
abbrev st_minus : Stmt := top 12
abbrev N_minus : List Str := ["one", "two"]
theorem sc_minus : FnScope N_minus ["one", "two"] (defScope st_minus) := ⟨rfl, rfl, rfl, by decide +kernel, rfl, by decide +kernel, by decide +kernel⟩
abbrev st_times : Stmt := top 13
abbrev N_times : List Str := ["one", "two"]
theorem sc_times : FnScope N_times ["one", "two"] (defScope st_times) := ⟨rfl, rfl, rfl, by decide +kernel, rfl, by decide +kernel, by decide +kernel⟩
abbrev st_over : Stmt := top 14
abbrev N_over : List Str := ["one", "two"]
theorem sc_over : FnScope N_over ["one", "two"] (defScope st_over) := ⟨rfl, rfl, rfl, by decide +kernel, rfl, by decide +kernel, by decide +kernel⟩
abbrev st__law_cell : Stmt := top 16
abbrev N__law_cell : List Str := ["script", "k", "cell"]
theorem sc__law_cell : FnScope N__law_cell ["script", "k"] (defScope st__law_cell) := ⟨rfl, rfl, rfl, by decide +kernel, rfl, by decide +kernel, by decide +kernel⟩
abbrev st__law_take : Stmt := top 17
abbrev N__law_take : List Str := ["state", "m", "x"]
theorem sc__law_take : FnScope N__law_take ["state", "m"] (defScope st__law_take) := ⟨rfl, rfl, rfl, by decide +kernel, rfl, by decide +kernel, by decide +kernel⟩
abbrev st__law_big : Stmt := top 18
abbrev N__law_big : List Str := ["script", "at", "count", "found", "k"]
theorem sc__law_big : FnScope N__law_big ["script", "at", "count"] (defScope st__law_big) := ⟨rfl, rfl, rfl, by decide +kernel, rfl, by decide +kernel, by decide +kernel⟩
abbrev st__law_divisor : Stmt := top 19
abbrev N__law_divisor : List Str := ["one", "two", "turn"]
theorem sc__law_divisor : FnScope N__law_divisor ["one", "two"] (defScope st__law_divisor) := ⟨rfl, rfl, rfl, by decide +kernel, rfl, by decide +kernel, by decide +kernel⟩
abbrev st__law_ratio : Stmt := top 20
abbrev N__law_ratio : List Str := ["p", "q", "divisor"]
theorem sc__law_ratio : FnScope N__law_ratio ["p", "q"] (defScope st__law_ratio) := ⟨rfl, rfl, rfl, by decide +kernel, rfl, by decide +kernel, by decide +kernel⟩
abbrev st__law_is_ratio : Stmt := top 21
abbrev N__law_is_ratio : List Str := ["pair", "x"]
theorem sc__law_is_ratio : FnScope N__law_is_ratio ["pair"] (defScope st__law_is_ratio) := ⟨rfl, rfl, rfl, by decide +kernel, rfl, by decide +kernel, by decide +kernel⟩
abbrev st__law_number : Stmt := top 22
abbrev N__law_number : List Str := ["state", "size"]
theorem sc__law_number : FnScope N__law_number ["state"] (defScope st__law_number) := ⟨rfl, rfl, rfl, by decide +kernel, rfl, by decide +kernel, by decide +kernel⟩
abbrev st__law_told : Stmt := top 23
abbrev N__law_told : List Str := ["which", "one", "two"]
theorem sc__law_told : FnScope N__law_told ["which", "one", "two"] (defScope st__law_told) := ⟨rfl, rfl, rfl, by decide +kernel, rfl, by decide +kernel, by decide +kernel⟩
abbrev st__law_kinds : Stmt := top 24
abbrev N__law_kinds : List Str := ["error", "kinds"]
theorem sc__law_kinds : FnScope N__law_kinds ["error"] (defScope st__law_kinds) := ⟨rfl, rfl, rfl, by decide +kernel, rfl, by decide +kernel, by decide +kernel⟩
abbrev st_law : Stmt := top 25
abbrev N_law : List Str := ["script", "state", "turn", "p", "q", "due", "told", "kind", "one", "two", "found", "side", "x", "place", "errors", "k", "j"]
theorem sc_law : FnScope N_law ["script"] (defScope st_law) := ⟨rfl, rfl, rfl, by decide +kernel, rfl, by decide +kernel, by decide +kernel⟩


def enc (z : Int × Int) : D := .tuple [.int z.1, .int z.2]
theorem sl0 : 0 ≤ sizeLine := by decide
theorem sl1 : 1 ≤ sizeLine := by decide
theorem sl2 : 2 ≤ sizeLine := by decide
theorem sl3 : 3 ≤ sizeLine := by decide
theorem sl4 : 4 ≤ sizeLine := by decide
theorem sl15 : 15 ≤ sizeLine := by decide
def nio (s : Sl) : Prop := noIo [s] 0
theorem abs_nat (a : Int) : (if a < 0 then -a else a) = (a.natAbs : Int) := by split <;> omega
theorem fmod_nat (x y : Nat) : Int.fmod (x : Int) (y : Int) = ((x % y : Nat) : Int) := by
  rw [Int.fmod_eq_emod_of_nonneg _ (Int.natCast_nonneg y)]
  exact (Int.natCast_emod x y).symm
def p_common_divisor (ds : List D) (R : D → Prop) : Prop := ∃ a b : Int, ds = [.int a, .int b] ∧ R (.int (Int.gcd a b))
theorem len_common_divisor : ∀ ds R, p_common_divisor ds R → ds.length = (["one", "two"] : List Str).length := fun ds R ⟨_, _, h, _⟩ => by rw [h]; rfl

theorem body_common_divisor {P : Program} {w : World} {K : PySem.W.Frag} {mg : Str → Option Value} {base : Heap} (z_abs : mg "abs" = none) :
  Body P w K mg base N_common_divisor "common_divisor" st_common_divisor 0 fun ts => ∀ ds R, p_common_divisor ds R → ts { nx := fun _ => R .none, rt := fun d _ => R d } (startD N_common_divisor ds) := fun f cdv A outer s H E hr => by
  refine ⟨_, (qss_cons (qs_par 0 1 (by rfl) sc_common_divisor.nd (by decide) (qa_cons (q_abs (by rfl) z_abs (qa_cons (qe_var 0) qa_nil)) (qa_cons (q_abs (by rfl) z_abs (qa_cons (qe_var 1) qa_nil)) qa_nil)))
 (qss_cons (qs_while PassesOwn.never (t_ne hr.units (qe_var 1) qe_int)
 (qss_one (qs_par 0 1 (by rfl) sc_common_divisor.nd (by decide) (qa_cons (qe_var 1) (qa_cons (q_mod (qe_var 0) (qe_var 1)) qa_nil)))))
 (qss_one (qs_ret (qe_var 0))))), ?_⟩
  intro ds R h
  obtain ⟨a, b, rfl, h⟩ := h
  refine ⟨trivial, trivial, fun m ρ => ∃ x y : Nat, ρ = [.sh (.int x), .sh (.int y)] ∧ m = y ∧ Nat.gcd x y = Int.gcd a b, ⟨_, a.natAbs, b.natAbs, ?_, rfl, rfl⟩, ?_⟩
  · show [Sl.sh (.int (if a < 0 then -a else a)), Sl.sh (.int (if b < 0 then -b else b))] = _
    rw [abs_nat, abs_nat]
  · rintro m ρ ⟨x, y, rfl, rfl, hg⟩
    refine ⟨_, rfl, fun hb => ⟨fun ρ' => ρ' = [.sh (.int m), .sh (.int ((x % m : Nat)))], ?_, ?_⟩, fun hb => ?_⟩
    · rintro _ rfl
      have hy : 0 < m := by
        have : (m : Int) ≠ 0 := by simpa using hb
        omega
      exact ⟨x % m, Nat.mod_lt _ hy, m, x % m, rfl, rfl, by rw [← hg, Nat.gcd_comm x m, Nat.gcd_rec m x, Nat.gcd_comm]⟩
    · have hy : (m : Int) ≠ 0 := by simpa using hb
      refine ⟨hy, trivial, trivial, ?_⟩
      show [Sl.sh (.int m), Sl.sh (.int (Int.fmod x m))] = _
      rw [fmod_nat]
    · have hy : m = 0 := by
        have : (m : Int) = 0 := by simpa using hb
        omega
      subst hy
      rw [Nat.gcd_zero_right] at hg
      show R (.int x)
      rw [hg]
      exact h
theorem ok_common_divisor {P : Program} {w : World} {K : PySem.W.Frag} {mg : Str → Option Value} {base : Heap} {f : Addr} {fd : FuncData} (F : Fun K "common_divisor" "common_divisor" st_common_divisor f fd) (z_abs : mg "abs" = none) :
  FnOk P w K mg base CX0 1 f fd ["one", "two"] (spD K p_common_divisor) := fn_D F sc_common_divisor len_common_divisor (body_common_divisor z_abs)

def sml (L : Nat) (x : Int) : Prop := x.natAbs < 2 ^ L
theorem sml_mono {a b : Nat} {x : Int} (h : sml a x) (hab : a ≤ b) : sml b x := Nat.lt_of_lt_of_le h (Nat.pow_le_pow_right (by decide) hab)
theorem sml_mul {a b : Nat} {x y : Int} (h : sml a x) (k : sml b y) : sml (a + b) (x * y) := by
  unfold sml at *
  rw [Int.natAbs_mul, Nat.pow_add]
  exact Nat.mul_lt_mul'' h k
theorem sml_add {a : Nat} {x y : Int} (h : sml a x) (k : sml a y) : sml (a + 1) (x + y) := by
  unfold sml at *
  have := Int.natAbs_add_le x y
  rw [Nat.pow_succ]
  omega
theorem sml_neg {a : Nat} {x : Int} (h : sml a x) : sml a (-x) := by
  unfold sml at *
  rw [Int.natAbs_neg]
  exact h
theorem sml_sub {a : Nat} {x y : Int} (h : sml a x) (k : sml a y) : sml (a + 1) (x - y) := by
  rw [Int.sub_eq_add_neg]
  exact sml_add h (sml_neg k)
theorem log2_le {a n : Nat} (h : n < 2 ^ a) : n.log2 ≤ a := by
  by_cases z : n = 0
  · rw [z]
    exact Nat.zero_le _
  · exact Nat.le_of_lt ((Nat.log2_lt z).mpr h)
theorem cmS {a b : Nat} {x y : Int} (h : sml a x) (k : sml b y) (hab : a + b < 1000000) : CMulA x y := .inr (by
  have h1 := log2_le h
  have h2 := log2_le k
  show x.natAbs.log2 + y.natAbs.log2 < 1000000
  omega)
theorem cdS {L : Nat} {i j : Int} (h0 : j ≠ 0) (h : sml L j) (hL : L ≤ 8000) : CDivG i j := ⟨h0, by
  have h1 := log2_le h
  have h3 : j.natAbs.log2 / 30 ≤ 8000 / 30 := Nat.div_le_div_right (Nat.le_trans h1 hL)
  have h4 : (j == 0) = false := by simpa using h0
  unfold Builtin.divisionGoesByPylong
  simp only [h4]
  have h5 : ¬ (300 < j.natAbs.log2 / 30 + 1) := by omega
  simp [h5]⟩
theorem cmL {i j : Int} (h1 : -(2 ^ 64) < i) (h2 : i < 2 ^ 64) : CMulA i j := .inl (.inl ⟨h1, h2⟩)
theorem cmR {i j : Int} (h1 : -(2 ^ 64) < j) (h2 : j < 2 ^ 64) : CMulA i j := .inl (.inr ⟨h1, h2⟩)
theorem atI_nat {α : Type} (xs : List α) (k : Nat) : atI xs (k : Int) = xs[k]? := by
  unfold atI ixN
  by_cases h : k < xs.length
  · have h1 : (0 : Int) ≤ (k : Int) := by omega
    simp [h1, h]
  · have e : xs[k]? = none := List.getElem?_eq_none (by omega)
    rw [e]
    have h1 : (0 : Int) ≤ (k : Int) := by omega
    simp [h1, h]
theorem int1 {i n : Int} (h : i = n) : ([PyData.int i] : List D) = [.int n] := by rw [h]
theorem shaped_enc (z : Int × Int) : SeqAt.shaped (enc z) = true := rfl
def gS (a b : Int) : Int := if b < 0 then -(Int.gcd a b : Int) else (Int.gcd a b : Int)
def rat (a b : Int) : Int × Int := (a.fdiv (gS a b), b.fdiv (gS a b))
theorem fdiv_of {a g x : Int} (hg : g ≠ 0) (h : a = g * x) : a.fdiv g = x := by rw [h]; exact Int.mul_fdiv_cancel_left _ hg
theorem rat_spec {a b : Int} (hb : b ≠ 0) : 0 < (rat a b).2 ∧ Int.gcd (rat a b).1 (rat a b).2 = 1 ∧ (rat a b).1.natAbs ≤ a.natAbs ∧ (rat a b).2.natAbs ≤ b.natAbs ∧ gS a b ≠ 0 ∧ (gS a b).natAbs ≤ b.natAbs := by
  have hg : 0 < Int.gcd a b := Int.gcd_pos_of_ne_zero_right a hb
  obtain ⟨x, hx⟩ : ((Int.gcd a b : Nat) : Int) ∣ a := Int.gcd_dvd_left a b
  obtain ⟨y, hy⟩ : ((Int.gcd a b : Nat) : Int) ∣ b := Int.gcd_dvd_right a b
  have hle : Int.gcd a b ≤ b.natAbs := Nat.le_of_dvd (by omega) (Int.gcd_dvd_natAbs_right a b)
  have hco : Int.gcd x y = 1 := by
    have e : Int.gcd a b = Int.gcd a b * Int.gcd x y := by
      have e2 : Int.gcd (((Int.gcd a b : Nat) : Int) * x) (((Int.gcd a b : Nat) : Int) * y) = Int.gcd a b * Int.gcd x y := by
        rw [Int.gcd_mul_left]
        simp
      rw [← hx, ← hy] at e2
      exact e2
    have := Nat.eq_of_mul_eq_mul_left hg (show Int.gcd a b * 1 = Int.gcd a b * Int.gcd x y by rw [Nat.mul_one]; exact e)
    exact this.symm
  have hgI : ((Int.gcd a b : Nat) : Int) ≠ 0 := by omega
  have hxa : x.natAbs ≤ a.natAbs := by
    rw [hx, Int.natAbs_mul]
    exact Nat.le_mul_of_pos_left _ (by simpa using hg)
  have hyb : y.natAbs ≤ b.natAbs := by
    rw [hy, Int.natAbs_mul]
    exact Nat.le_mul_of_pos_left _ (by simpa using hg)
  by_cases hs : b < 0
  · have eg : gS a b = -((Int.gcd a b : Nat) : Int) := if_pos hs
    have e1 : (rat a b).1 = -x := by
      show a.fdiv (gS a b) = -x
      rw [eg]
      exact fdiv_of (by omega) (by rw [Int.neg_mul_neg]; exact hx)
    have e2 : (rat a b).2 = -y := by
      show b.fdiv (gS a b) = -y
      rw [eg]
      exact fdiv_of (by omega) (by rw [Int.neg_mul_neg]; exact hy)
    have hy0 : y < 0 := by
      rcases Int.lt_trichotomy y 0 with h | h | h
      · exact h
      · rw [h, Int.mul_zero] at hy
        omega
      · have : 0 < ((Int.gcd a b : Nat) : Int) * y := Int.mul_pos (by omega) h
        omega
    rw [e1, e2, eg]
    refine ⟨by omega, by rw [Int.gcd_neg, Int.neg_gcd]; exact hco, by rw [Int.natAbs_neg]; exact hxa, by rw [Int.natAbs_neg]; exact hyb, by omega, by rw [Int.natAbs_neg]; simpa using hle⟩
  · have eg : gS a b = ((Int.gcd a b : Nat) : Int) := if_neg hs
    have e1 : (rat a b).1 = x := by
      show a.fdiv (gS a b) = x
      rw [eg]
      exact fdiv_of hgI hx
    have e2 : (rat a b).2 = y := by
      show b.fdiv (gS a b) = y
      rw [eg]
      exact fdiv_of hgI hy
    have hy0 : 0 < y := by
      rcases Int.lt_trichotomy y 0 with h | h | h
      · have : ((Int.gcd a b : Nat) : Int) * y < 0 := Int.mul_neg_of_pos_of_neg (by omega) h
        omega
      · rw [h, Int.mul_zero] at hy
        omega
      · exact h
    rw [e1, e2, eg]
    exact ⟨hy0, hco, hxa, hyb, hgI, by simpa using hle⟩
def p_ratio (ds : List D) (R : D → Prop) : Prop := ∃ a b : Int, ds = [.int a, .int b] ∧ b ≠ 0 ∧ sml 8000 b ∧ R (enc (rat a b))
theorem len_ratio : ∀ ds R, p_ratio ds R → ds.length = (["numerator", "denominator"] : List Str).length := fun ds R ⟨_, _, h, _⟩ => by rw [h]; rfl


theorem sml_of_le {L : Nat} {x y : Int} (h : sml L y) (hxy : x.natAbs ≤ y.natAbs) : sml L x := Nat.lt_of_le_of_lt hxy h

theorem body_ratio {P : Program} {w : World} {K : PySem.W.Frag} {mg : Str → Option Value} {base : Heap} (C_common_divisor : Cal P w K mg base "common_divisor" 1 (spD K p_common_divisor)) :
  Body P w K mg base N_ratio "ratio" st_ratio 1 fun ts => ∀ ds R, p_ratio ds R → ts { nx := fun _ => R .none, rt := fun d _ => R d } (startD N_ratio ds) := fun f cdv A outer s H E hr => by
  refine ⟨_, (qss_cons (qs_if (t_eq hr.units (qe_var 1) qe_int)
 (qss_one qs_dead)
 qss_nil)
 (qss_cons (qs_set 2 sc_ratio.nd (qe_call C_common_divisor (hr.mono (by decide)) (by rfl) (qa_cons (qe_var 0) (qa_cons (qe_var 1) qa_nil))))
 (qss_cons (qs_if (t_lt hr.units (qe_var 1) qe_int)
 (qss_one (qs_set 2 sc_ratio.nd (q_neg (qe_var 2))))
 qss_nil)
 (qss_one (qs_ret (qe_tup (qa_cons (q_fdv (qe_var 0) (qe_var 2)) (qa_cons (q_fdv (qe_var 1) (qe_var 2)) qa_nil)))))))), ?_⟩
  intro ds R h
  obtain ⟨a, b, rfl, hb, h1, h⟩ := h
  obtain ⟨r1, r2, r3, r4, r5, r6⟩ := rat_spec (a := a) hb
  refine ⟨_, rfl, fun hz => ?_, fun hz => ?_⟩
  · have hz' : (b == 0) = true := hz
    exact hb (eq_of_beq hz')
  · refine ⟨a, b, rfl, trivial, _, rfl, fun hs => ?_, fun hs => ?_⟩
    · have hs' : decide (b < (0 : Int)) = true := hs
      have eg : gS a b = -((Int.gcd a b : Nat) : Int) := if_pos (of_decide_eq_true hs')
      have c1 : ∀ i : Int, CDivG i (-((Int.gcd a b : Nat) : Int)) := fun i => by rw [← eg]; exact cdS r5 (sml_of_le h1 r6) (Nat.le_refl _)
      refine ⟨trivial, c1 _, c1 _, sl2, ?_⟩
      have e : enc (rat a b) = .tuple [.int (a.fdiv (-((Int.gcd a b : Nat) : Int))), .int (b.fdiv (-((Int.gcd a b : Nat) : Int)))] := by rw [← eg]; rfl
      rw [e] at h
      exact h
    · have hs' : decide (b < (0 : Int)) = false := hs
      have eg : gS a b = ((Int.gcd a b : Nat) : Int) := if_neg (of_decide_eq_false hs')
      have c1 : ∀ i : Int, CDivG i ((Int.gcd a b : Nat) : Int) := fun i => by rw [← eg]; exact cdS r5 (sml_of_le h1 r6) (Nat.le_refl _)
      refine ⟨c1 _, c1 _, sl2, ?_⟩
      have e : enc (rat a b) = .tuple [.int (a.fdiv ((Int.gcd a b : Nat) : Int)), .int (b.fdiv ((Int.gcd a b : Nat) : Int))] := by rw [← eg]; rfl
      rw [e] at h
      exact h
theorem ok_ratio {P : Program} {w : World} {K : PySem.W.Frag} {mg : Str → Option Value} {base : Heap} {f : Addr} {fd : FuncData} (F : Fun K "ratio" "ratio" st_ratio f fd) (C_common_divisor : Cal P w K mg base "common_divisor" 1 (spD K p_common_divisor)) :
  FnOk P w K mg base CX0 2 f fd ["numerator", "denominator"] (spD K p_ratio) := fn_D F sc_ratio len_ratio (body_ratio C_common_divisor)

def isr (a b : Int) : Bool := decide (0 < b) && (((Int.gcd a b : Nat) : Int) == 1)
def p_is_ratio (ds : List D) (R : D → Prop) : Prop := ∃ a b : Int, ds = [enc (a, b)] ∧ R (.bool (isr a b))
theorem len_is_ratio : ∀ ds R, p_is_ratio ds R → ds.length = (["pair"] : List Str).length := fun ds R ⟨_, _, h, _⟩ => by rw [h]; rfl

theorem body_is_ratio {P : Program} {w : World} {K : PySem.W.Frag} {mg : Str → Option Value} {base : Heap} (C_common_divisor : Cal P w K mg base "common_divisor" 1 (spD K p_common_divisor)) :
  Body P w K mg base N_is_ratio "is_ratio" st_is_ratio 1 fun ts => ∀ ds R, p_is_ratio ds R → ts { nx := fun _ => R .none, rt := fun d _ => R d } (startD N_is_ratio ds) := fun f cdv A outer s H E hr => by
  refine ⟨_, (qss_one (qs_ret (qe_and (q_gt hr.units (qe_ix (qe_var 0) qe_int) qe_int) (qe_one (q_eq hr.units (qe_call C_common_divisor (hr.mono (by decide)) (by rfl) (qa_cons (qe_ix (qe_var 0) qe_int) (qa_cons (qe_ix (qe_var 0) qe_int) qa_nil))) qe_int))))), ?_⟩
  intro ds R h
  obtain ⟨a, b, rfl, h⟩ := h
  refine ⟨.int b, rfl, decide ((0 : Int) < b), rfl, fun hb => ?_, fun hb => ?_⟩
  · refine ⟨.int a, rfl, .int b, rfl, a, b, rfl, ?_⟩
    show R (.bool (((Int.gcd a b : Nat) : Int) == 1))
    unfold isr at h
    rw [hb, Bool.true_and] at h
    exact h
  · show R (.bool false)
    unfold isr at h
    rw [hb, Bool.false_and] at h
    exact h
theorem ok_is_ratio {P : Program} {w : World} {K : PySem.W.Frag} {mg : Str → Option Value} {base : Heap} {f : Addr} {fd : FuncData} (F : Fun K "is_ratio" "is_ratio" st_is_ratio f fd) (C_common_divisor : Cal P w K mg base "common_divisor" 1 (spD K p_common_divisor)) :
  FnOk P w K mg base CX0 2 f fd ["pair"] (spD K p_is_ratio) := fn_D F sc_is_ratio len_is_ratio (body_is_ratio C_common_divisor)

def p_plus (ds : List D) (R : D → Prop) : Prop := ∃ a b c d : Int, ds = [enc (a, b), enc (c, d)] ∧ b ≠ 0 ∧ d ≠ 0 ∧ sml 400 a ∧ sml 400 b ∧ sml 400 c ∧ sml 400 d ∧ R (enc (rat (a * d + c * b) (b * d)))
theorem len_plus : ∀ ds R, p_plus ds R → ds.length = (["one", "two"] : List Str).length := fun ds R ⟨_, _, _, _, h, _⟩ => by rw [h]; rfl

theorem body_plus {P : Program} {w : World} {K : PySem.W.Frag} {mg : Str → Option Value} {base : Heap} (C_ratio : Cal P w K mg base "ratio" 2 (spD K p_ratio)) :
  Body P w K mg base N_plus "plus" st_plus 2 fun ts => ∀ ds R, p_plus ds R → ts { nx := fun _ => R .none, rt := fun d _ => R d } (startD N_plus ds) := fun f cdv A outer s H E hr => by
  refine ⟨_, (qss_one (qs_ret (qe_call C_ratio (hr.mono (by decide)) (by rfl) (qa_cons (q_add (q_mul (qe_ix (qe_var 0) qe_int) (qe_ix (qe_var 1) qe_int)) (q_mul (qe_ix (qe_var 1) qe_int) (qe_ix (qe_var 0) qe_int))) (qa_cons (q_mul (qe_ix (qe_var 0) qe_int) (qe_ix (qe_var 1) qe_int)) qa_nil))))), ?_⟩
  intro ds R h
  obtain ⟨a, b, c, d, rfl, hb, hd, s1, s2, s3, s4, h⟩ := h
  exact ⟨.int a, rfl, .int d, rfl, cmS s1 s4 (by decide), .int c, rfl, .int b, rfl, cmS s3 s2 (by decide), .int b, rfl, .int d, rfl, cmS s2 s4 (by decide), _, _, rfl, Int.mul_ne_zero hb hd, sml_mono (sml_mul s2 s4) (by decide), h⟩
theorem ok_plus {P : Program} {w : World} {K : PySem.W.Frag} {mg : Str → Option Value} {base : Heap} {f : Addr} {fd : FuncData} (F : Fun K "plus" "plus" st_plus f fd) (C_ratio : Cal P w K mg base "ratio" 2 (spD K p_ratio)) :
  FnOk P w K mg base CX0 3 f fd ["one", "two"] (spD K p_plus) := fn_D F sc_plus len_plus (body_plus C_ratio)

def p_minus (ds : List D) (R : D → Prop) : Prop := ∃ a b c d : Int, ds = [enc (a, b), enc (c, d)] ∧ b ≠ 0 ∧ d ≠ 0 ∧ sml 400 a ∧ sml 400 b ∧ sml 400 c ∧ sml 400 d ∧ R (enc (rat (a * d - c * b) (b * d)))
theorem len_minus : ∀ ds R, p_minus ds R → ds.length = (["one", "two"] : List Str).length := fun ds R ⟨_, _, _, _, h, _⟩ => by rw [h]; rfl

theorem body_minus {P : Program} {w : World} {K : PySem.W.Frag} {mg : Str → Option Value} {base : Heap} (C_ratio : Cal P w K mg base "ratio" 2 (spD K p_ratio)) :
  Body P w K mg base N_minus "minus" st_minus 2 fun ts => ∀ ds R, p_minus ds R → ts { nx := fun _ => R .none, rt := fun d _ => R d } (startD N_minus ds) := fun f cdv A outer s H E hr => by
  refine ⟨_, (qss_one (qs_ret (qe_call C_ratio (hr.mono (by decide)) (by rfl) (qa_cons (q_sub (q_mul (qe_ix (qe_var 0) qe_int) (qe_ix (qe_var 1) qe_int)) (q_mul (qe_ix (qe_var 1) qe_int) (qe_ix (qe_var 0) qe_int))) (qa_cons (q_mul (qe_ix (qe_var 0) qe_int) (qe_ix (qe_var 1) qe_int)) qa_nil))))), ?_⟩
  intro ds R h
  obtain ⟨a, b, c, d, rfl, hb, hd, s1, s2, s3, s4, h⟩ := h
  exact ⟨.int a, rfl, .int d, rfl, cmS s1 s4 (by decide), .int c, rfl, .int b, rfl, cmS s3 s2 (by decide), .int b, rfl, .int d, rfl, cmS s2 s4 (by decide), _, _, rfl, Int.mul_ne_zero hb hd, sml_mono (sml_mul s2 s4) (by decide), h⟩
theorem ok_minus {P : Program} {w : World} {K : PySem.W.Frag} {mg : Str → Option Value} {base : Heap} {f : Addr} {fd : FuncData} (F : Fun K "minus" "minus" st_minus f fd) (C_ratio : Cal P w K mg base "ratio" 2 (spD K p_ratio)) :
  FnOk P w K mg base CX0 3 f fd ["one", "two"] (spD K p_minus) := fn_D F sc_minus len_minus (body_minus C_ratio)

def p_times (ds : List D) (R : D → Prop) : Prop := ∃ a b c d : Int, ds = [enc (a, b), enc (c, d)] ∧ b ≠ 0 ∧ d ≠ 0 ∧ sml 400 a ∧ sml 400 b ∧ sml 400 c ∧ sml 400 d ∧ R (enc (rat (a * c) (b * d)))
theorem len_times : ∀ ds R, p_times ds R → ds.length = (["one", "two"] : List Str).length := fun ds R ⟨_, _, _, _, h, _⟩ => by rw [h]; rfl

theorem body_times {P : Program} {w : World} {K : PySem.W.Frag} {mg : Str → Option Value} {base : Heap} (C_ratio : Cal P w K mg base "ratio" 2 (spD K p_ratio)) :
  Body P w K mg base N_times "times" st_times 2 fun ts => ∀ ds R, p_times ds R → ts { nx := fun _ => R .none, rt := fun d _ => R d } (startD N_times ds) := fun f cdv A outer s H E hr => by
  refine ⟨_, (qss_one (qs_ret (qe_call C_ratio (hr.mono (by decide)) (by rfl) (qa_cons (q_mul (qe_ix (qe_var 0) qe_int) (qe_ix (qe_var 1) qe_int)) (qa_cons (q_mul (qe_ix (qe_var 0) qe_int) (qe_ix (qe_var 1) qe_int)) qa_nil))))), ?_⟩
  intro ds R h
  obtain ⟨a, b, c, d, rfl, hb, hd, s1, s2, s3, s4, h⟩ := h
  exact ⟨.int a, rfl, .int c, rfl, cmS s1 s3 (by decide), .int b, rfl, .int d, rfl, cmS s2 s4 (by decide), _, _, rfl, Int.mul_ne_zero hb hd, sml_mono (sml_mul s2 s4) (by decide), h⟩
theorem ok_times {P : Program} {w : World} {K : PySem.W.Frag} {mg : Str → Option Value} {base : Heap} {f : Addr} {fd : FuncData} (F : Fun K "times" "times" st_times f fd) (C_ratio : Cal P w K mg base "ratio" 2 (spD K p_ratio)) :
  FnOk P w K mg base CX0 3 f fd ["one", "two"] (spD K p_times) := fn_D F sc_times len_times (body_times C_ratio)

def p__law_cell (ds : List D) (R : D → Prop) : Prop := ∃ (ns : List Int) (k : Nat), ds = [.list (ns.map .int), .int k] ∧ k ≤ 1000 ∧ ∀ c : Int, 0 ≤ c → R (.int c)
theorem len__law_cell : ∀ ds R, p__law_cell ds R → ds.length = (["script", "k"] : List Str).length := fun ds R ⟨_, _, h, _⟩ => by rw [h]; rfl
theorem cd1000 {i : Int} : CDivG i 1000 := cdS (L := 10) (by decide) (by show (1000 : Int).natAbs < 2 ^ 10; decide) (by decide)

theorem body__law_cell {P : Program} {w : World} {K : PySem.W.Frag} {mg : Str → Option Value} {base : Heap} (z_len : mg "len" = none) (z_int : mg "int" = none) :
  Body P w K mg base N__law_cell "_law_cell" st__law_cell 0 fun ts => ∀ ds R, p__law_cell ds R → ts { nx := fun _ => R .none, rt := fun d _ => R d } (startD N__law_cell ds) := fun f cdv A outer s H E hr => by
  refine ⟨_, (qss_cons (qs_if (qt_bool (qw_and (t_lt hr.units (qe_var 1) (q_len (by rfl) z_len (qa_cons (qe_var 0) qa_nil))) (qw_and1 (t_ge hr.units (qe_ix (qe_var 0) (qe_var 1)) (q_pow qe_int qe_int)))))
 (qss_one (qs_ret (qe_ix (qe_var 0) (qe_var 1))))
 qss_nil)
 (qss_cons (qs_set 2 sc__law_cell.nd (q_add (q_mul qe_int (qe_var 1)) qe_int))
 (qss_cons (qs_if (t_gt hr.units (q_len (by rfl) z_len (qa_cons (qe_var 0) qa_nil)) qe_int)
 (qss_one (qs_set 2 sc__law_cell.nd (q_add (qe_var 2) (q_mul qe_int (qe_ix (qe_var 0) (q_mod (q_int (by rfl) z_int (qa_cons (qe_var 1) qa_nil)) (q_len (by rfl) z_len (qa_cons (qe_var 0) qa_nil))))))))
 qss_nil)
 (qss_cons (qs_set 2 sc__law_cell.nd (q_mod (q_int (by rfl) z_int (qa_cons (q_add (q_mul (qe_var 2) qe_int) (q_mul qe_int (qe_var 1))) qa_nil)) qe_int))
 (qss_one (qs_ret (q_mod (q_int (by rfl) z_int (qa_cons (q_add (q_mul (qe_var 2) qe_int) (q_mul qe_int (q_fdv (qe_var 2) qe_int))) qa_nil)) qe_int))))))), ?_⟩
  intro ds R h
  obtain ⟨ns, k, rfl, hk, h⟩ := h
  refine ⟨_, rfl, fun hb => ?_, fun hb => ⟨(fun z => nomatch z), fun _ => ?_⟩⟩
  · have hb' : decide ((k : Int) < (((ns.map PyData.int).length : Nat) : Int)) = true := hb
    have hlt := of_decide_eq_true hb'
    rw [List.length_map] at hlt
    have hk1 : k < ns.length := by omega
    have e : atI (ns.map PyData.int) (k : Int) = some (.int ns[k]) := by
      rw [atI_nat, List.getElem?_map, List.getElem?_eq_getElem hk1]
      rfl
    refine ⟨.int ns[k], e, ⟨by decide, by decide, by decide⟩, _, rfl, fun hv => ⟨.int ns[k], e, ?_⟩, fun hv => ?_⟩
    · have hv' : decide ((10 : Int) ^ (9 : Int).toNat ≤ ns[k]) = true := hv
      have hv2 := of_decide_eq_true hv'
      have e9 : (10 : Int) ^ (9 : Int).toNat = 1000000000 := by decide
      rw [e9] at hv2
      exact h _ (by omega)
    · refine ⟨cmL (by decide) (by decide), trivial, _, rfl, fun hg => ?_, fun hg => ?_⟩
      · have hl : 0 < ns.length := by
          have hg' : decide ((0 : Int) < (((ns.map PyData.int).length : Nat) : Int)) = true := hg
          have := of_decide_eq_true hg'
          rw [List.length_map] at this
          omega
        have hk : k % ns.length < ns.length := Nat.mod_lt _ hl
        have hl2 : (((ns.map PyData.int).length : Nat) : Int) ≠ 0 := by rw [List.length_map]; omega
        refine ⟨hl2, .int ns[k % ns.length], ?_, cmL (by decide) (by decide), trivial, cmR (by decide) (by decide), cmL (by decide) (by decide), (show (2147483647 : Int) ≠ 0 by decide), trivial, cmR (by decide) (by decide), cd1000, cmL (by decide) (by decide), (show (2147483629 : Int) ≠ 0 by decide), ?_⟩
        · rw [List.length_map, fmod_nat, atI_nat, List.getElem?_map, List.getElem?_eq_getElem hk]
          rfl
        · exact h _ (Int.fmod_nonneg_of_pos _ (by decide))
      · refine ⟨cmR (by decide) (by decide), cmL (by decide) (by decide), (show (2147483647 : Int) ≠ 0 by decide), trivial, cmR (by decide) (by decide), cd1000, cmL (by decide) (by decide), (show (2147483629 : Int) ≠ 0 by decide), ?_⟩
        exact h _ (Int.fmod_nonneg_of_pos _ (by decide))
  · refine ⟨cmL (by decide) (by decide), trivial, _, rfl, fun hg => ?_, fun hg => ?_⟩
    · have hl : 0 < ns.length := by
        have hg' : decide ((0 : Int) < (((ns.map PyData.int).length : Nat) : Int)) = true := hg
        have := of_decide_eq_true hg'
        rw [List.length_map] at this
        omega
      have hk : k % ns.length < ns.length := Nat.mod_lt _ hl
      have hl2 : (((ns.map PyData.int).length : Nat) : Int) ≠ 0 := by rw [List.length_map]; omega
      refine ⟨hl2, .int ns[k % ns.length], ?_, cmL (by decide) (by decide), trivial, cmR (by decide) (by decide), cmL (by decide) (by decide), (show (2147483647 : Int) ≠ 0 by decide), trivial, cmR (by decide) (by decide), cd1000, cmL (by decide) (by decide), (show (2147483629 : Int) ≠ 0 by decide), ?_⟩
      · rw [List.length_map, fmod_nat, atI_nat, List.getElem?_map, List.getElem?_eq_getElem hk]
        rfl
      · exact h _ (Int.fmod_nonneg_of_pos _ (by decide))
    · refine ⟨cmR (by decide) (by decide), cmL (by decide) (by decide), (show (2147483647 : Int) ≠ 0 by decide), trivial, cmR (by decide) (by decide), cd1000, cmL (by decide) (by decide), (show (2147483629 : Int) ≠ 0 by decide), ?_⟩
      exact h _ (Int.fmod_nonneg_of_pos _ (by decide))
theorem ok__law_cell {P : Program} {w : World} {K : PySem.W.Frag} {mg : Str → Option Value} {base : Heap} {f : Addr} {fd : FuncData} (F : Fun K "_law_cell" "_law_cell" st__law_cell f fd) (z_len : mg "len" = none) (z_int : mg "int" = none) :
  FnOk P w K mg base CX0 1 f fd ["script", "k"] (spD K p__law_cell) := fn_D F sc__law_cell len__law_cell (body__law_cell z_len z_int)

def p__law_take (cs ds : List D) (R : D → List D → Prop) : Prop := ∃ c m : Int, cs = [.int c] ∧ ds = [.int m] ∧ 0 < m ∧ sml 8000 m ∧ 0 ≤ c ∧ ∀ x c' : Int, 0 ≤ x → x < m → 0 ≤ c' → R (.int x) [.int c']
theorem len__law_take : ∀ cs ds R, p__law_take cs ds R → ds.length + 1 = (["state", "m"] : List Str).length := fun cs ds R ⟨_, _, _, h, _⟩ => by rw [h]; rfl

theorem body__law_take {P : Program} {w : World} {K : PySem.W.Frag} {mg : Str → Option Value} {base : Heap} (z_int : mg "int" = none) :
  Body P w K mg base N__law_take "_law_take" st__law_take 0 fun ts => ∀ cs ds R, p__law_take cs ds R → ts { nx := fun ρ => ∃ cs', ρ[0]? = some (.io cs') ∧ R .none cs', rt := fun d ρ => ∃ cs', ρ[0]? = some (.io cs') ∧ R d cs' } (startI N__law_take cs ds) := fun f cdv A outer s H E hr => by
  refine ⟨_, (qss_cons (qs_set 2 sc__law_take.nd (q_mod (q_int (by rfl) z_int (qa_cons (qe_ixO 0 qe_int) qa_nil)) (qe_var 1)))
 (qss_cons (qs_setI 0 (q_int (by rfl) z_int (qa_cons (q_fdv (qe_ixO 0 qe_int) (qe_var 1)) qa_nil)) qe_int)
 (qss_one (qs_ret (qe_var 2))))), ?_⟩
  intro cs ds R h
  obtain ⟨c, m, rfl, rfl, h0, h1, hc, h⟩ := h
  refine ⟨rfl, _, 0, _, rfl, rfl, rfl, by omega, trivial, rfl, _, 0, _, rfl, rfl, rfl, cdS (by omega) h1 (Nat.le_refl _), rfl, _, 0, 0, rfl, rfl, rfl, _, rfl, ?_⟩
  exact h _ _ (Int.fmod_nonneg_of_pos _ h0) (Int.fmod_lt_of_pos _ h0) (by
    rw [Int.fdiv_eq_ediv_of_nonneg _ (by omega)]
    exact Int.ediv_nonneg hc (by omega))
theorem ok__law_take {P : Program} {w : World} {K : PySem.W.Frag} {mg : Str → Option Value} {base : Heap} {f : Addr} {fd : FuncData} (F : Fun K "_law_take" "_law_take" st__law_take f fd) (z_int : mg "int" = none) :
  FnOk P w K mg base CX0 1 f fd ["state", "m"] (spI K p__law_take) := fn_I F sc__law_take (by decide) len__law_take (body__law_take z_int)

def p__law_big (ds : List D) (R : List D → Prop) : Prop := ∃ (ns : List Int) (a n : Nat), ds = [.list (ns.map .int), .int a, .int n] ∧ a + n ≤ 1000 ∧ ∀ c : Int, 0 ≤ c → R [.int c]
theorem len__law_big : ∀ ds R, p__law_big ds R → ds.length = (["script", "at", "count"] : List Str).length := fun ds R ⟨_, _, _, h, _⟩ => by rw [h]; rfl

theorem body__law_big {P : Program} {w : World} {K : PySem.W.Frag} {mg : Str → Option Value} {base : Heap} (z_range : mg "range" = none) (C__law_cell : Cal P w K mg base "_law_cell" 1 (spD K p__law_cell)) :
  Body P w K mg base N__law_big "_law_big" st__law_big 1 fun ts => ∀ ds R, p__law_big ds R → ts { nx := fun _ => False, rt := fun _ _ => False, rf := fun cs _ => R cs } (startD N__law_big ds) := fun f cdv A outer s H E hr => by
  refine ⟨_, (qss_cons (qs_set 3 sc__law_big.nd qe_int)
 (qss_cons (qs_for PassesOwn.never (by rfl) (qi_range1 (by rfl) z_range (qa_cons (qe_var 2) qa_nil)) (qg_name 4 sc__law_big.nd)
 (qss_one (qs_set 3 sc__law_big.nd (q_add (q_mul (qe_var 3) qe_int) (qe_call C__law_cell (hr.mono (by decide)) (by rfl) (qa_cons (qe_var 0) (qa_cons (q_add (qe_var 1) (qe_var 4)) qa_nil)))))))
 (qss_one (qs_retF (qf_lst (qa_cons (qe_var 3) qa_nil)))))), ?_⟩
  intro ds R h
  obtain ⟨ns, a, n, rfl, hn, h⟩ := h
  refine ⟨trivial, (n : Int), rfl, by omega, by omega, fun i ρ => ∃ (c : Int) (s4 : Sl), ρ = [.sh (.list (ns.map .int)), .sh (.int a), .sh (.int n), .sh (.int c), s4] ∧ 0 ≤ c ∧ nio s4, ⟨0, .no, rfl, by decide, trivial⟩, ?_, ?_⟩
  · rintro i d ρ hi ⟨c, s4, rfl, hc, k4⟩
    obtain ⟨hi', rfl⟩ := rgD_at hi
    refine ⟨k4, cmR (by decide) (by decide), ns, a + i, ?_, by omega, fun c' hc' => ⟨trivial, c * 2147483648 + c', .sh (.int (0 + (i : Int))), rfl, by omega, trivial⟩⟩
    show ([PyData.list (ns.map .int), .int ((a : Int) + (0 + (i : Int)))] : List D) = _
    rw [show (a : Int) + (0 + (i : Int)) = ((a + i : Nat) : Int) by omega]
  · rintro ρ ⟨c, s4, rfl, hc, k4⟩
    exact ⟨sl1, h c hc⟩
theorem ok__law_big {P : Program} {w : World} {K : PySem.W.Frag} {mg : Str → Option Value} {base : Heap} {f : Addr} {fd : FuncData} (F : Fun K "_law_big" "_law_big" st__law_big f fd) (z_range : mg "range" = none) (C__law_cell : Cal P w K mg base "_law_cell" 1 (spD K p__law_cell)) :
  FnOk P w K mg base CX0 2 f fd ["script", "at", "count"] (spF K p__law_big) := fn_F F sc__law_big len__law_big (body__law_big z_range C__law_cell)

theorem euclid_next {x y L i : Nat} (hy : y ≠ 0) (h0 : i = 0 → x * y < 2 ^ L) (h1 : 1 ≤ i → y ≤ x ∧ x * y * 2 ^ (i - 1) < 2 ^ L) : x % y ≤ y ∧ y * (x % y) * 2 ^ i < 2 ^ L := by
  have hm : x % y < y := Nat.mod_lt _ (by omega)
  refine ⟨by omega, ?_⟩
  cases i with
  | zero =>
    have h := h0 rfl
    have h2 : x % y ≤ x := Nat.mod_le _ _
    have h3 : y * (x % y) ≤ y * x := Nat.mul_le_mul_left _ h2
    rw [Nat.pow_zero, Nat.mul_one]
    rw [Nat.mul_comm y x] at h3
    omega
  | succ i =>
    obtain ⟨h2, h3⟩ := h1 (by omega)
    have e : i + 1 - 1 = i := by omega
    rw [e] at h3
    have h4 : x % y * 2 ≤ x := by
      have h5 := Nat.div_add_mod x y
      have h6 : 1 ≤ x / y := (Nat.one_le_div_iff (by omega)).mpr h2
      have h7 : y * 1 ≤ y * (x / y) := Nat.mul_le_mul_left _ h6
      omega
    have h5 : y * (x % y) * 2 ^ (i + 1) = y * (x % y * 2) * 2 ^ i := by
      rw [Nat.pow_succ, ← Nat.mul_assoc y, Nat.mul_assoc (y * (x % y)), Nat.mul_comm (2 ^ i) 2, ← Nat.mul_assoc]
    have h6 : y * (x % y * 2) * 2 ^ i ≤ x * y * 2 ^ i := Nat.mul_le_mul_right _ (by rw [Nat.mul_comm x y]; exact Nat.mul_le_mul_left _ h4)
    omega
def p__law_divisor (ds : List D) (R : D → Prop) : Prop := ∃ a b : Int, ds = [.int a, .int b] ∧ (∃ L, L ≤ 19000 ∧ a.natAbs * b.natAbs < 2 ^ L) ∧ R (.int (Int.gcd a b))
theorem len__law_divisor : ∀ ds R, p__law_divisor ds R → ds.length = (["one", "two"] : List Str).length := fun ds R ⟨_, _, h, _⟩ => by rw [h]; rfl
theorem gcd_step (x y : Nat) : Nat.gcd y (x % y) = Nat.gcd x y := by rw [Nat.gcd_comm x y, Nat.gcd_rec y x, Nat.gcd_comm]

theorem body__law_divisor {P : Program} {w : World} {K : PySem.W.Frag} {mg : Str → Option Value} {base : Heap} (z_abs : mg "abs" = none) (z_range : mg "range" = none) (z_int : mg "int" = none) :
  Body P w K mg base N__law_divisor "_law_divisor" st__law_divisor 0 fun ts => ∀ ds R, p__law_divisor ds R → ts { nx := fun _ => R .none, rt := fun d _ => R d } (startD N__law_divisor ds) := fun f cdv A outer s H E hr => by
  refine ⟨_, (qss_cons (qs_set 0 sc__law_divisor.nd (q_abs (by rfl) z_abs (qa_cons (qe_var 0) qa_nil)))
 (qss_cons (qs_set 1 sc__law_divisor.nd (q_abs (by rfl) z_abs (qa_cons (qe_var 1) qa_nil)))
 (qss_cons (qs_for PassesOwn.never (by rfl) (qi_range1 (by rfl) z_range (qa_cons qe_int qa_nil)) (qg_name 2 sc__law_divisor.nd)
 (qss_cons (qs_if (t_eq hr.units (qe_var 1) qe_int)
 (qss_one qs_break)
 qss_nil)
 (qss_one (qs_par 0 1 (by rfl) sc__law_divisor.nd (by decide) (qa_cons (qe_var 1) (qa_cons (q_mod (q_int (by rfl) z_int (qa_cons (qe_var 0) qa_nil)) (qe_var 1)) qa_nil))))))
 (qss_one (qs_ret (qe_var 0)))))), ?_⟩
  intro ds R h
  obtain ⟨a, b, rfl, ⟨L, hL, hab⟩, h⟩ := h
  refine ⟨trivial, trivial, 20000, rfl, by decide, by decide, fun i ρ => i ≤ 20000 ∧ ∃ (x y : Nat) (s2 : Sl), ρ = [.sh (.int x), .sh (.int y), s2] ∧ nio s2 ∧ Nat.gcd x y = Int.gcd a b ∧ (i = 0 → x * y < 2 ^ L) ∧ (1 ≤ i → y ≤ x ∧ x * y * 2 ^ (i - 1) < 2 ^ L), ⟨by decide, a.natAbs, b.natAbs, .no, ?_, trivial, rfl, fun _ => hab, fun z => absurd z (by decide)⟩, ?_, ?_⟩
  · show [Sl.sh (.int (if a < 0 then -a else a)), Sl.sh (.int (if b < 0 then -b else b)), Sl.no] = _
    rw [abs_nat, abs_nat]
  · rintro i d ρ hi ⟨_, x, y, s2, rfl, k2, hg, h0, h1⟩
    obtain ⟨hi', rfl⟩ := rgD_at hi
    have hi20 : i < 20000 := hi'
    refine ⟨k2, _, rfl, fun hb => ?_, fun hb => ?_⟩
    · have hb' : ((y : Int) == 0) = true := hb
      have hy : y = 0 := by
        have := eq_of_beq hb'
        omega
      subst hy
      rw [Nat.gcd_zero_right] at hg
      show R (.int x)
      rw [hg]
      exact h
    · have hb' : ((y : Int) == 0) = false := hb
      have hy : y ≠ 0 := fun z => by
        rw [z] at hb'
        exact absurd hb' (by decide)
      have hyI : (y : Int) ≠ 0 := by omega
      refine ⟨hyI, trivial, trivial, by omega, y, x % y, .sh (.int (0 + (i : Int))), ?_, trivial, by rw [gcd_step]; exact hg, fun z => absurd z (by omega), fun _ => euclid_next hy h0 h1⟩
      show [Sl.sh (.int y), Sl.sh (.int (Int.fmod x y)), Sl.sh (.int (0 + (i : Int)))] = _
      rw [fmod_nat]
  · rintro ρ ⟨_, x, y, s2, rfl, k2, hg, h0, h1⟩
    have e : (rgD 0 (20000 : Int).toNat).length = 20000 := by rw [rgD_len]; rfl
    rw [e] at h1
    obtain ⟨h2, h3⟩ := h1 (by decide)
    have hy : y = 0 := by
      rcases Nat.eq_zero_or_pos y with z | z
      · exact z
      · exfalso
        have h4 : 1 * 2 ^ L ≤ x * y * 2 ^ (20000 - 1) := Nat.mul_le_mul (Nat.mul_pos (by omega) z) (Nat.pow_le_pow_right (by decide) (by omega))
        rw [Nat.one_mul] at h4
        omega
    subst hy
    rw [Nat.gcd_zero_right] at hg
    show R (.int x)
    rw [hg]
    exact h
theorem ok__law_divisor {P : Program} {w : World} {K : PySem.W.Frag} {mg : Str → Option Value} {base : Heap} {f : Addr} {fd : FuncData} (F : Fun K "_law_divisor" "_law_divisor" st__law_divisor f fd) (z_abs : mg "abs" = none) (z_range : mg "range" = none) (z_int : mg "int" = none) :
  FnOk P w K mg base CX0 1 f fd ["one", "two"] (spD K p__law_divisor) := fn_D F sc__law_divisor len__law_divisor (body__law_divisor z_abs z_range z_int)

theorem sml_prod {a b : Int} {L M : Nat} (h : sml L a) (k : sml M b) (hL : L + M ≤ 19000) : ∃ L, L ≤ 19000 ∧ a.natAbs * b.natAbs < 2 ^ L := ⟨L + M, hL, by rw [Nat.pow_add]; exact Nat.mul_lt_mul'' h k⟩
def p__law_ratio (ds : List D) (R : D → Prop) : Prop := ∃ a b : Int, ds = [.int a, .int b] ∧ b ≠ 0 ∧ sml 8000 a ∧ sml 8000 b ∧ R (enc (rat a b))
theorem len__law_ratio : ∀ ds R, p__law_ratio ds R → ds.length = (["p", "q"] : List Str).length := fun ds R ⟨_, _, h, _⟩ => by rw [h]; rfl

theorem body__law_ratio {P : Program} {w : World} {K : PySem.W.Frag} {mg : Str → Option Value} {base : Heap} (z_int : mg "int" = none) (C__law_divisor : Cal P w K mg base "_law_divisor" 1 (spD K p__law_divisor)) :
  Body P w K mg base N__law_ratio "_law_ratio" st__law_ratio 1 fun ts => ∀ ds R, p__law_ratio ds R → ts { nx := fun _ => R .none, rt := fun d _ => R d } (startD N__law_ratio ds) := fun f cdv A outer s H E hr => by
  refine ⟨_, (qss_cons (qs_set 2 sc__law_ratio.nd (qe_call C__law_divisor (hr.mono (by decide)) (by rfl) (qa_cons (qe_var 0) (qa_cons (qe_var 1) qa_nil))))
 (qss_cons (qs_if (t_lt hr.units (qe_var 1) qe_int)
 (qss_one (qs_set 2 sc__law_ratio.nd (q_neg (qe_var 2))))
 qss_nil)
 (qss_one (qs_ret (qe_tup (qa_cons (q_int (by rfl) z_int (qa_cons (q_fdv (qe_var 0) (qe_var 2)) qa_nil)) (qa_cons (q_int (by rfl) z_int (qa_cons (q_fdv (qe_var 1) (qe_var 2)) qa_nil)) qa_nil))))))), ?_⟩
  intro ds R h
  obtain ⟨a, b, rfl, hb, h0, h1, h⟩ := h
  obtain ⟨r1, r2, r3, r4, r5, r6⟩ := rat_spec (a := a) hb
  refine ⟨a, b, rfl, sml_prod h0 h1 (by decide), trivial, _, rfl, fun hs => ?_, fun hs => ?_⟩
  · have hs' : decide (b < (0 : Int)) = true := hs
    have eg : gS a b = -((Int.gcd a b : Nat) : Int) := if_pos (of_decide_eq_true hs')
    have c1 : ∀ i : Int, CDivG i (-((Int.gcd a b : Nat) : Int)) := fun i => by rw [← eg]; exact cdS r5 (sml_of_le h1 r6) (Nat.le_refl _)
    refine ⟨trivial, c1 _, c1 _, sl2, ?_⟩
    have e : enc (rat a b) = .tuple [.int (a.fdiv (-((Int.gcd a b : Nat) : Int))), .int (b.fdiv (-((Int.gcd a b : Nat) : Int)))] := by rw [← eg]; rfl
    rw [e] at h
    exact h
  · have hs' : decide (b < (0 : Int)) = false := hs
    have eg : gS a b = ((Int.gcd a b : Nat) : Int) := if_neg (of_decide_eq_false hs')
    have c1 : ∀ i : Int, CDivG i ((Int.gcd a b : Nat) : Int) := fun i => by rw [← eg]; exact cdS r5 (sml_of_le h1 r6) (Nat.le_refl _)
    refine ⟨c1 _, c1 _, sl2, ?_⟩
    have e : enc (rat a b) = .tuple [.int (a.fdiv ((Int.gcd a b : Nat) : Int)), .int (b.fdiv ((Int.gcd a b : Nat) : Int))] := by rw [← eg]; rfl
    rw [e] at h
    exact h
theorem ok__law_ratio {P : Program} {w : World} {K : PySem.W.Frag} {mg : Str → Option Value} {base : Heap} {f : Addr} {fd : FuncData} (F : Fun K "_law_ratio" "_law_ratio" st__law_ratio f fd) (z_int : mg "int" = none) (C__law_divisor : Cal P w K mg base "_law_divisor" 1 (spD K p__law_divisor)) :
  FnOk P w K mg base CX0 2 f fd ["p", "q"] (spD K p__law_ratio) := fn_D F sc__law_ratio len__law_ratio (body__law_ratio z_int C__law_divisor)

def p__law_is_ratio (ds : List D) (R : D → Prop) : Prop := ∃ a b : Int, ds = [enc (a, b)] ∧ 0 < b ∧ (∃ L, L ≤ 19000 ∧ a.natAbs * b.natAbs < 2 ^ L) ∧ Int.gcd a b = 1 ∧ R (.bool true)
theorem len__law_is_ratio : ∀ ds R, p__law_is_ratio ds R → ds.length = (["pair"] : List Str).length := fun ds R ⟨_, _, h, _⟩ => by rw [h]; rfl
theorem kit1 : kitB "tuple" "tuple" = some true := by decide +kernel
theorem kit2 : kitB "int" "int" = some true := by decide +kernel
theorem kit3 : kitB "int" "bool" = some false := by decide +kernel

theorem body__law_is_ratio {P : Program} {w : World} {K : PySem.W.Frag} {mg : Str → Option Value} {base : Heap} (z_isinstance : mg "isinstance" = none) (z_tuple : mg "tuple" = none) (z_len : mg "len" = none) (z_int : mg "int" = none) (z_bool : mg "bool" = none) (C__law_divisor : Cal P w K mg base "_law_divisor" 1 (spD K p__law_divisor)) :
  Body P w K mg base N__law_is_ratio "_law_is_ratio" st__law_is_ratio 1 fun ts => ∀ ds R, p__law_is_ratio ds R → ts { nx := fun _ => R .none, rt := fun d _ => R d } (startD N__law_is_ratio ds) := fun f cdv A outer s H E hr => by
  refine ⟨_, (qss_cons (qs_if (qt_bool (qw_or (qt_not (qt_val (q_isi (by rfl) z_isinstance (by rfl) z_tuple (qe_var 0)))) (qw_or (t_ne hr.units (q_len (by rfl) z_len (qa_cons (qe_var 0) qa_nil)) qe_int) (qw_or1 (t_in (by have := hr.un; omega) qe_bl (qe_fr (qf_lc1 1 (by rfl) sc__law_is_ratio.nd (qi_tup (qe_var 0)) (blkOk_by (own := [("x", 1)]) (N := N__law_is_ratio) (sc := defScope st__law_is_ratio) (by decide +kernel)) (fun _ _ _ _ _ => pg_name (i := 1) sc__law_is_ratio.nd rfl (Or.inl rfl)) (fun _ _ _ _ _ => qts_nil) (fun _ _ _ _ _ => (qe_and (q_isi (by rfl) z_isinstance (by rfl) z_int (qe_var 1)) (qe_one (qe_not (q_isi (by rfl) z_isinstance (by rfl) z_bool (qe_var 1)))))))))))))
 (qss_one (qs_ret qe_bl))
 qss_nil)
 (qss_one (qs_ret (qe_and (q_gt hr.units (qe_ix (qe_var 0) qe_int) qe_int) (qe_one (q_eq hr.units (qe_call C__law_divisor (hr.mono (by decide)) (by rfl) (qa_cons (qe_ix (qe_var 0) qe_int) (qa_cons (qe_ix (qe_var 0) qe_int) qa_nil))) qe_int)))))), ?_⟩
  intro ds R h
  obtain ⟨a, b, rfl, h0, hL, hg, h⟩ := h
  refine ⟨true, kit1, true, rfl, (fun z => nomatch z), fun _ => ⟨_, rfl, (fun z => nomatch z), fun _ => ?_⟩⟩
  refine ⟨fun v hv => by rw [List.mem_singleton.mp hv]; trivial, fun k acc ρ => ρ = [.sh (enc (a, b)), .no] ∧ acc = List.replicate k (.bool true) ∧ k ≤ 2, ⟨rfl, rfl, by decide⟩, ?_, ?_⟩
  · rintro k acc d ρ hk ⟨rfl, rfl, _⟩
    have hd : ∃ i : Int, d = .int i ∧ k < 2 := by
      match k, hk with
      | 0, hk => exact ⟨a, (Option.some.inj hk).symm, by decide⟩
      | 1, hk => exact ⟨b, (Option.some.inj hk).symm, by decide⟩
      | k + 2, hk => cases hk
    obtain ⟨i, rfl, hk2⟩ := hd
    refine ⟨trivial, fun _ => ⟨true, kit2, true, rfl, fun _ => ⟨false, kit3, false, rfl, ?_, fun v hv => by rw [List.mem_singleton.mp hv]; trivial, rfl, ?_, by omega⟩, (fun z => nomatch z)⟩, (fun z => nomatch z)⟩
    · rw [List.length_replicate]
      exact Nat.lt_of_lt_of_le hk2 sl2
    · exact List.replicate_succ'.symm
  · rintro acc ρ ⟨rfl, rfl, _⟩
    refine ⟨rfl, rfl, _, rfl, (fun z => nomatch z), fun _ => ?_⟩
    refine ⟨.int b, rfl, decide ((0 : Int) < b), rfl, fun _ => ?_, fun z => absurd h0 (of_decide_eq_false z)⟩
    refine ⟨.int a, rfl, .int b, rfl, a, b, rfl, hL, ?_⟩
    show R (.bool (((Int.gcd a b : Nat) : Int) == 1))
    rw [hg]
    exact h
theorem ok__law_is_ratio {P : Program} {w : World} {K : PySem.W.Frag} {mg : Str → Option Value} {base : Heap} {f : Addr} {fd : FuncData} (F : Fun K "_law_is_ratio" "_law_is_ratio" st__law_is_ratio f fd) (z_isinstance : mg "isinstance" = none) (z_tuple : mg "tuple" = none) (z_len : mg "len" = none) (z_int : mg "int" = none) (z_bool : mg "bool" = none) (C__law_divisor : Cal P w K mg base "_law_divisor" 1 (spD K p__law_divisor)) :
  FnOk P w K mg base CX0 2 f fd ["pair"] (spD K p__law_is_ratio) := fn_D F sc__law_is_ratio len__law_is_ratio (body__law_is_ratio z_isinstance z_tuple z_len z_int z_bool C__law_divisor)

def p__law_number (cs ds : List D) (R : D → List D → Prop) : Prop := ∃ c : Int, cs = [.int c] ∧ ds = [] ∧ 0 ≤ c ∧ ∀ x c' : Int, sml 201 x → 0 ≤ c' → R (.int x) [.int c']
theorem len__law_number : ∀ cs ds R, p__law_number cs ds R → ds.length + 1 = (["state"] : List Str).length := fun cs ds R ⟨_, _, h, _⟩ => by rw [h]; rfl
def sizesL : List D := [.int 3, .int 30, .int 1000, .int ((10 : Int) ^ (18 : Int).toNat), .int ((10 : Int) ^ (60 : Int).toNat)]
theorem sizes_at (k : Nat) (hk : k < 5) : ∃ s : Int, sizesL[k]? = some (.int s) ∧ 0 < s ∧ sml 200 s := by
  match k, hk with
  | 0, _ => exact ⟨3, rfl, by decide, by show (3 : Int).natAbs < 2 ^ 200; decide⟩
  | 1, _ => exact ⟨30, rfl, by decide, by show (30 : Int).natAbs < 2 ^ 200; decide⟩
  | 2, _ => exact ⟨1000, rfl, by decide, by show (1000 : Int).natAbs < 2 ^ 200; decide⟩
  | 3, _ => exact ⟨_, rfl, by decide, by show ((10 : Int) ^ (18 : Int).toNat).natAbs < 2 ^ 200; decide⟩
  | 4, _ => exact ⟨_, rfl, by decide, by show ((10 : Int) ^ (60 : Int).toNat).natAbs < 2 ^ 200; decide⟩
theorem sml5 : sml 8000 5 := sml_mono (a := 3) (by show (5 : Int).natAbs < 2 ^ 3; decide) (by decide)
theorem sl5 : 5 ≤ sizeLine := by decide

theorem body__law_number {P : Program} {w : World} {K : PySem.W.Frag} {mg : Str → Option Value} {base : Heap} (C__law_take : Cal P w K mg base "_law_take" 1 (spI K p__law_take)) :
  Body P w K mg base N__law_number "_law_number" st__law_number 1 fun ts => ∀ cs ds R, p__law_number cs ds R → ts { nx := fun ρ => ∃ cs', ρ[0]? = some (.io cs') ∧ R .none cs', rt := fun d ρ => ∃ cs', ρ[0]? = some (.io cs') ∧ R d cs' } (startI N__law_number cs ds) := fun f cdv A outer s H E hr => by
  refine ⟨_, (qss_cons (qs_set 1 sc__law_number.nd (qe_ix (qe_fr (qf_lst (qa_cons qe_int (qa_cons qe_int (qa_cons qe_int (qa_cons (q_pow qe_int qe_int) (qa_cons (q_pow qe_int qe_int) qa_nil))))))) (qe_callI 0 C__law_take (hr.mono (by decide)) (by rfl) (qa_cons qe_int qa_nil))))
 (qss_one (qs_ret (q_sub (qe_callI 0 C__law_take (hr.mono (by decide)) (by rfl) (qa_cons (q_add (q_mul qe_int (qe_var 1)) qe_int) qa_nil)) (qe_var 1))))), ?_⟩
  intro cs ds R h
  obtain ⟨c, rfl, rfl, hc, h⟩ := h
  refine ⟨⟨by decide, by decide, by decide⟩, ⟨by decide, by decide, by decide⟩, sl5, rfl, _, rfl, c, 5, rfl, rfl, by decide, sml5, hc, fun x c1 hx0 hx1 hc1 => ?_⟩
  obtain ⟨k, rfl⟩ := Int.eq_ofNat_of_zero_le hx0
  obtain ⟨s, hs, hs0, hs1⟩ := sizes_at k (by omega)
  refine ⟨.int s, by rw [← hs]; exact atI_nat sizesL k, trivial, rfl, cmL (by decide) (by decide), _, rfl, c1, 2 * s + 1, rfl, rfl, by omega, ?_, hc1, fun y c2 hy0 hy1 hc2 => ⟨_, rfl, h _ _ ?_ hc2⟩⟩
  · have h2 : sml 202 (2 * s + 1) := by
      unfold sml at *
      have e : (2 : Nat) ^ 202 = 2 ^ 200 * 4 := by rw [← Nat.pow_add (m := 200) (n := 2)]
      rw [e]
      omega
    exact sml_mono h2 (by decide)
  · unfold sml at *
    have e : (2 : Nat) ^ 201 = 2 ^ 200 * 2 := by rw [← Nat.pow_succ]
    rw [e]
    omega
theorem ok__law_number {P : Program} {w : World} {K : PySem.W.Frag} {mg : Str → Option Value} {base : Heap} {f : Addr} {fd : FuncData} (F : Fun K "_law_number" "_law_number" st__law_number f fd) (C__law_take : Cal P w K mg base "_law_take" 1 (spI K p__law_take)) :
  FnOk P w K mg base CX0 2 f fd ["state"] (spI K p__law_number) := fn_I F sc__law_number (by decide) len__law_number (body__law_number C__law_take)

/-! ### what raises: ratio, over; the def that catches -/
/-- the classes -/
structure Cls6 (K : PySem.W.Frag) (mg : Str → Option Value) (C0 C5 : Addr) : Prop where
  g0 : mg "DrawnError" = some (.ref C0)
  g5 : mg "NoInverse" = some (.ref C5)
  x5 : PySem.W.excIn K C5 [.type "ValueError", .type "Exception", .type "BaseException", .type "object"] "ValueError.__new__" = true
  k5 : PySem.W.keepIn K (.ref C5) = true
  b5 : PySem.W.subIn K (.ref C5) (.type "BaseException") = some true
  t5 : PySem.W.typeIn K (.ref C5) = some (.type "type")
  e5 : PySem.W.exmOne K (.ref C5) (.ref C5) = some true
  c5 : ExcC K C5
  k50 : PySem.W.kitOne K (.ref C5) (.ref C0) = some true
theorem call_isH {X : Cx} {a D : Addr} {cls : Value} {d : Option Addr} {oe : Obj} {pn : List (Addr × Obj)} (C : ExcC X.K D) (hz : Zc cls d oe) (hf : ∃ vs, oe.data = .fields vs) : CallR (X.suite a ((a, oe) :: pn)) (.builtin "isinstance") (fun xs H Q => cls = .ref D ∧ d = none ∧ rIsE X.K D a xs H Q) :=
  fun pins s σ H xs us Q I r ⟨e1, e2, h⟩ => by
    subst e1 e2
    exact call_isE C hz hf pins s σ H xs us Q I r h
def spRX (K : PySem.W.Frag) (C5 : Addr) : Sp := fun vs H Q E => ∃ (O : Addr → Prop) (a b : Int), vs = [.int a, .int b] ∧ (∀ x, O x → ∃ o, H x = some o) ∧ sml 8000 b ∧ (b = 0 → ∀ H', Same H H' → E (.ref C5) none H') ∧ (b ≠ 0 → ∀ v H', Same H H' → Rp K O H' v (enc (rat a b)) → Q v H')
def spOX (K : PySem.W.Frag) (C5 : Addr) : Sp := fun vs H Q E => ∃ (O : Addr → Prop) (a b c d : Int), RpA K O H vs [enc (a, b), enc (c, d)] ∧ (∀ x, O x → ∃ o, H x = some o) ∧ sml 400 a ∧ sml 400 b ∧ sml 400 c ∧ sml 400 d ∧ (b * c = 0 → ∀ H', Same H H' → E (.ref C5) none H') ∧ (b * c ≠ 0 → ∀ v H', Same H H' → Rp K O H' v (enc (rat (a * d) (b * c))) → Q v H')
section
variable {P : Program} {w : World} {K : PySem.W.Frag} {mg : Str → Option Value} {base : Heap} {C0 C5 : Addr}
theorem okX_ratio {f : Addr} {fd : FuncData} (F : Fun K "ratio" "ratio" st_ratio f fd) (T : Cls6 K mg C0 C5) (C_common_divisor : Cal P w K mg base "common_divisor" 1 (spD K p_common_divisor)) : FnOk P w K mg base (L2.CX P w) 2 f fd ["numerator", "denominator"] (spRX K C5) := by
  refine F.okX sc_ratio (fun vs H Q E h => ?_) (fun cdv A outer s H vs Q E hr h => ?_)
  · obtain ⟨O, a, b, rfl, _⟩ := h
    rfl
  · refine ⟨_, pss_cons (ps_if (pt_cmpR op_eq (pv 1) pe_int (nomark _)) (pss_one (ps_raise rfl (takes_of rfl rfl rfl rfl) (pmk_own PySem.F.excBase_ValueError T.x5 T.g5 T.k5 (raises_own T.b5 T.t5) rfl))) pss_nil)
      (qss_cons (qs_set 2 sc_ratio.nd (qe_call C_common_divisor (hr.mono (by decide)) (by rfl) (qa_cons (qe_var 0) (qa_cons (qe_var 1) qa_nil))))
      (qss_cons (qs_if (t_lt hr.units (qe_var 1) qe_int) (qss_one (qs_set 2 sc_ratio.nd (q_neg (qe_var 2)))) qss_nil)
      (qss_one (qs_ret (qe_tup (qa_cons (q_fdv (qe_var 0) (qe_var 2)) (qa_cons (q_fdv (qe_var 1) (qe_var 2)) qa_nil))))))), ?_⟩
    obtain ⟨O, a, b, rfl, hO, h1, hz, hn⟩ := h
    refine ⟨_, rfl, rfl, _, rfl, ?_⟩
    refine ite2 (fun c => ?_) (fun c => ?_)
    · have hb : b = 0 := by
        have c' : decide (V.int b = V.int 0) = true := c
        have := of_decide_eq_true c'
        cases this
        rfl
      exact hz hb H (Same.refl H)
    · have hb : b ≠ 0 := fun z => by
        rw [z] at c
        exact absurd c (by decide)
      obtain ⟨r1, r2, r3, r4, r5, r6⟩ := rat_spec (a := a) hb
      have rp : RpA K O H [.int a, .int b] [.int a, .int b] := .cons (.int a) (.cons (.int b) .nil)
      refine ⟨_, _, _, { nx := fun _ => False, rt := fun d _ => d = enc (rat a b) }, rel_start (N := N_ratio) rp hO, ?_, fun _ _ _ _ _ z => z.elim, fun _ _ _ _ _ z => z.elim, fun _ _ _ _ _ z => z.elim, fun Ow' σ' H' ρ' v d rel' rp' h' => ?_, fun _ _ _ _ _ _ _ _ _ _ _ z => z.elim⟩
      · refine ⟨a, b, rfl, trivial, _, rfl, fun hs => ?_, fun hs => ?_⟩
        · have hs' : decide (b < (0 : Int)) = true := hs
          have eg : gS a b = -((Int.gcd a b : Nat) : Int) := if_pos (of_decide_eq_true hs')
          have c1 : ∀ i : Int, CDivG i (-((Int.gcd a b : Nat) : Int)) := fun i => by rw [← eg]; exact cdS r5 (sml_of_le h1 r6) (Nat.le_refl _)
          refine ⟨trivial, c1 _, c1 _, sl2, ?_⟩
          have e : enc (rat a b) = .tuple [.int (a.fdiv (-((Int.gcd a b : Nat) : Int))), .int (b.fdiv (-((Int.gcd a b : Nat) : Int)))] := by rw [← eg]; rfl
          rw [e]
        · have hs' : decide (b < (0 : Int)) = false := hs
          have eg : gS a b = ((Int.gcd a b : Nat) : Int) := if_neg (of_decide_eq_false hs')
          have c1 : ∀ i : Int, CDivG i ((Int.gcd a b : Nat) : Int) := fun i => by rw [← eg]; exact cdS r5 (sml_of_le h1 r6) (Nat.le_refl _)
          refine ⟨c1 _, c1 _, sl2, ?_⟩
          have e : enc (rat a b) = .tuple [.int (a.fdiv ((Int.gcd a b : Nat) : Int)), .int (b.fdiv ((Int.gcd a b : Nat) : Int))] := by rw [← eg]; rfl
          rw [e]
      · subst h'
        exact hn hb v H' (fun b o q => rel'.kept b o (fun i z => nomatch z) q) (rp'.less fun b z => .inl z)
theorem okX_over {f : Addr} {fd : FuncData} (F : Fun K "over" "over" st_over f fd) {fR : Addr} {fdR : FuncData} (GR : FnOk P w K mg base (L2.CX P w) 2 fR fdR ["numerator", "denominator"] (spRX K C5)) (gR : mg "ratio" = some (.ref fR)) (kR : PySem.W.keepIn K (.ref fR) = true) (bR : Binds K fdR ["numerator", "denominator"] []) :
    FnOk P w K mg base (L2.CX P w) 3 f fd ["one", "two"] (spOX K C5) := by
  refine F.okX sc_over (fun vs H Q E h => ?_) (fun cdv A outer s H vs Q E hr h => ?_)
  · obtain ⟨O, a, b, c, d, h, _⟩ := h
    rw [h.len]
    rfl
  · refine ⟨_, pss_one (ps_ret (pe_callS GR (hr.mono (by decide)) rfl gR kR bR (fun σ => passAt (takes_of rfl rfl rfl rfl) σ) (qa_cons (q_mul (qe_ix (qe_var 0) qe_int) (qe_ix (qe_var 1) qe_int)) (qa_cons (q_mul (qe_ix (qe_var 0) qe_int) (qe_ix (qe_var 1) qe_int)) qa_nil)))), ?_⟩
    obtain ⟨O, a, b, c, d, hA, hO, s1, s2, s3, s4, hz, hn⟩ := h
    refine ⟨_, _, _, fun ds _ => ds = [.int (a * d), .int (b * c)], rel_start (N := N_over) hA hO, ?_, fun vs1 H1 ds1 ρ1 e1 rel1 rp1 h1 => ?_⟩
    · exact ⟨.int a, rfl, .int d, rfl, cmS s1 s4 (by decide), .int b, rfl, .int c, rfl, cmS s2 s3 (by decide), rfl⟩
    · subst h1
      match vs1, rp1 with
      | _, .cons (.int _) (.cons (.int _) .nil) =>
        have sm : Same H H1 := fun b o q => rel1.kept b o (fun i z => nomatch z) q
        refine ⟨O, a * d, b * c, rfl, fun x hx => ?_, sml_mono (sml_mul s2 s3) (by decide), fun z H' e => hz z H' (sm.trans e), fun z v H' e rp => hn z v H' (sm.trans e) rp⟩
        · obtain ⟨o, ho⟩ := hO x hx
          exact ⟨o, sm _ _ ho⟩
end
def toldD (a b : Int) : D := if b = 0 then .str "none" else enc (rat a b)
theorem told0 (a : Int) : toldD a 0 = .str "none" := if_pos rfl
theorem told1 (a : Int) {b : Int} (h : b ≠ 0) : toldD a b = enc (rat a b) := if_neg h
def p__law_told (ds : List D) (R : D → Prop) : Prop := (∃ a b : Int, ds = [.int 0, .int a, .int b] ∧ sml 8000 b ∧ R (toldD a b)) ∨ ∃ a b c d : Int, ds = [.int 1, enc (a, b), enc (c, d)] ∧ sml 400 a ∧ sml 400 b ∧ sml 400 c ∧ sml 400 d ∧ R (toldD (a * d) (b * c))
section
variable {P : Program} {w : World} {K : PySem.W.Frag} {mg : Str → Option Value} {base : Heap} {C0 C5 : Addr}
theorem ok__law_told {f : Addr} {fd : FuncData} (F : Fun K "_law_told" "_law_told" st__law_told f fd) (T : Cls6 K mg C0 C5) (z_isinstance : mg "isinstance" = none) {fR fO : Addr} {fdR fdO : FuncData} (GR : FnOk P w K mg base (L2.CX P w) 2 fR fdR ["numerator", "denominator"] (spRX K C5)) (gR : mg "ratio" = some (.ref fR)) (kR : PySem.W.keepIn K (.ref fR) = true) (bR : Binds K fdR ["numerator", "denominator"] [])
    (GO : FnOk P w K mg base (L2.CX P w) 3 fO fdO ["one", "two"] (spOX K C5)) (gO : mg "over" = some (.ref fO)) (kO : PySem.W.keepIn K (.ref fO) = true) (bO : Binds K fdO ["one", "two"] []) :
    FnOk P w K mg base CX0 4 f fd ["which", "one", "two"] (spD K p__law_told) := by
  refine F.ok (N := ["which", "one", "two", "e"]) ⟨rfl, rfl, rfl, by decide +kernel, rfl, by decide +kernel, by decide +kernel⟩ (fun vs H Q E h => ?_) (fun cdv A outer s H vs Q E hr h => ?_)
  · obtain ⟨O, ds, R, h1, _, h2, _⟩ := h
    rw [h1.len]
    rcases h2 with ⟨_, _, rfl, _⟩ | ⟨_, _, _, _, rfl, _⟩ <;> rfl
  · have nd4 : (["which", "one", "two", "e"] : List Str).Nodup := by decide +kernel
    refine ⟨_, pss_one (ps_try_as (i := 3) (Wout := fun _ _ _ _ => False) rfl rfl nd4 rfl rfl ⟨rfl, by decide, Or.inl T.g5⟩ takes0
      (fun W pn xe tk _ => pss_one (ps_ret (pe_ifExp (pt_cmpR op_eq (pv 0) pe_int (nomark _)) (pe_callS GR (hr.mono (by decide)) rfl gR kR bR (fun σ => passAt tk σ) (pa_cons (pv 1) (pa_cons (pv 2) pa_nil))) (pe_callS GO (hr.mono (by decide)) rfl gO kO bO (fun σ => passAt tk σ) (pa_cons (pv 1) (pa_cons (pv 2) pa_nil))))))
      (fun a oe cls d pn hz hf => pss_one (ps_ret (pe_ifExp (pt_val (pe_callB (call_isH T.c5 hz hf) rfl z_isinstance (by rfl) (pa_cons (pv 3) (pa_cons (pe_glob (v := .ref C0) rfl T.g0 rfl) pa_nil)))) pe_str pe_str)))), ?_⟩
    obtain ⟨O, ds, R, hA, hO, hp, hQ⟩ := h
    have caught : ∀ H', Same H H' → R (.str "none") → Q (.str "none") H' := fun H' e r => hQ _ H' _ e (.str _) r
    rcases hp with ⟨a, b, rfl, hb, hR⟩ | ⟨a, b, c, d, rfl, s1, s2, s3, s4, hR⟩
    · match vs, hA with
      | _, .cons (.int _) (.cons (.int _) (.cons (.int _) .nil)) =>
        refine ⟨_, rfl, rfl, _, rfl, ?_⟩
        refine ite2 (fun _ => ?_) (fun c => absurd c (by decide))
        refine ⟨_, rfl, _, rfl, O, a, b, rfl, hO, hb, fun z H' e => ?_, fun z v H' e rp => ?_⟩
        · refine ⟨true, T.e5, fun _ x hx => ?_, fun q => Bool.noConfusion q⟩
          rw [z, told0] at hR
          exact ⟨_, rfl, rfl, rfl, .ref C0, .ref C0, true, rfl, fun u hu => hu, T.k50, true, rfl, show Q (.str "none") H' from caught H' e hR⟩
        · rw [told1 a z] at hR
          exact hQ v H' _ e rp hR
    · match vs, hA with
      | _, .cons (.int _) hA2 =>
        have hl := hA2.len
        match hA2 with
        | .cons h1 (.cons h2 .nil) =>
          refine ⟨_, rfl, rfl, _, rfl, ?_⟩
          refine ite2 (fun c => absurd c (by decide)) (fun _ => ?_)
          refine ⟨_, rfl, _, rfl, O, a, b, c, d, .cons h1 (.cons h2 .nil), hO, s1, s2, s3, s4, fun z H' e => ?_, fun z v H' e rp => ?_⟩
          · refine ⟨true, T.e5, fun _ x hx => ?_, fun q => Bool.noConfusion q⟩
            rw [z, told0] at hR
            exact ⟨_, rfl, rfl, rfl, .ref C0, .ref C0, true, rfl, fun u hu => hu, T.k50, true, rfl, show Q (.str "none") H' from caught H' e hR⟩
          · rw [told1 (a * d) z] at hR
            exact hQ v H' _ e rp hR
end


/-! ### the errors as values -/
open EXH in
/-- the five classes, and ValueError, for isinstance -/
structure Five (K : PySem.W.Frag) (mg : Str → Option Value) (C0 C1 C2 C3 C4 C5 : Addr) : Prop where
  g0 : mg "DrawnError" = some (.ref C0)
  g1 : mg "InvalidStep" = some (.ref C1)
  g2 : mg "InvalidSaying" = some (.ref C2)
  g3 : mg "InvalidFigure" = some (.ref C3)
  g4 : mg "Flat" = some (.ref C4)
  g5 : mg "NoInverse" = some (.ref C5)
  k1 : PySem.W.keepIn K (.ref C1) = true
  k2 : PySem.W.keepIn K (.ref C2) = true
  k3 : PySem.W.keepIn K (.ref C3) = true
  k4 : PySem.W.keepIn K (.ref C4) = true
  k5 : PySem.W.keepIn K (.ref C5) = true
  e1 : ExK K C1
  e2 : ExK K C2
  e3 : ExK K C3
  e4 : ExK K C4
  e5 : ExK K C5
  x5 : PySem.W.excIn K C5 [.type "ValueError", .type "Exception", .type "BaseException", .type "object"] "ValueError.__new__" = true
  f1 : PySem.W.findIn K (.ref C1) "place" = some none
  f1r : PySem.W.findIn K (.ref C1) "reason" = some none
  f2 : PySem.W.findIn K (.ref C2) "reason" = some none
  f3 : PySem.W.findIn K (.ref C3) "place" = some none
  f4 : PySem.W.findIn K (.ref C4) "name" = some none
  d1 : PySem.W.kitOne K (.ref C1) (.ref C0) = some true
  d2 : PySem.W.kitOne K (.ref C2) (.ref C0) = some true
  d3 : PySem.W.kitOne K (.ref C3) (.ref C0) = some true
  d4 : PySem.W.kitOne K (.ref C4) (.ref C0) = some true
  d5 : PySem.W.kitOne K (.ref C5) (.ref C0) = some true
  v1 : PySem.W.kitOne K (.ref C1) (.type "ValueError") = some true
  v2 : PySem.W.kitOne K (.ref C2) (.type "ValueError") = some true
  v3 : PySem.W.kitOne K (.ref C3) (.type "ValueError") = some true
  v4 : PySem.W.kitOne K (.ref C4) (.type "ValueError") = some true
  v5 : PySem.W.kitOne K (.ref C5) (.type "ValueError") = some true
  q11 : PySem.W.kitOne K (.ref C1) (.ref C1) = some true
  q12 : PySem.W.kitOne K (.ref C1) (.ref C2) = some false
  q13 : PySem.W.kitOne K (.ref C1) (.ref C3) = some false
  q14 : PySem.W.kitOne K (.ref C1) (.ref C4) = some false
  q15 : PySem.W.kitOne K (.ref C1) (.ref C5) = some false
  q21 : PySem.W.kitOne K (.ref C2) (.ref C1) = some false
  q22 : PySem.W.kitOne K (.ref C2) (.ref C2) = some true
  q23 : PySem.W.kitOne K (.ref C2) (.ref C3) = some false
  q24 : PySem.W.kitOne K (.ref C2) (.ref C4) = some false
  q25 : PySem.W.kitOne K (.ref C2) (.ref C5) = some false
  q31 : PySem.W.kitOne K (.ref C3) (.ref C1) = some false
  q32 : PySem.W.kitOne K (.ref C3) (.ref C2) = some false
  q33 : PySem.W.kitOne K (.ref C3) (.ref C3) = some true
  q34 : PySem.W.kitOne K (.ref C3) (.ref C4) = some false
  q35 : PySem.W.kitOne K (.ref C3) (.ref C5) = some false
  q41 : PySem.W.kitOne K (.ref C4) (.ref C1) = some false
  q42 : PySem.W.kitOne K (.ref C4) (.ref C2) = some false
  q43 : PySem.W.kitOne K (.ref C4) (.ref C3) = some false
  q44 : PySem.W.kitOne K (.ref C4) (.ref C4) = some true
  q45 : PySem.W.kitOne K (.ref C4) (.ref C5) = some false
  q51 : PySem.W.kitOne K (.ref C5) (.ref C1) = some false
  q52 : PySem.W.kitOne K (.ref C5) (.ref C2) = some false
  q53 : PySem.W.kitOne K (.ref C5) (.ref C3) = some false
  q54 : PySem.W.kitOne K (.ref C5) (.ref C4) = some false
  q55 : PySem.W.kitOne K (.ref C5) (.ref C5) = some true

theorem exAt_same {H H' : Hp} (e : Same H H') {a C : Addr} {fs : List (Str × V)} (h : EXH.ExAt H a C fs) : EXH.ExAt H' a C fs := by
  rcases h with ⟨h1, h2⟩ | ⟨dx, h1, h2⟩
  · exact .inl ⟨h1, e _ _ h2⟩
  · exact .inr ⟨dx, e _ _ h1, e _ _ h2⟩
def spKinds (K : PySem.W.Frag) (C1 C2 C3 C4 C5 : Addr) : Sp := fun vs H Q _ => ∃ (a C : Addr) (fs : List (Str × V)) (b1 b2 b3 b4 b5 : Bool), vs = [.ref a] ∧ EXH.ExAt H a C fs ∧ EXH.ExK K C ∧ PySem.W.kitOne K (.ref C) (.ref C1) = some b1 ∧ PySem.W.kitOne K (.ref C) (.ref C2) = some b2 ∧ PySem.W.kitOne K (.ref C) (.ref C3) = some b3 ∧
  PySem.W.kitOne K (.ref C) (.ref C4) = some b4 ∧ PySem.W.kitOne K (.ref C) (.ref C5) = some b5 ∧ ∀ l H', Same H H' → H' l = some (.lst [.bl b1, .bl b2, .bl b3, .bl b4, .bl b5]) → Q (.ref l) H'
section
variable {P : Program} {w : World} {K : PySem.W.Frag} {mg : Str → Option Value} {base : Heap} {C0 C1 C2 C3 C4 C5 : Addr}
theorem ok__law_kinds {f : Addr} {fd : FuncData} (F : Fun K "_law_kinds" "_law_kinds" st__law_kinds f fd) (T : Five K mg C0 C1 C2 C3 C4 C5) (z_isinstance : mg "isinstance" = none) : FnOk P w K mg base CX0 1 f fd ["error"] (spKinds K C1 C2 C3 C4 C5) := by
  refine F.ok sc__law_kinds (fun vs H Q E h => ?_) (fun cdv A outer s H vs Q E hr h => ?_)
  · obtain ⟨_, _, _, _, _, _, _, _, rfl, _⟩ := h
    rfl
  · refine ⟨_, pss_cons (ps_set (i := 1) sc__law_kinds.nd rfl (Or.inl rfl) (pe_lst
        (pa_cons (pe_callB EXH.call_isX rfl z_isinstance (by rfl) (pa_cons (pv 0) (pa_cons (pe_glob (v := .ref C1) rfl T.g1 rfl) pa_nil)))
        (pa_cons (pe_callB EXH.call_isX rfl z_isinstance (by rfl) (pa_cons (pv 0) (pa_cons (pe_glob (v := .ref C2) rfl T.g2 rfl) pa_nil)))
        (pa_cons (pe_callB EXH.call_isX rfl z_isinstance (by rfl) (pa_cons (pv 0) (pa_cons (pe_glob (v := .ref C3) rfl T.g3 rfl) pa_nil))) pa_nil)))))
      (pss_one (ps_ret (pe_op op_cat (pv 1) (pe_lst
        (pa_cons (pe_callB EXH.call_isX rfl z_isinstance (by rfl) (pa_cons (pv 0) (pa_cons (pe_glob (v := .ref C4) rfl T.g4 rfl) pa_nil)))
        (pa_cons (pe_callB EXH.call_isX rfl z_isinstance (by rfl) (pa_cons (pv 0) (pa_cons (pe_glob (v := .ref C5) rfl T.g5 rfl) pa_nil))) pa_nil)))))), ?_⟩
    obtain ⟨a, C, fs, b1, b2, b3, b4, b5, rfl, hE, hK, q1, q2, q3, q4, q5, hQ⟩ := h
    refine ⟨_, rfl, a, C, fs, .ref C1, .ref C1, b1, rfl, hE, hK, fun u hu => hu, q1, _, rfl, a, C, fs, .ref C2, .ref C2, b2, rfl, hE, hK, fun u hu => hu, q2, _, rfl, a, C, fs, .ref C3, .ref C3, b3, rfl, hE, hK, fun u hu => hu, q3, sl3, fun p hp => ?_⟩
    have s1 : Same H (upd H p (.lst [.bl b1, .bl b2, .bl b3])) := Same.new hp
    have hE1 := exAt_same s1 hE
    refine ⟨_, rfl, _, rfl, a, C, fs, .ref C4, .ref C4, b4, rfl, hE1, hK, fun u hu => hu, q4, _, rfl, a, C, fs, .ref C5, .ref C5, b5, rfl, hE1, hK, fun u hu => hu, q5, sl2, fun q hq => ?_⟩
    have s2 : Same (upd H p (.lst [.bl b1, .bl b2, .bl b3])) (upd (upd H p (.lst [.bl b1, .bl b2, .bl b3])) q (.lst [.bl b4, .bl b5])) := Same.new hq
    refine ⟨p, q, _, _, rfl, rfl, s2 _ _ upd_same, upd_same, (by show 5 ≤ sizeLine; decide), fun l hl => ?_⟩
    exact hQ l _ ((s1.trans s2).trans (Same.new hl)) upd_same
end


open EXH in
theorem sup_at {H : Hp} {a dx C : Addr} {fs : List (Str × V)} (h1 : H a = none) (h2 : H dx = none) (ne : dx ≠ a) : Same H (upd (upd H dx (exd dx fs)) a (exo a C (some dx))) ∧ ExAt (upd (upd H dx (exd dx fs)) a (exo a C (some dx))) a C fs := by
  have e1 : Same H (upd H dx (exd dx fs)) := Same.new h2
  have h1' : (upd H dx (exd dx fs)) a = none := by rw [upd_ne (Ne.symm ne)]; exact h1
  exact ⟨e1.trans (Same.new h1'), .inr ⟨dx, upd_same, by rw [upd_ne ne]; exact upd_same⟩⟩
def fsIS (vs : List V) : List (Str × V) := match vs with
  | [x, y] => [("reason", y), ("place", x)]
  | _ => []
def fs1 (nm : Str) (vs : List V) : List (Str × V) := match vs with
  | [x] => [(nm, x)]
  | _ => []
theorem rel_IS (vs : List V) (us : List Value) (r : Vals vs us) (h : ∃ k : Nat, k < 30 ∧ vs = [V.int (k : Int), V.str "word"]) : (∃ (k : Nat) (t u : Tok), k < 30 ∧ us = [.int ((k : Nat) : Int) t, .str "word" u]) ∧ ∀ f, RelO ((fsIS vs).lookup f) ((fun us => fun y => if y = "reason" then us[1]? else if y = "place" then us[0]? else none : List Value → Str → Option Value) us f) := by
  obtain ⟨k, hk, rfl⟩ := h
  match us, r with
  | _, .cons r1 (.cons r2 .nil) =>
    obtain ⟨t, rfl⟩ := r1
    obtain ⟨u, rfl⟩ := r2
    refine ⟨⟨k, t, u, hk, rfl⟩, fun f => ?_⟩
    exact relO_put (mA := fun y => if y = "place" then some (.int (k : Int) t) else none) (show RelV (V.str "word") (Value.str "word" u) from ⟨u, rfl⟩) (fun g => relO_put (fs := []) (mA := fun _ => none) (show RelV (V.int (k : Int)) (Value.int (k : Int) t) from ⟨t, rfl⟩) (fun _ => True.intro) g) f
theorem rel_1 (nm : Str) (vs : List V) (us : List Value) (r : Vals vs us) (h : ∃ x, vs = [x]) : (∃ v, us = [v]) ∧ ∀ f, RelO ((fs1 nm vs).lookup f) ((fun us => fun y => if y = nm then us[0]? else none : List Value → Str → Option Value) us f) := by
  obtain ⟨x, rfl⟩ := h
  match us, r with
  | _, .cons r1 .nil => exact ⟨⟨_, rfl⟩, fun f => relO_put (fs := []) (mA := fun _ => none) r1 (fun _ => True.intro) f⟩
theorem rel_IF (vs : List V) (us : List Value) (r : Vals vs us) (h : ∃ k : Nat, k < 30 ∧ vs = [V.int (k : Int)]) : (∃ (k : Nat) (t : Tok), k < 30 ∧ us = [.int ((k : Nat) : Int) t]) ∧ ∀ f, RelO ((fs1 "place" vs).lookup f) ((fun us => fun y => if y = "place" then us[0]? else none : List Value → Str → Option Value) us f) := by
  obtain ⟨k, hk, rfl⟩ := h
  match us, r with
  | _, .cons r1 .nil =>
    obtain ⟨t, rfl⟩ := r1
    exact ⟨⟨k, t, hk, rfl⟩, fun f => relO_put (fs := []) (mA := fun _ => none) (show RelV (V.int (k : Int)) (Value.int (k : Int) t) from ⟨t, rfl⟩) (fun _ => True.intro) f⟩
def okIS (us : List Value) : Prop := ∃ (k : Nat) (t u : Tok), k < 30 ∧ us = [.int ((k : Nat) : Int) t, .str "word" u]
def okIF (us : List Value) : Prop := ∃ (k : Nat) (t : Tok), k < 30 ∧ us = [.int ((k : Nat) : Int) t]
def ok1 (us : List Value) : Prop := ∃ v : Value, us = [v]
def mfIS (us : List Value) : Str → Option Value := fun y => if y = "reason" then us[1]? else if y = "place" then us[0]? else none
def mf1 (nm : Str) (us : List Value) : Str → Option Value := fun y => if y = nm then us[0]? else none
theorem boolsL (i : Nat) (hi : i < 5) : PyData.eqv (.list [.bool (decide (i = 0)), .bool (decide (i = 1)), .bool (decide (i = 2)), .bool (decide (i = 3)), .bool (decide (i = 4))]) (.list ((List.range 5).map fun (m : Nat) => PyData.bool (decide (V.int (0 + (i : Int)) = V.int (0 + (m : Int)))))) = true := by
  match i, hi with
  | 0, _ => decide +kernel
  | 1, _ => decide +kernel
  | 2, _ => decide +kernel
  | 3, _ => decide +kernel
  | 4, _ => decide +kernel
theorem dp_bools {K : PySem.W.Frag} {H : Hp} (f : Nat → Bool) : ∀ l : List Nat, DpAll K H (l.map fun m => V.bl (f m)) (l.map fun m => PyData.bool (f m))
  | [] => .nil
  | a :: l => .cons (.bl _) (dp_bools f l)


theorem len__law_told : ∀ ds R, p__law_told ds R → ds.length = (["which", "one", "two"] : List Str).length := fun ds R h => by
  rcases h with ⟨_, _, rfl, _⟩ | ⟨_, _, _, _, rfl, _⟩ <;> rfl
def p_law (ds : List D) (R : D → Prop) : Prop := ∃ ns : List Int, ds = [.list (ns.map .int)] ∧ R (.bool true)
theorem len_law : ∀ ds R, p_law ds R → ds.length = (["script"] : List Str).length := fun ds R ⟨_, h, _⟩ => by rw [h]; rfl


theorem ev_asg {te : DE} {g : DG} {rest : DS} {DD : DEnds} {ρ ρ' : Env} (d : D) (h : ∀ K : D → Env → Prop, K d ρ' → te ρ K) (k : g d ρ' (rest DD)) : dSeq (dAsg te g) rest DD ρ := h _ k
theorem ev_if {tc : DT} {t u rest : DS} {DD : DEnds} {ρ ρ' : Env} (b : Bool) (h : ∀ K : Bool → Env → Prop, K b ρ' → tc ρ K) (k : (b = true → t { DD with nx := rest DD } ρ') ∧ (b = false → u { DD with nx := rest DD } ρ')) : dSeq (dIfS tc t u) rest DD ρ := h _ k
theorem ne_told {a b : Int} {R : D → Prop} (h : R (.bool false)) : dNe (toldD a b) (toldD a b) R := by
  by_cases z : b = 0
  · rw [z, told0]
    exact h
  · rw [told1 a z]
    refine ⟨shaped_enc _, shaped_enc _, ?_⟩
    have e : PyData.eqv (enc (rat a b)) (enc (rat a b)) = true := by
      show ((rat a b).1 == (rat a b).1 && ((rat a b).2 == (rat a b).2 && true)) = true
      simp
    rw [e]
    exact h
theorem or_ne_told {i j : Nat} {u : DT} {ρ : Env} {Q : Bool → Env → Prop} {a b : Int} (h1 : ρ[i]? = some (.sh (toldD a b))) (h2 : ρ[j]? = some (.sh (toldD a b))) (k : u ρ Q) : dOr (dTest (dOp dNe (dVar i) (dVar j))) u ρ Q := by
  unfold dOr dTest dOp dVar
  rw [h1]
  dsimp only
  rw [h2]
  dsimp only
  exact ne_told ⟨false, rfl, (fun z => nomatch z), fun _ => k⟩
theorem t_told_ne {ta : DA} {ρ ρ1 : Env} {ds : List D} {a b : Int} {j : Nat} {Q : Bool → Env → Prop} (h0 : ∀ K : List D → Env → Prop, K ds ρ1 → ta ρ K) (h1 : ∀ R : D → Prop, R (toldD a b) → p__law_told ds R) (h2 : ρ1[j]? = some (.sh (toldD a b))) (k : Q false ρ1) : dTest (dOp dNe (dCall p__law_told ta) (dVar j)) ρ Q := h0 _ (h1 _ (by
  show dVar j ρ1 _
  unfold dVar
  rw [h2]
  dsimp only
  exact ne_told ⟨false, rfl, k⟩))
theorem shaped_encs (l : List (Int × Int)) : SeqAt.shaped (.list (l.map enc)) = true := by
  have h1 : ∀ l : List (Int × Int), PyData.canLayAll0 (l.map enc) = true := fun l => by
    induction l with
    | nil => rfl
    | cons z l ih => exact ih
  have h2 : ∀ l : List (Int × Int), PyData.depthAll (l.map enc) ≤ 1 := fun l => by
    induction l with
    | nil => decide
    | cons z l ih =>
      show max (PyData.depth (enc z)) (PyData.depthAll (l.map enc)) ≤ 1
      exact Nat.max_le.mpr ⟨by show max 0 (max 0 0) + 1 ≤ 1; decide, ih⟩
  have h3 := h2 l
  unfold SeqAt.shaped
  rw [Bool.and_eq_true]
  exact ⟨h1 l, decide_eq_true (by show PyData.depthAll (l.map enc) + 1 ≤ 64; omega)⟩
theorem eqv_encs (l : List (Int × Int)) : PyData.eqv (.list (l.map enc)) (.list (l.map enc)) = true := by
  show PyData.eqvAll (l.map enc) (l.map enc) = true
  induction l with
  | nil => rfl
  | cons z l ih =>
    show (PyData.eqv (enc z) (enc z) && PyData.eqvAll (l.map enc) (l.map enc)) = true
    rw [ih]
    show ((z.1 == z.1 && (z.2 == z.2 && true)) && true) = true
    simp
theorem kit4 : kitB "bool" "bool" = some true := by decide +kernel
abbrev lawE (ns : List Int) (c : Int) (t p q due told kind one two found : Sl) : Env := [.sh (.list (ns.map .int)), .ol [.int c], t, p, q, due, told, kind, one, two, found, .no, .no, .no, .no, .no, .no]
structure RF (z : Int × Int) : Prop where
  pos : 0 < z.2
  gcd : Int.gcd z.1 z.2 = 1
  s1 : sml 400 z.1
  s2 : sml 400 z.2
theorem rf_of {a b : Int} (hb : b ≠ 0) (h1 : sml 400 a) (h2 : sml 400 b) : RF (rat a b) := by
  obtain ⟨r1, r2, r3, r4, _, _⟩ := rat_spec (a := a) hb
  exact ⟨r1, r2, sml_of_le h1 r3, sml_of_le h2 r4⟩
theorem sml_one {x : Int} (h : sml 201 x) : sml 400 (1 + (x.natAbs : Int)) := by
  have h2 : sml 202 (1 + (x.natAbs : Int)) := by
    unfold sml at *
    have e : (2 : Nat) ^ 202 = 2 ^ 201 * 2 := Nat.pow_succ 2 201
    rw [e]
    omega
  exact sml_mono h2 (by decide)
theorem sml30 : sml 8000 30 := sml_mono (a := 5) (by show (30 : Int).natAbs < 2 ^ 5; decide) (by decide)
theorem isr_of_true {p q : Int} (h : decide ((0 : Int) < q) = true) : (!(isr p q == (((Int.gcd p q : Nat) : Int) == 1))) = false := by
  unfold isr
  rw [h, Bool.true_and]
  simp
theorem isr_of_false {p q : Int} (h : decide ((0 : Int) < q) = false) : (!(isr p q == false)) = false := by
  unfold isr
  rw [h, Bool.false_and]
  rfl


theorem new_lst {G : Hp} {l : Addr} {xs : List V} (h : G l = none) : Same G (upd G l (.lst xs)) ∧ (upd G l (.lst xs)) l = some (.lst xs) := ⟨Same.new h, upd_same⟩
theorem sup0_at {H : Hp} {a C : Addr} (h : H a = none) : Same H (upd H a (exo a C none)) ∧ EXH.ExAt (upd H a (exo a C none)) a C [] := ⟨Same.new h, .inl ⟨rfl, upd_same⟩⟩
theorem info5 {K : PySem.W.Frag} {mg : Str → Option Value} {C0 C1 C2 C3 C4 C5 : Addr} (T : Five K mg C0 C1 C2 C3 C4 C5) {H : Hp} {a1 a2 a3 a4 a5 : Addr} {f1 f2 f3 f4 f5 : List (Str × V)} (t1 : EXH.ExAt H a1 C1 f1) (t2 : EXH.ExAt H a2 C2 f2) (t3 : EXH.ExAt H a3 C3 f3) (t4 : EXH.ExAt H a4 C4 f4) (t5 : EXH.ExAt H a5 C5 f5) (i : Nat) (hi : i < 5) :
    ∃ (a C : Addr) (fs : List (Str × V)), ([V.ref a1, .ref a2, .ref a3, .ref a4, .ref a5] : List V)[i]? = some (.ref a) ∧ EXH.ExAt H a C fs ∧ EXH.ExK K C ∧ PySem.W.kitOne K (.ref C) (.ref C0) = some true ∧ PySem.W.kitOne K (.ref C) (.type "ValueError") = some true ∧
      PySem.W.kitOne K (.ref C) (.ref C1) = some (decide (i = 0)) ∧ PySem.W.kitOne K (.ref C) (.ref C2) = some (decide (i = 1)) ∧ PySem.W.kitOne K (.ref C) (.ref C3) = some (decide (i = 2)) ∧ PySem.W.kitOne K (.ref C) (.ref C4) = some (decide (i = 3)) ∧ PySem.W.kitOne K (.ref C) (.ref C5) = some (decide (i = 4)) := by
  match i, hi with
  | 0, _ => exact ⟨a1, C1, f1, rfl, t1, T.e1, T.d1, T.v1, T.q11, T.q12, T.q13, T.q14, T.q15⟩
  | 1, _ => exact ⟨a2, C2, f2, rfl, t2, T.e2, T.d2, T.v2, T.q21, T.q22, T.q23, T.q24, T.q25⟩
  | 2, _ => exact ⟨a3, C3, f3, rfl, t3, T.e3, T.d3, T.v3, T.q31, T.q32, T.q33, T.q34, T.q35⟩
  | 3, _ => exact ⟨a4, C4, f4, rfl, t4, T.e4, T.d4, T.v4, T.q41, T.q42, T.q43, T.q44, T.q45⟩
  | 4, _ => exact ⟨a5, C5, f5, rfl, t5, T.e5, T.d5, T.v5, T.q51, T.q52, T.q53, T.q54, T.q55⟩
def toldV (k : Nat) : List V := [.int (k : Int), .str "word", .str "point", .int (k : Int), .str "A"]
def toldP (k : Nat) : List D := [.int (k : Int), .str "word", .str "point", .int (k : Int), .str "A"]
theorem told_dp {K : PySem.W.Frag} {H : Hp} (k : Nat) : DpAll K H (toldV k) (toldP k) := .cons (.int _) (.cons (.str _) (.cons (.str _) (.cons (.int _) (.cons (.str _) .nil))))
theorem told_sh0 : SeqAt.shaped (.list (toldP 0)) = true := by decide +kernel
theorem told_sh (k : Nat) : SeqAt.shaped (.list (toldP k)) = true := told_sh0
theorem told_eq (k : Nat) : PyData.eqv (.list (toldP k)) (.list (toldP k)) = true := by
  show (((k : Int) == (k : Int)) && ((("word" : Str) == ("word" : Str)) && ((("point" : Str) == ("point" : Str)) && (((k : Int) == (k : Int)) && ((("A" : Str) == ("A" : Str)) && true))))) = true
  simp
theorem lk1 (x y : V) : (fsIS [x, y]).lookup ("place" : Str) = some x := by
  show List.lookup ("place" : Str) [(("reason" : Str), y), (("place" : Str), x)] = some x
  first | rfl | with_unfolding_all rfl | simp [List.lookup]
theorem lk2 (x y : V) : (fsIS [x, y]).lookup ("reason" : Str) = some y := by
  show List.lookup ("reason" : Str) [(("reason" : Str), y), (("place" : Str), x)] = some y
  first | rfl | with_unfolding_all rfl | simp [List.lookup]
theorem lk3 (nm : Str) (x : V) : (fs1 nm [x]).lookup nm = some x := by
  show List.lookup nm [(nm, x)] = some x
  simp [List.lookup]

theorem body_law {P : Program} {w : World} {K : PySem.W.Frag} {mg : Str → Option Value} {base : Heap} (z_range : mg "range" = none) (z_isinstance : mg "isinstance" = none) (z_bool : mg "bool" = none) (z_abs : mg "abs" = none) (C__law_big : Cal P w K mg base "_law_big" 2 (spF K p__law_big)) (C__law_number : Cal P w K mg base "_law_number" 2 (spI K p__law_number)) (C__law_ratio : Cal P w K mg base "_law_ratio" 2 (spD K p__law_ratio)) (C__law_told : Cal P w K mg base "_law_told" 4 (spD K p__law_told)) (C__law_is_ratio : Cal P w K mg base "_law_is_ratio" 2 (spD K p__law_is_ratio)) (C_is_ratio : Cal P w K mg base "is_ratio" 2 (spD K p_is_ratio)) (C__law_divisor : Cal P w K mg base "_law_divisor" 1 (spD K p__law_divisor)) (C_plus : Cal P w K mg base "plus" 3 (spD K p_plus)) (C_minus : Cal P w K mg base "minus" 3 (spD K p_minus)) (C_times : Cal P w K mg base "times" 3 (spD K p_times)) (C__law_take : Cal P w K mg base "_law_take" 1 (spI K p__law_take)) {C0 C1 C2 C3 C4 C5 : Addr} (T : Five K mg C0 C1 C2 C3 C4 C5) (z_ValueError : mg "ValueError" = none) (CK : Cal P w K mg base "_law_kinds" 1 (spKinds K C1 C2 C3 C4 C5)) (R1 : EXH.MkRaw P w K mg C1 okIS mfIS) (R2 : EXH.MkRaw P w K mg C2 ok1 (mf1 "reason")) (R3 : EXH.MkRaw P w K mg C3 okIF (mf1 "place")) (R4 : EXH.MkRaw P w K mg C4 ok1 (mf1 "name")) :
  Body P w K mg base N_law "law" st_law 5 fun ts => ∀ ds R, p_law ds R → ts { nx := fun _ => R .none, rt := fun d _ => R d } (startD N_law ds) := fun f cdv A outer s H E hr => by
  refine ⟨_, (qss_cons (qs_own 1 sc_law.nd (qf_call C__law_big (hr.mono (by decide)) (by rfl) (qa_cons (qe_var 0) (qa_cons qe_int (qa_cons qe_int qa_nil)))))
 (qss_cons (qs_for PassesOwn.never (by rfl) (qi_range1 (by rfl) z_range (qa_cons qe_int qa_nil)) (qg_name 2 sc_law.nd)
 (qss_cons (qs_set 3 sc_law.nd (qe_callI 1 C__law_number (hr.mono (by decide)) (by rfl) qa_nil))
 (qss_cons (qs_set 4 sc_law.nd (qe_callI 1 C__law_number (hr.mono (by decide)) (by rfl) qa_nil))
 (qss_cons (qs_set 5 sc_law.nd (qe_if (t_eq hr.units (qe_var 4) qe_int) qe_str (qe_call C__law_ratio (hr.mono (by decide)) (by rfl) (qa_cons (qe_var 3) (qa_cons (qe_var 4) qa_nil)))))
 (qss_cons (qs_set 6 sc_law.nd (qe_call C__law_told (hr.mono (by decide)) (by rfl) (qa_cons qe_int (qa_cons (qe_var 3) (qa_cons (qe_var 4) qa_nil)))))
 (qss_cons (qs_if (qt_bool (qw_or (t_ne hr.units (qe_var 6) (qe_var 5)) (qw_or1 (qt_bool (qw_and (t_ne hr.units (qe_var 4) qe_int) (qw_and1 (qt_not (qt_val (qe_call C__law_is_ratio (hr.mono (by decide)) (by rfl) (qa_cons (qe_var 6) qa_nil))))))))))
 (qss_one (qs_ret qe_bl))
 qss_nil)
 (qss_cons (qs_set 7 sc_law.nd (qe_call C_is_ratio (hr.mono (by decide)) (by rfl) (qa_cons (qe_tup (qa_cons (qe_var 3) (qa_cons (qe_var 4) qa_nil))) qa_nil)))
 (qss_cons (qs_if (qt_bool (qw_or (qt_not (qt_val (q_isi (by rfl) z_isinstance (by rfl) z_bool (qe_var 7)))) (qw_or1 (t_ne hr.units (qe_var 7) (qe_and (q_gt hr.units (qe_var 4) qe_int) (qe_one (q_eq hr.units (qe_call C__law_divisor (hr.mono (by decide)) (by rfl) (qa_cons (qe_var 3) (qa_cons (qe_var 4) qa_nil))) qe_int)))))))
 (qss_one (qs_ret qe_bl))
 qss_nil)
 (qss_cons (qs_set 8 sc_law.nd (qe_call C__law_ratio (hr.mono (by decide)) (by rfl) (qa_cons (qe_var 3) (qa_cons (q_add qe_int (q_abs (by rfl) z_abs (qa_cons (qe_var 4) qa_nil))) qa_nil))))
 (qss_cons (qs_set 9 sc_law.nd (qe_call C__law_ratio (hr.mono (by decide)) (by rfl) (qa_cons (qe_callI 1 C__law_number (hr.mono (by decide)) (by rfl) qa_nil) (qa_cons (q_add qe_int (q_abs (by rfl) z_abs (qa_cons (qe_callI 1 C__law_number (hr.mono (by decide)) (by rfl) qa_nil) qa_nil))) qa_nil))))
 (qss_cons (qs_set 10 sc_law.nd (qe_fr (qf_lst (qa_cons (qe_call C_plus (hr.mono (by decide)) (by rfl) (qa_cons (qe_var 8) (qa_cons (qe_var 9) qa_nil))) (qa_cons (qe_call C_minus (hr.mono (by decide)) (by rfl) (qa_cons (qe_var 8) (qa_cons (qe_var 9) qa_nil))) (qa_cons (qe_call C_times (hr.mono (by decide)) (by rfl) (qa_cons (qe_var 8) (qa_cons (qe_var 9) qa_nil))) qa_nil))))))
 (qss_cons (qs_ownLc 5 11 (by rfl) sc_law.nd (sw_true rfl rfl rfl (by decide +kernel)) (qi_list (qe_fr (qf_lst (qa_cons qe_int (qa_cons (q_neg qe_int) qa_nil))))) (blkOk_by (own := [("side", 11)]) (N := N_law) (sc := defScope st_law) (by decide +kernel)) (fun _ _ _ _ _ => pg_name (i := 11) sc_law.nd rfl (Or.inl rfl)) (fun _ _ _ _ _ => qts_nil) (fun _ _ _ _ _ => (qe_call C__law_ratio (hr.mono (by decide)) (by rfl) (qa_cons (q_add (q_mul (qe_ix (qe_var 8) qe_int) (qe_ix (qe_var 9) qe_int)) (q_mul (q_mul (qe_var 11) (qe_ix (qe_var 9) qe_int)) (qe_ix (qe_var 8) qe_int))) (qa_cons (q_mul (qe_ix (qe_var 8) qe_int) (qe_ix (qe_var 9) qe_int)) qa_nil)))))
 (qss_cons (qs_if (qt_bool (qw_or (t_ne hr.units (qe_var 10) (qe_fr (qf_catO 5 (qf_lst (qa_cons (qe_call C__law_ratio (hr.mono (by decide)) (by rfl) (qa_cons (q_mul (qe_ix (qe_var 8) qe_int) (qe_ix (qe_var 9) qe_int)) (qa_cons (q_mul (qe_ix (qe_var 8) qe_int) (qe_ix (qe_var 9) qe_int)) qa_nil))) qa_nil))))) (qw_or1 (t_in (by have := hr.un; omega) qe_bl (qe_fr (qf_lc1 12 (by rfl) sc_law.nd (qi_list (qe_var 10)) (blkOk_by (own := [("x", 12)]) (N := N_law) (sc := defScope st_law) (by decide +kernel)) (fun _ _ _ _ _ => pg_name (i := 12) sc_law.nd rfl (Or.inl rfl)) (fun _ _ _ _ _ => qts_nil) (fun _ _ _ _ _ => (qe_call C__law_is_ratio (hr.mono (by decide)) (by rfl) (qa_cons (qe_var 12) qa_nil)))))))))
 (qss_one (qs_ret qe_bl))
 qss_nil)
 (qss_cons (qs_set 5 sc_law.nd (qe_if (t_eq hr.units (qe_ix (qe_var 9) qe_int) qe_int) qe_str (qe_call C__law_ratio (hr.mono (by decide)) (by rfl) (qa_cons (q_mul (qe_ix (qe_var 8) qe_int) (qe_ix (qe_var 9) qe_int)) (qa_cons (q_mul (qe_ix (qe_var 8) qe_int) (qe_ix (qe_var 9) qe_int)) qa_nil)))))
 (qss_one (qs_if (t_ne hr.units (qe_call C__law_told (hr.mono (by decide)) (by rfl) (qa_cons qe_int (qa_cons (qe_var 8) (qa_cons (qe_var 9) qa_nil)))) (qe_var 5))
 (qss_one (qs_ret qe_bl))
 qss_nil))))))))))))))))
 (qss_cons (qs_set 13 sc_law.nd (qe_callI 1 C__law_take (hr.mono (by decide)) (by rfl) (qa_cons qe_int qa_nil)))
 (qss_raw (pss_cons (ps_set (i := 14) sc_law.nd rfl (Or.inl rfl) (pe_lst (pa_cons (EXH.pe_sup (ok := fun vs => ∃ k : Nat, k < 30 ∧ vs = [V.int (k : Int), V.str "word"]) (fs := fsIS) R1 rel_IS T.g1 T.k1 hr rfl (pa_cons (pv 13) (pa_cons pe_str pa_nil)))
   (pa_cons (EXH.pe_sup (ok := fun vs => ∃ x, vs = [x]) (fs := fs1 "reason") R2 (rel_1 "reason") T.g2 T.k2 hr rfl (pa_cons pe_str pa_nil))
   (pa_cons (EXH.pe_sup (ok := fun vs => ∃ k : Nat, k < 30 ∧ vs = [V.int (k : Int)]) (fs := fs1 "place") R3 rel_IF T.g3 T.k3 hr rfl (pa_cons (pv 13) pa_nil))
   (pa_cons (EXH.pe_sup (ok := fun vs => ∃ x, vs = [x]) (fs := fs1 "name") R4 (rel_1 "name") T.g4 T.k4 hr rfl (pa_cons pe_str pa_nil))
   (pa_cons (EXH.pe_sup0 PySem.F.excBase_ValueError T.x5 T.g5 T.k5 rfl) pa_nil)))))))
 (pss_cons (ps_for PassesOwn.never rfl (pi_range1 rfl z_range (pa_cons pe_int pa_nil)) (pg_name (i := 15) sc_law.nd rfl (Or.inr rfl))
  (pss_one (ps_if (PW.pt (pw_or (pt_not (pt_val (pe_callB EXH.call_isX rfl z_isinstance (by rfl) (pa_cons (pe_ix ix_seq (pv 14) (pv 15) (fun _ _ => rfl)) (pa_cons (pe_glob (v := .ref C0) rfl T.g0 rfl) pa_nil)))))
   (pw_or (pt_not (pt_val (pe_callB EXH.call_isX rfl z_isinstance (by rfl) (pa_cons (pe_ix ix_seq (pv 14) (pv 15) (fun _ _ => rfl)) (pa_cons (pe_bltn (v := .ty "ValueError") rfl z_ValueError (by rfl) rfl) pa_nil)))))
   (pw_or1 (pt_cmpR (op_neD hr.units) (pe_cal CK (hr.mono (by decide)) rfl (pa_cons (pe_ix ix_seq (pv 14) (pv 15) (fun _ _ => rfl)) pa_nil))
     (pe_lc (own := [("j", 16)]) (g := gName 16) (tt := tYes) rfl sc_law.nd (pi_range1 rfl z_range (pa_cons pe_int pa_nil)) (blkOk_by (own := [("j", 16)]) (N := N_law) (sc := defScope st_law) (by decide +kernel)) (fun _ _ _ _ _ => pg_name (i := 16) sc_law.nd rfl (Or.inl rfl)) (fun _ _ _ _ _ => pts_nil) (fun _ _ _ _ _ => pe_cmpR op_eq (pv 15) (pv 16) (nomark _))) (nomark _))))))
    (pss_one (ps_ret pe_bl)) pss_nil)))
 (pss_cons (ps_set (i := 6) sc_law.nd rfl (Or.inl rfl) (pe_lst (pa_cons (EXH.pe_exF (pe_ix ix_seq (pv 14) pe_int (fun _ _ => rfl))) (pa_cons (EXH.pe_exF (pe_ix ix_seq (pv 14) pe_int (fun _ _ => rfl))) (pa_cons (EXH.pe_exF (pe_ix ix_seq (pv 14) pe_int (fun _ _ => rfl))) (pa_cons (EXH.pe_exF (pe_ix ix_seq (pv 14) pe_int (fun _ _ => rfl))) (pa_cons (EXH.pe_exF (pe_ix ix_seq (pv 14) pe_int (fun _ _ => rfl))) pa_nil)))))))
 (pss_one (ps_ret (pe_cmpR (op_eqD hr.units) (pv 6) (pe_lst (pa_cons (pv 13) (pa_cons pe_str (pa_cons pe_str (pa_cons (pv 13) (pa_cons pe_str pa_nil)))))) (nomark _))))))))))), ?_⟩
  intro ds R h
  obtain ⟨ns, rfl, h⟩ := h
  refine ⟨ns, 0, 24, rfl, by decide, fun c0 hc0 => ⟨trivial, 5, rfl, by decide, by decide, ?_⟩⟩
  refine ⟨fun i ρ => ∃ (c : Int) (s2 s3 s4 s5 s6 s7 s8 s9 s10 : Sl), ρ = lawE ns c s2 s3 s4 s5 s6 s7 s8 s9 s10 ∧ 0 ≤ c ∧ nio s2 ∧ nio s3 ∧ nio s4 ∧ nio s5 ∧ nio s6 ∧ nio s7 ∧ nio s8 ∧ nio s9 ∧ nio s10, ⟨c0, .no, .no, .no, .no, .no, .no, .no, .no, .no, rfl, hc0, trivial, trivial, trivial, trivial, trivial, trivial, trivial, trivial, trivial⟩, ?_, ?_⟩
  · rintro i dd ρ hi ⟨c, s2, s3, s4, s5, s6, s7, s8, s9, s10, rfl, hc, k2, k3, k4, k5, k6, k7, k8, k9, k10⟩
    obtain ⟨hi', rfl⟩ := rgD_at hi
    refine ⟨k2, rfl, _, rfl, c, rfl, rfl, hc, fun p c1 hp hc1 => ⟨k3, rfl, _, rfl, c1, rfl, rfl, hc1, fun q c2 hq hc2 => ⟨k4, ?_⟩⟩⟩
    -- due
    try unfold dNext
    try dsimp only
    refine ev_asg (ρ' := lawE ns c2 (.sh (.int (0 + (i : Int)))) (.sh (.int p)) (.sh (.int q)) s5 s6 s7 s8 s9 s10) (toldD p q) (fun K hk => ?_) ?_
    · refine ⟨_, rfl, fun hz => ?_, fun hz => ?_⟩
      · have hz' : (q == 0) = true := hz
        have hq0 : q = 0 := eq_of_beq hz'
        rw [hq0, told0] at hk
        rw [hq0]
        exact hk
      · have hz' : (q == 0) = false := hz
        have hq0 : q ≠ 0 := fun z => by rw [z] at hz'; exact absurd hz' (by decide)
        rw [told1 p hq0] at hk
        exact ⟨p, q, rfl, hq0, sml_mono hp (by decide), sml_mono hq (by decide), hk⟩
    -- told
    refine ⟨k5, .inl ⟨p, q, rfl, sml_mono hq (by decide), k6, ?_⟩⟩
    try unfold dNext
    try dsimp only
    refine ev_if (ρ' := lawE ns c2 (.sh (.int (0 + (i : Int)))) (.sh (.int p)) (.sh (.int q)) (.sh (toldD p q)) (.sh (toldD p q)) s7 s8 s9 s10) false (fun K hk => ?_) ⟨(fun z => nomatch z), fun _ => ?_⟩
    · refine or_ne_told (a := p) (b := q) rfl rfl ⟨_, rfl, fun hb => ?_, fun _ => hk⟩
      have hb' : (!(q == 0)) = true := hb
      have hq0 : q ≠ 0 := fun z => by rw [z] at hb'; exact absurd hb' (by decide)
      obtain ⟨r1, r2, r3, r4, _, _⟩ := rat_spec (a := p) hq0
      exact ⟨(rat p q).1, (rat p q).2, by show [toldD p q] = _; rw [told1 p hq0], r1, sml_prod (sml_of_le hp r3) (sml_of_le hq r4) (by decide), r2, true, rfl, hk⟩
    -- kind
    refine ⟨sl2, p, q, rfl, k7, ?_⟩
    try unfold dNext
    try dsimp only
    refine ev_if (ρ' := lawE ns c2 (.sh (.int (0 + (i : Int)))) (.sh (.int p)) (.sh (.int q)) (.sh (toldD p q)) (.sh (toldD p q)) (.sh (.bool (isr p q))) s8 s9 s10) false (fun K hk => ?_) ⟨(fun z => nomatch z), fun _ => ?_⟩
    · refine ⟨true, kit4, true, rfl, (fun z => nomatch z), fun _ => ⟨decide ((0 : Int) < q), rfl, fun h0 => ?_, fun h0 => ?_⟩⟩
      · refine ⟨p, q, rfl, sml_prod hp hq (by decide), _, rfl, ?_⟩
        show K (!(isr p q == (((Int.gcd p q : Nat) : Int) == 1))) _
        rw [isr_of_true h0]
        exact hk
      · refine ⟨_, rfl, ?_⟩
        show K (!(isr p q == false)) _
        rw [isr_of_false h0]
        exact hk
    -- one, two
    have hb1 : (1 : Int) + (q.natAbs : Int) ≠ 0 := by omega
    refine ⟨p, 1 + (q.natAbs : Int), by show ([PyData.int p, .int (1 + (if q < 0 then -q else q))] : List D) = _; rw [abs_nat], hb1, sml_mono hp (by decide), sml_mono (sml_one hq) (by decide), k8, ?_⟩
    have F1 := rf_of hb1 (sml_mono hp (by decide)) (sml_one hq)
    generalize rat p (1 + (q.natAbs : Int)) = o1 at F1 ⊢
    obtain ⟨a, b⟩ := o1
    obtain ⟨a1, a2, a3, a4⟩ := F1
    refine ⟨rfl, _, rfl, c2, rfl, rfl, hc2, fun x c3 hx hc3 => ⟨rfl, _, rfl, c3, rfl, rfl, hc3, fun y c4 hy hc4 => ?_⟩⟩
    have hb2 : (1 : Int) + (y.natAbs : Int) ≠ 0 := by omega
    refine ⟨x, 1 + (y.natAbs : Int), by show ([PyData.int x, .int (1 + (if y < 0 then -y else y))] : List D) = _; rw [abs_nat], hb2, sml_mono hx (by decide), sml_mono (sml_one hy) (by decide), k9, ?_⟩
    have F2 := rf_of hb2 (sml_mono hx (by decide)) (sml_one hy)
    generalize rat x (1 + (y.natAbs : Int)) = o2 at F2 ⊢
    obtain ⟨e, d⟩ := o2
    obtain ⟨b1, b2, b3, b4⟩ := F2
    have hb0 : b ≠ 0 := by have : 0 < b := a1; omega
    have hd0 : d ≠ 0 := by have : 0 < d := b1; omega
    have hbd : b * d ≠ 0 := Int.mul_ne_zero hb0 hd0
    have m1 : sml 800 (a * d) := sml_mul a3 b4
    have m2 : sml 800 (e * b) := sml_mul b3 a4
    have m3 : sml 800 (b * d) := sml_mul a4 b4
    have m4 : sml 800 (a * e) := sml_mul a3 b3
    have m5 : sml 800 (b * e) := sml_mul a4 b3
    -- found
    refine ⟨a, b, e, d, rfl, hb0, hd0, a3, a4, b3, b4, a, b, e, d, rfl, hb0, hd0, a3, a4, b3, b4, a, b, e, d, rfl, hb0, hd0, a3, a4, b3, b4, sl3, k10, ?_⟩
    -- due, the two
    refine ⟨sl2, fun v hv => by rw [List.mem_singleton.mp hv]; trivial, fun k acc ρ => ρ = lawE ns c4 (.sh (.int (0 + (i : Int)))) (.sh (.int p)) (.sh (.int q)) (.sh (toldD p q)) (.sh (toldD p q)) (.sh (.bool (isr p q))) (.sh (enc (a, b))) (.sh (enc (e, d))) (.sh (.list [enc (rat (a * d + e * b) (b * d)), enc (rat (a * d - e * b) (b * d)), enc (rat (a * e) (b * d))])) ∧ acc = ([enc (rat (a * d + e * b) (b * d)), enc (rat (a * d - e * b) (b * d))] : List D).take k ∧ k ≤ 2, ⟨rfl, rfl, by decide⟩, ?_, ?_⟩
    · rintro k acc dk ρ hk ⟨rfl, rfl, _⟩
      match k, hk with
      | 0, hk =>
        cases hk
        refine ⟨trivial, fun _ => ?_, (fun z => nomatch z)⟩
        refine ⟨.int a, rfl, .int d, rfl, cmS a3 b4 (by decide), .int e, rfl, cmL (by decide) (by decide), .int b, rfl, cmS (a := 400) (by rw [Int.one_mul]; exact b3) a4 (by decide), .int b, rfl, .int d, rfl, cmS a4 b4 (by decide), a * d + e * b, b * d, by show ([PyData.int (a * d + 1 * e * b), .int (b * d)] : List D) = _; rw [Int.one_mul], hbd, sml_mono (sml_add m1 m2) (by decide), sml_mono m3 (by decide), (by show 0 < sizeLine; decide), fun v hv => by rw [List.mem_singleton.mp hv]; trivial, rfl, rfl, by decide⟩
      | 1, hk =>
        cases hk
        refine ⟨trivial, fun _ => ?_, (fun z => nomatch z)⟩
        refine ⟨.int a, rfl, .int d, rfl, cmS a3 b4 (by decide), .int e, rfl, cmL (by decide) (by decide), .int b, rfl, cmS (a := 400) (by rw [Int.neg_one_mul]; exact sml_neg b3) a4 (by decide), .int b, rfl, .int d, rfl, cmS a4 b4 (by decide), a * d - e * b, b * d, by show ([PyData.int (a * d + (-1) * e * b), .int (b * d)] : List D) = _; rw [Int.neg_one_mul, Int.neg_mul, ← Int.sub_eq_add_neg], hbd, sml_mono (sml_sub m1 m2) (by decide), sml_mono m3 (by decide), (by show 1 < sizeLine; decide), fun v hv => by rw [List.mem_singleton.mp hv]; trivial, rfl, rfl, by decide⟩
      | k + 2, hk => cases hk
    rintro acc ρ ⟨rfl, rfl, _⟩
    refine ⟨trivial, ?_⟩
    -- found is what is due
    refine ⟨rfl, .int a, rfl, .int e, rfl, cmS a3 b3 (by decide), .int b, rfl, .int d, rfl, cmS a4 b4 (by decide), a * e, b * d, rfl, hbd, sml_mono m4 (by decide), sml_mono m3 (by decide), sl1, _, rfl, sl3, shaped_encs [rat (a * d + e * b) (b * d), rat (a * d - e * b) (b * d), rat (a * e) (b * d)], shaped_encs [rat (a * d + e * b) (b * d), rat (a * d - e * b) (b * d), rat (a * e) (b * d)], _, rfl, fun hb => ?_, fun _ => ?_⟩
    · have hb' : (!PyData.eqv (.list ([rat (a * d + e * b) (b * d), rat (a * d - e * b) (b * d), rat (a * e) (b * d)].map enc)) (.list ([rat (a * d + e * b) (b * d), rat (a * d - e * b) (b * d), rat (a * e) (b * d)].map enc))) = true := hb
      rw [eqv_encs] at hb'
      cases hb'
    refine ⟨fun v hv => by rw [List.mem_singleton.mp hv]; trivial, fun k acc ρ => ρ = (lawE ns c4 (.sh (.int (0 + (i : Int)))) (.sh (.int p)) (.sh (.int q)) (.ol [enc (rat (a * d + e * b) (b * d)), enc (rat (a * d - e * b) (b * d))]) (.sh (toldD p q)) (.sh (.bool (isr p q))) (.sh (enc (a, b))) (.sh (enc (e, d))) (.sh (.list [enc (rat (a * d + e * b) (b * d)), enc (rat (a * d - e * b) (b * d)), enc (rat (a * e) (b * d))]))) ∧ acc = List.replicate k (.bool true) ∧ k ≤ 3, ⟨rfl, rfl, by decide⟩, ?_, ?_⟩
    · rintro k acc dk ρ hk ⟨rfl, rfl, _⟩
      have hd : ∃ n : Int, dk = enc (rat n (b * d)) ∧ sml 801 n ∧ k < 3 := by
        match k, hk with
        | 0, hk => exact ⟨_, (Option.some.inj hk).symm, sml_add m1 m2, by decide⟩
        | 1, hk => exact ⟨_, (Option.some.inj hk).symm, sml_sub m1 m2, by decide⟩
        | 2, hk => exact ⟨_, (Option.some.inj hk).symm, sml_mono m4 (by decide), by decide⟩
        | k + 3, hk => cases hk
      obtain ⟨n, rfl, hn, hk3⟩ := hd
      obtain ⟨r1, r2, r3, r4, _, _⟩ := rat_spec (a := n) hbd
      refine ⟨trivial, fun _ => ⟨(rat n (b * d)).1, (rat n (b * d)).2, rfl, r1, sml_prod (sml_of_le hn r3) (sml_of_le m3 r4) (by decide), r2, ?_, fun v hv => by rw [List.mem_singleton.mp hv]; trivial, rfl, List.replicate_succ'.symm, by omega⟩, (fun z => nomatch z)⟩
      rw [List.length_replicate]
      exact Nat.lt_of_lt_of_le hk3 sl3
    rintro acc ρ ⟨rfl, rfl, _⟩
    refine ⟨rfl, rfl, _, rfl, (fun z => nomatch z), fun _ => ?_⟩
    -- over
    try unfold dNext
    try dsimp only
    refine ev_asg (ρ' := lawE ns c4 (.sh (.int (0 + (i : Int)))) (.sh (.int p)) (.sh (.int q)) (.ol [enc (rat (a * d + e * b) (b * d)), enc (rat (a * d - e * b) (b * d))]) (.sh (toldD p q)) (.sh (.bool (isr p q))) (.sh (enc (a, b))) (.sh (enc (e, d))) (.sh (.list [enc (rat (a * d + e * b) (b * d)), enc (rat (a * d - e * b) (b * d)), enc (rat (a * e) (b * d))]))) (toldD (a * d) (b * e)) (fun K hk => ?_) ?_
    · refine ⟨.int e, rfl, _, rfl, fun hz => ?_, fun hz => ?_⟩
      · have hz' : (e == 0) = true := hz
        have hz0 : toldD (a * d) (b * e) = .str "none" := by rw [show e = 0 from eq_of_beq hz', Int.mul_zero]; exact told0 _
        rw [hz0] at hk
        exact hk
      · have hz' : (e == 0) = false := hz
        have he0 : e ≠ 0 := fun z => by rw [z] at hz'; exact absurd hz' (by decide)
        have hbe : b * e ≠ 0 := Int.mul_ne_zero hb0 he0
        rw [told1 (a * d) hbe] at hk
        exact ⟨.int a, rfl, .int d, rfl, cmS a3 b4 (by decide), .int b, rfl, .int e, rfl, cmS a4 b3 (by decide), a * d, b * e, rfl, hbe, sml_mono m1 (by decide), sml_mono m5 (by decide), hk⟩
    refine ⟨trivial, ?_⟩
    try dsimp only
    unfold dIfS
    refine t_told_ne (ρ1 := lawE ns c4 (.sh (.int (0 + (i : Int)))) (.sh (.int p)) (.sh (.int q)) (.sh (toldD (a * d) (b * e))) (.sh (toldD p q)) (.sh (.bool (isr p q))) (.sh (enc (a, b))) (.sh (enc (e, d))) (.sh (.list [enc (rat (a * d + e * b) (b * d)), enc (rat (a * d - e * b) (b * d)), enc (rat (a * e) (b * d))]))) (ds := [.int 1, enc (a, b), enc (e, d)]) (a := a * d) (b := b * e) (fun K hk => hk) (fun R h => .inr ⟨a, b, e, d, rfl, a3, a4, b3, b4, h⟩) rfl ⟨(fun z => nomatch z), fun _ => ?_⟩
    exact ⟨c4, .sh (.int (0 + (i : Int))), .sh (.int p), .sh (.int q), .sh (toldD (a * d) (b * e)), .sh (toldD p q), .sh (.bool (isr p q)), .sh (enc (a, b)), .sh (enc (e, d)), .sh (.list [enc (rat (a * d + e * b) (b * d)), enc (rat (a * d - e * b) (b * d)), enc (rat (a * e) (b * d))]), rfl, hc4, trivial, trivial, trivial, trivial, trivial, trivial, trivial, trivial, trivial⟩
  · rintro ρ ⟨c, s2, s3, s4, s5, s6, s7, s8, s9, s10, rfl, hc, k2, k3, k4, k5, k6, k7, k8, k9, k10⟩
    refine ⟨rfl, _, rfl, c, 30, rfl, rfl, by decide, sml30, hc, fun x c1 hx0 hx1 hc1 => ⟨trivial, ?_⟩⟩
    obtain ⟨k, rfl⟩ := Int.eq_ofNat_of_zero_le hx0
    have hk : k < 30 := by omega
    intro A2 Ow σ H2 D2 rel hrt
    obtain ⟨_, v13, hv, rp13⟩ := rel.sl 13 (.sh (.int (k : Int))) rfl
    rw [rp_int rp13] at hv
    have hln : σ.length = 17 := rel.len
    -- the errors
    refine ⟨_, hv, ⟨k, hk, rfl⟩, fun a1 d1 x1 y1 n1 => ?_⟩
    obtain ⟨e1, t1⟩ := sup_at (C := C1) (fs := fsIS [V.int (k : Int), V.str "word"]) x1 y1 n1
    refine ⟨⟨_, rfl⟩, fun a2 d2 x2 y2 n2 => ?_⟩
    obtain ⟨e2, t2⟩ := sup_at (C := C2) (fs := fs1 "reason" [V.str "point"]) x2 y2 n2
    refine ⟨_, hv, ⟨k, hk, rfl⟩, fun a3 d3 x3 y3 n3 => ?_⟩
    obtain ⟨e3, t3⟩ := sup_at (C := C3) (fs := fs1 "place" [V.int (k : Int)]) x3 y3 n3
    refine ⟨⟨_, rfl⟩, fun a4 d4 x4 y4 n4 => ?_⟩
    obtain ⟨e4, t4⟩ := sup_at (C := C4) (fs := fs1 "name" [V.str "A"]) x4 y4 n4
    refine fun a5 x5 => ⟨sl5, fun l xl => ?_⟩
    obtain ⟨e5, t5⟩ := sup0_at (C := C5) x5
    obtain ⟨e6, hL⟩ := new_lst (xs := [V.ref a1, .ref a2, .ref a3, .ref a4, .ref a5]) xl
    refine ⟨5, rfl, by decide, by decide, for_range (fun i σ' H' => σ'[13]? = some (some (V.int (k : Int))) ∧ σ'[14]? = some (some (V.ref l)) ∧ σ'.length = 17 ∧ Same H2 H' ∧ H' l = some (.lst [V.ref a1, .ref a2, .ref a3, .ref a4, .ref a5]) ∧ EXH.ExAt H' a1 C1 (fsIS [V.int (k : Int), V.str "word"]) ∧ EXH.ExAt H' a2 C2 (fs1 "reason" [V.str "point"]) ∧ EXH.ExAt H' a3 C3 (fs1 "place" [V.int (k : Int)]) ∧ EXH.ExAt H' a4 C4 (fs1 "name" [V.str "A"]) ∧ EXH.ExAt H' a5 C5 []) ⟨?_, ?_, ?_, (e1.trans (e2.trans (e3.trans (e4.trans (e5.trans e6))))), hL, exAt_same (e2.trans (e3.trans (e4.trans (e5.trans e6)))) t1, exAt_same (e3.trans (e4.trans (e5.trans e6))) t2, exAt_same (e4.trans (e5.trans e6)) t3, exAt_same (e5.trans e6) t4, exAt_same e6 t5⟩ ?_ ?_⟩
    · show (σ.set 14 _)[13]? = _
      rw [List.getElem?_set_ne (by decide)]
      exact hv
    · show (σ.set 14 _)[14]? = _
      rw [List.getElem?_set_self (by omega)]
    · show (σ.set 14 _).length = 17
      rw [List.length_set]
      exact hln
    · rintro i σ' H' hi ⟨q13, q14, ql, qs, qL, T1, T2, T3, T4, T5⟩
      obtain ⟨a, C, fs, g1, g2, g3, g4, g5, w1, w2, w3, w4, w5⟩ := info5 T T1 T2 T3 T4 T5 i hi
      have r13 : (σ'.set 15 (some (V.int (0 + (i : Int)))))[13]? = some (some (V.int (k : Int))) := by rw [List.getElem?_set_ne (by decide)]; exact q13
      have r14 : (σ'.set 15 (some (V.int (0 + (i : Int)))))[14]? = some (some (V.ref l)) := by rw [List.getElem?_set_ne (by decide)]; exact q14
      have r15 : (σ'.set 15 (some (V.int (0 + (i : Int)))))[15]? = some (some (V.int (0 + (i : Int)))) := by rw [List.getElem?_set_self (by omega)]
      have hat : atI ([V.ref a1, .ref a2, .ref a3, .ref a4, .ref a5] : List V) (0 + (i : Int)) = some (.ref a) := by rw [Int.zero_add, atI_nat]; exact g1
      refine ⟨_, r14, _, r15, .inl ⟨l, _, _, _, rfl, rfl, SqL.of qL, hat, ?_⟩⟩
      refine ⟨a, C, fs, .ref C0, .ref C0, true, rfl, g2, g3, fun u hu => hu, g4, true, rfl, ?_⟩
      refine ite2 (fun c => absurd c (by decide)) (fun _ => ?_)
      refine ⟨_, r14, _, r15, .inl ⟨l, _, _, _, rfl, rfl, SqL.of qL, hat, ?_⟩⟩
      refine ⟨a, C, fs, .ty "ValueError", .type "ValueError", true, rfl, g2, g3, fun u hu => hu, g5, true, rfl, ?_⟩
      refine ite2 (fun c => absurd c (by decide)) (fun _ => ?_)
      refine ⟨_, r14, _, r15, .inl ⟨l, _, _, _, rfl, rfl, SqL.of qL, hat, a, C, fs, _, _, _, _, _, rfl, g2, g3, w1, w2, w3, w4, w5, fun lk H3 s3 hlk => ?_⟩⟩
      refine ⟨5, rfl, by decide, by decide, fun Dl hD => lc_range (fun j H'' => (∀ b o, b ≠ Dl → H3 b = some o → H'' b = some o) ∧ H'' Dl = some (.lst ((List.range j).map fun (m : Nat) => V.bl (decide (V.int (0 + (i : Int)) = V.int (0 + (m : Int))))))) ⟨fun b o hb e => by rw [upd_ne hb]; exact e, upd_same⟩ ?_ ?_⟩
      · rintro j H'' hj ⟨p1, p2⟩
        refine ⟨?_, ?_⟩
        · show (((_ : L2.St).set 16 none).set 16 (some _)).set 16 none = (_ : L2.St).set 16 none
          rw [List.set_set, List.set_set]
        · refine ⟨V.int (0 + (i : Int)), ?_, V.int (0 + (j : Int)), ?_, rfl, _, p2, ?_, ?_, ?_⟩
          · show (((σ'.set 15 (some (V.int (0 + (i : Int))))).set 16 none).set 16 (some (V.int (0 + (j : Int)))))[15]? = _
            rw [List.getElem?_set_ne (by decide), List.getElem?_set_ne (by decide)]
            exact r15
          · show (((σ'.set 15 (some (V.int (0 + (i : Int))))).set 16 none).set 16 (some (V.int (0 + (j : Int)))))[16]? = _
            rw [List.getElem?_set_self (by rw [List.length_set, List.length_set, ql]; decide)]
          · rw [List.length_map, List.length_range]
            exact Nat.lt_of_lt_of_le hj (by decide)
          · exact fun b o hb e => by rw [upd_ne hb]; exact p1 b o hb e
          · rw [upd_same, List.range_succ, List.map_append]
            rfl
      · rintro H'' ⟨p1, p2⟩
        have nl : ∀ b o, H3 b = some o → b ≠ Dl := fun b o e z => by
          rw [z, hD] at e
          cases e
        have s4 : Same H3 H'' := fun b o e => p1 b o (nl b o e) e
        refine ⟨.list [.bool (decide (i = 0)), .bool (decide (i = 1)), .bool (decide (i = 2)), .bool (decide (i = 3)), .bool (decide (i = 4))], .list ((List.range 5).map fun (m : Nat) => PyData.bool (decide (V.int (0 + (i : Int)) = V.int (0 + (m : Int))))), .lst (SqL.of (s4 _ _ hlk)) (.cons (.bl _) (.cons (.bl _) (.cons (.bl _) (.cons (.bl _) (.cons (.bl _) .nil))))), .lst (SqL.of p2) (dp_bools _ _), rfl, rfl, _, rfl, ?_⟩
        refine ite2 (fun c => ?_) (fun _ => ?_)
        · have c' : (!PyData.eqv (.list [.bool (decide (i = 0)), .bool (decide (i = 1)), .bool (decide (i = 2)), .bool (decide (i = 3)), .bool (decide (i = 4))]) (.list ((List.range 5).map fun (m : Nat) => PyData.bool (decide (V.int (0 + (i : Int)) = V.int (0 + (m : Int))))))) = true := c
          rw [boolsL i hi] at c'
          cases c'
        · have s5 : Same H' H'' := s3.trans s4
          exact ⟨r13, r14, by rw [List.length_set]; exact ql, qs.trans s5, s5 _ _ qL, exAt_same s5 T1, exAt_same s5 T2, exAt_same s5 T3, exAt_same s5 T4, exAt_same s5 T5⟩
    · rintro σ' H' ⟨q13, q14, ql, qs, qL, T1, T2, T3, T4, T5⟩
      refine ⟨_, q14, .inl ⟨l, _, _, V.ref a1, rfl, rfl, SqL.of qL, rfl, a1, C1, _, _, rfl, T1, T.e1, T.f1, lk1 _ _, ?_⟩⟩
      refine ⟨_, q14, .inl ⟨l, _, _, V.ref a1, rfl, rfl, SqL.of qL, rfl, a1, C1, _, _, rfl, T1, T.e1, T.f1r, lk2 _ _, ?_⟩⟩
      refine ⟨_, q14, .inl ⟨l, _, _, V.ref a2, rfl, rfl, SqL.of qL, rfl, a2, C2, _, _, rfl, T2, T.e2, T.f2, lk3 _ _, ?_⟩⟩
      refine ⟨_, q14, .inl ⟨l, _, _, V.ref a3, rfl, rfl, SqL.of qL, rfl, a3, C3, _, _, rfl, T3, T.e3, T.f3, lk3 _ _, ?_⟩⟩
      refine ⟨_, q14, .inl ⟨l, _, _, V.ref a4, rfl, rfl, SqL.of qL, rfl, a4, C4, _, _, rfl, T4, T.e4, T.f4, lk3 _ _, ?_⟩⟩
      refine ⟨sl5, fun q hq => ?_⟩
      obtain ⟨e7, hq7⟩ := new_lst (xs := toldV k) hq
      have r6 : (σ'.set 6 (some (V.ref q)))[6]? = some (some (V.ref q)) := by rw [List.getElem?_set_self (by omega)]
      have r13 : (σ'.set 6 (some (V.ref q)))[13]? = some (some (V.int (k : Int))) := by rw [List.getElem?_set_ne (by decide)]; exact q13
      refine ⟨_, r6, _, r13, _, r13, sl5, fun r hr => ?_⟩
      obtain ⟨e8, hq8⟩ := new_lst (xs := toldV k) hr
      refine ⟨.list (toldP k), .list (toldP k), .lst (SqL.of (e8 _ _ hq7)) (told_dp k), .lst (SqL.of hq8) (told_dp k), told_sh k, told_sh k, ?_⟩
      rw [told_eq]
      exact hrt _ (qs.trans (e7.trans e8)) h
theorem ok_law {P : Program} {w : World} {K : PySem.W.Frag} {mg : Str → Option Value} {base : Heap} {f : Addr} {fd : FuncData} (F : Fun K "law" "law" st_law f fd) (z_range : mg "range" = none) (z_isinstance : mg "isinstance" = none) (z_bool : mg "bool" = none) (z_abs : mg "abs" = none) (C__law_big : Cal P w K mg base "_law_big" 2 (spF K p__law_big)) (C__law_number : Cal P w K mg base "_law_number" 2 (spI K p__law_number)) (C__law_ratio : Cal P w K mg base "_law_ratio" 2 (spD K p__law_ratio)) (C__law_told : Cal P w K mg base "_law_told" 4 (spD K p__law_told)) (C__law_is_ratio : Cal P w K mg base "_law_is_ratio" 2 (spD K p__law_is_ratio)) (C_is_ratio : Cal P w K mg base "is_ratio" 2 (spD K p_is_ratio)) (C__law_divisor : Cal P w K mg base "_law_divisor" 1 (spD K p__law_divisor)) (C_plus : Cal P w K mg base "plus" 3 (spD K p_plus)) (C_minus : Cal P w K mg base "minus" 3 (spD K p_minus)) (C_times : Cal P w K mg base "times" 3 (spD K p_times)) (C__law_take : Cal P w K mg base "_law_take" 1 (spI K p__law_take)) {C0 C1 C2 C3 C4 C5 : Addr} (T : Five K mg C0 C1 C2 C3 C4 C5) (z_ValueError : mg "ValueError" = none) (CK : Cal P w K mg base "_law_kinds" 1 (spKinds K C1 C2 C3 C4 C5)) (R1 : EXH.MkRaw P w K mg C1 okIS mfIS) (R2 : EXH.MkRaw P w K mg C2 ok1 (mf1 "reason")) (R3 : EXH.MkRaw P w K mg C3 okIF (mf1 "place")) (R4 : EXH.MkRaw P w K mg C4 ok1 (mf1 "name")) :
  FnOk P w K mg base CX0 6 f fd ["script"] (spD K p_law) := fn_D F sc_law len_law (body_law z_range z_isinstance z_bool z_abs C__law_big C__law_number C__law_ratio C__law_told C__law_is_ratio C_is_ratio C__law_divisor C_plus C_minus C_times C__law_take T z_ValueError CK R1 R2 R3 R4)
theorem kit_t {K : PySem.W.Frag} {C D : Addr} (hc : PySem.W.isClsIn K D = true) (ht : PySem.W.typeIn K (.ref D) = some (.type "type")) (hs : PySem.W.subIn K (.ref C) (.ref D) = some true) : PySem.W.kitOne K (.ref C) (.ref D) = some true := by
  have hc' : (PySem.W.clsIn K D).isSome = true := hc
  have e : ((PySem.W.clsIn K D).isSome && PySem.W.typeIn K (.ref D) == some (.type "type")) = true := by rw [hc', ht] <;> rfl
  unfold PySem.W.kitOne
  split
  · rfl
  · show (if ((PySem.W.clsIn K D).isSome && PySem.W.typeIn K (.ref D) == some (.type "type")) = true then PySem.W.subIn K (.ref C) (.ref D) else none) = some true
    rw [if_pos e]
    exact hs
theorem kit_f {K : PySem.W.Frag} {C D : Addr} (hc : PySem.W.isClsIn K D = true) (ht : PySem.W.typeIn K (.ref D) = some (.type "type")) (hs : PySem.W.subIn K (.ref C) (.ref D) = some false) (hd : PySem.W.subIn K (.ref D) (.ref D) = some true) : PySem.W.kitOne K (.ref C) (.ref D) = some false := by
  have hc' : (PySem.W.clsIn K D).isSome = true := hc
  have e : ((PySem.W.clsIn K D).isSome && PySem.W.typeIn K (.ref D) == some (.type "type")) = true := by rw [hc', ht] <;> rfl
  unfold PySem.W.kitOne
  split
  · rename_i z
    have z' : C = D := Value.ref.inj (beq_iff_eq.mp z)
    rw [z', hd] at hs
    cases hs
  · show (if ((PySem.W.clsIn K D).isSome && PySem.W.typeIn K (.ref D) == some (.type "type")) = true then PySem.W.subIn K (.ref C) (.ref D) else none) = some false
    rw [if_pos e]
    exact hs
theorem kit_v {K : PySem.W.Frag} {C : Addr} (hs : PySem.W.subIn K (.ref C) (.type "ValueError") = some true) : PySem.W.kitOne K (.ref C) (.type "ValueError") = some true := by
  have e : PySem.W.kitMeta "ValueError" = true := by decide +kernel
  unfold PySem.W.kitOne
  split
  · rfl
  · show (if PySem.W.kitMeta "ValueError" = true then PySem.W.subIn K (.ref C) (.type "ValueError") else none) = some true
    rw [if_pos e]
    exact hs
theorem all_mk {l : PySem.W.OpenLaw} {w : World} {K : PySem.W.Frag} {h : Heap} {mg : Str → Option Value} {fa f0 f1 f2 f3 f4 f5 f6 f7 f8 f9 f10 f11 f12 f13 f14 f15 f16 C0 C1 C2 C3 C4 C5 fI1 fI2 fI3 fI4 cc1 cc2 cc3 cc4 cda1 cda2 cda3 cda4 : Addr} (X : K.In h) (G : h.Ns mainGlobals mg) (hfa : mg "law" = some (.ref fa))
  {od0 od1 od2 od3 od4 od5 od6 od7 od8 od9 od10 od11 od12 od13 od14 od15 od16 an0 an1 an2 an3 an4 an5 an6 an7 an8 an9 an10 an11 an12 an13 an14 an15 an16 : Option Addr} {sl0 sl1 sl2 sl3 sl4 sl5 sl6 sl7 sl8 sl9 sl10 sl11 sl12 sl13 sl14 sl15 sl16 : Array (Option Value)} {oc0 oc1 oc2 oc3 oc4 oc5 oc6 oc7 oc8 oc9 oc10 oc11 oc12 oc13 oc14 oc15 oc16 kV0 kV1 kV2 kV3 kV4 kV5 kV6 kV7 kV8 kV9 kV10 kV11 kV12 kV13 kV14 kV15 kV16 dc0 dc1 dc2 dc3 dc4 dc5 dc6 dc7 dc8 dc9 dc10 dc11 dc12 dc13 dc14 dc15 dc16 pm0 pm1 pm2 pm3 pm4 pm5 pm6 pm7 pm8 pm9 pm10 pm11 pm12 pm13 pm14 pm15 pm16 cd0 cd1 cd2 cd3 cd4 cd5 cd6 cd7 cd8 cd9 cd10 cd11 cd12 cd13 cd14 cd15 cd16 ct0 ct1 ct2 ct3 ct4 ct5 ct6 ct7 ct8 ct9 ct10 ct11 ct12 ct13 ct14 ct15 ct16 : Value}
  {nmC1 qC1 file1 : Str} {NC1 : Addr} {bsC1 subC1 : List Value} {snC1 : List Str} {abC1 : Bool} {colC1 : Option Bool} {ddC1 odI1 cddI1 cldI1 anI1 : Option Addr} {m0C1 m1C1 m2C1 m3C1 m5C1 : Option Value} {ocI1 kVI1 docI1 pmI1 ctI1 cclI1 clI1 : Value} {oslI1 ccsI1 cslI1 : Array (Option Value)} {vsI1 : Array Value} {tfI1 : Tok}
  {nmC2 qC2 file2 : Str} {NC2 : Addr} {bsC2 subC2 : List Value} {snC2 : List Str} {abC2 : Bool} {colC2 : Option Bool} {ddC2 odI2 cddI2 cldI2 anI2 : Option Addr} {m0C2 m1C2 m2C2 m3C2 m5C2 : Option Value} {ocI2 kVI2 docI2 pmI2 ctI2 cclI2 clI2 : Value} {oslI2 ccsI2 cslI2 : Array (Option Value)} {vsI2 : Array Value} {tfI2 : Tok}
  {nmC3 qC3 file3 : Str} {NC3 : Addr} {bsC3 subC3 : List Value} {snC3 : List Str} {abC3 : Bool} {colC3 : Option Bool} {ddC3 odI3 cddI3 cldI3 anI3 : Option Addr} {m0C3 m1C3 m2C3 m3C3 m5C3 : Option Value} {ocI3 kVI3 docI3 pmI3 ctI3 cclI3 clI3 : Value} {oslI3 ccsI3 cslI3 : Array (Option Value)} {vsI3 : Array Value} {tfI3 : Tok}
  {nmC4 qC4 file4 : Str} {NC4 : Addr} {bsC4 subC4 : List Value} {snC4 : List Str} {abC4 : Bool} {colC4 : Option Bool} {ddC4 odI4 cddI4 cldI4 anI4 : Option Addr} {m0C4 m1C4 m2C4 m3C4 m5C4 : Option Value} {ocI4 kVI4 docI4 pmI4 ctI4 cclI4 clI4 : Value} {oslI4 ccsI4 cslI4 : Array (Option Value)} {vsI4 : Array Value} {tfI4 : Tok}
  (a0 : PySem.W.nsIn K mainGlobals "common_divisor" = some (some (.ref f0)))
  (l0 : K.lookup f0 = some ⟨oc0, od0, .func (PySem.W.fnOf "common_divisor" "common_divisor" (defArgs st_common_divisor) (defBody st_common_divisor) (defScope st_common_divisor) .none kV0 dc0 pm0 an0 cd0 ct0), sl0⟩)
  (c0 : PySem.W.codeIn K cd0 "common_divisor" = true)
  (k0 : PySem.W.keepIn K (.ref f0) = true)
  (a1 : PySem.W.nsIn K mainGlobals "ratio" = some (some (.ref f1)))
  (l1 : K.lookup f1 = some ⟨oc1, od1, .func (PySem.W.fnOf "ratio" "ratio" (defArgs st_ratio) (defBody st_ratio) (defScope st_ratio) .none kV1 dc1 pm1 an1 cd1 ct1), sl1⟩)
  (c1 : PySem.W.codeIn K cd1 "ratio" = true)
  (k1 : PySem.W.keepIn K (.ref f1) = true)
  (a2 : PySem.W.nsIn K mainGlobals "is_ratio" = some (some (.ref f2)))
  (l2 : K.lookup f2 = some ⟨oc2, od2, .func (PySem.W.fnOf "is_ratio" "is_ratio" (defArgs st_is_ratio) (defBody st_is_ratio) (defScope st_is_ratio) .none kV2 dc2 pm2 an2 cd2 ct2), sl2⟩)
  (c2 : PySem.W.codeIn K cd2 "is_ratio" = true)
  (k2 : PySem.W.keepIn K (.ref f2) = true)
  (a3 : PySem.W.nsIn K mainGlobals "plus" = some (some (.ref f3)))
  (l3 : K.lookup f3 = some ⟨oc3, od3, .func (PySem.W.fnOf "plus" "plus" (defArgs st_plus) (defBody st_plus) (defScope st_plus) .none kV3 dc3 pm3 an3 cd3 ct3), sl3⟩)
  (c3 : PySem.W.codeIn K cd3 "plus" = true)
  (k3 : PySem.W.keepIn K (.ref f3) = true)
  (a4 : PySem.W.nsIn K mainGlobals "minus" = some (some (.ref f4)))
  (l4 : K.lookup f4 = some ⟨oc4, od4, .func (PySem.W.fnOf "minus" "minus" (defArgs st_minus) (defBody st_minus) (defScope st_minus) .none kV4 dc4 pm4 an4 cd4 ct4), sl4⟩)
  (c4 : PySem.W.codeIn K cd4 "minus" = true)
  (k4 : PySem.W.keepIn K (.ref f4) = true)
  (a5 : PySem.W.nsIn K mainGlobals "times" = some (some (.ref f5)))
  (l5 : K.lookup f5 = some ⟨oc5, od5, .func (PySem.W.fnOf "times" "times" (defArgs st_times) (defBody st_times) (defScope st_times) .none kV5 dc5 pm5 an5 cd5 ct5), sl5⟩)
  (c5 : PySem.W.codeIn K cd5 "times" = true)
  (k5 : PySem.W.keepIn K (.ref f5) = true)
  (a6 : PySem.W.nsIn K mainGlobals "over" = some (some (.ref f6)))
  (l6 : K.lookup f6 = some ⟨oc6, od6, .func (PySem.W.fnOf "over" "over" (defArgs st_over) (defBody st_over) (defScope st_over) .none kV6 dc6 pm6 an6 cd6 ct6), sl6⟩)
  (c6 : PySem.W.codeIn K cd6 "over" = true)
  (k6 : PySem.W.keepIn K (.ref f6) = true)
  (a7 : PySem.W.nsIn K mainGlobals "_law_cell" = some (some (.ref f7)))
  (l7 : K.lookup f7 = some ⟨oc7, od7, .func (PySem.W.fnOf "_law_cell" "_law_cell" (defArgs st__law_cell) (defBody st__law_cell) (defScope st__law_cell) .none kV7 dc7 pm7 an7 cd7 ct7), sl7⟩)
  (c7 : PySem.W.codeIn K cd7 "_law_cell" = true)
  (k7 : PySem.W.keepIn K (.ref f7) = true)
  (a8 : PySem.W.nsIn K mainGlobals "_law_take" = some (some (.ref f8)))
  (l8 : K.lookup f8 = some ⟨oc8, od8, .func (PySem.W.fnOf "_law_take" "_law_take" (defArgs st__law_take) (defBody st__law_take) (defScope st__law_take) .none kV8 dc8 pm8 an8 cd8 ct8), sl8⟩)
  (c8 : PySem.W.codeIn K cd8 "_law_take" = true)
  (k8 : PySem.W.keepIn K (.ref f8) = true)
  (a9 : PySem.W.nsIn K mainGlobals "_law_big" = some (some (.ref f9)))
  (l9 : K.lookup f9 = some ⟨oc9, od9, .func (PySem.W.fnOf "_law_big" "_law_big" (defArgs st__law_big) (defBody st__law_big) (defScope st__law_big) .none kV9 dc9 pm9 an9 cd9 ct9), sl9⟩)
  (c9 : PySem.W.codeIn K cd9 "_law_big" = true)
  (k9 : PySem.W.keepIn K (.ref f9) = true)
  (a10 : PySem.W.nsIn K mainGlobals "_law_divisor" = some (some (.ref f10)))
  (l10 : K.lookup f10 = some ⟨oc10, od10, .func (PySem.W.fnOf "_law_divisor" "_law_divisor" (defArgs st__law_divisor) (defBody st__law_divisor) (defScope st__law_divisor) .none kV10 dc10 pm10 an10 cd10 ct10), sl10⟩)
  (c10 : PySem.W.codeIn K cd10 "_law_divisor" = true)
  (k10 : PySem.W.keepIn K (.ref f10) = true)
  (a11 : PySem.W.nsIn K mainGlobals "_law_ratio" = some (some (.ref f11)))
  (l11 : K.lookup f11 = some ⟨oc11, od11, .func (PySem.W.fnOf "_law_ratio" "_law_ratio" (defArgs st__law_ratio) (defBody st__law_ratio) (defScope st__law_ratio) .none kV11 dc11 pm11 an11 cd11 ct11), sl11⟩)
  (c11 : PySem.W.codeIn K cd11 "_law_ratio" = true)
  (k11 : PySem.W.keepIn K (.ref f11) = true)
  (a12 : PySem.W.nsIn K mainGlobals "_law_is_ratio" = some (some (.ref f12)))
  (l12 : K.lookup f12 = some ⟨oc12, od12, .func (PySem.W.fnOf "_law_is_ratio" "_law_is_ratio" (defArgs st__law_is_ratio) (defBody st__law_is_ratio) (defScope st__law_is_ratio) .none kV12 dc12 pm12 an12 cd12 ct12), sl12⟩)
  (c12 : PySem.W.codeIn K cd12 "_law_is_ratio" = true)
  (k12 : PySem.W.keepIn K (.ref f12) = true)
  (a13 : PySem.W.nsIn K mainGlobals "_law_number" = some (some (.ref f13)))
  (l13 : K.lookup f13 = some ⟨oc13, od13, .func (PySem.W.fnOf "_law_number" "_law_number" (defArgs st__law_number) (defBody st__law_number) (defScope st__law_number) .none kV13 dc13 pm13 an13 cd13 ct13), sl13⟩)
  (c13 : PySem.W.codeIn K cd13 "_law_number" = true)
  (k13 : PySem.W.keepIn K (.ref f13) = true)
  (a14 : PySem.W.nsIn K mainGlobals "_law_told" = some (some (.ref f14)))
  (l14 : K.lookup f14 = some ⟨oc14, od14, .func (PySem.W.fnOf "_law_told" "_law_told" (defArgs st__law_told) (defBody st__law_told) (defScope st__law_told) .none kV14 dc14 pm14 an14 cd14 ct14), sl14⟩)
  (c14 : PySem.W.codeIn K cd14 "_law_told" = true)
  (k14 : PySem.W.keepIn K (.ref f14) = true)
  (a15 : PySem.W.nsIn K mainGlobals "_law_kinds" = some (some (.ref f15)))
  (l15 : K.lookup f15 = some ⟨oc15, od15, .func (PySem.W.fnOf "_law_kinds" "_law_kinds" (defArgs st__law_kinds) (defBody st__law_kinds) (defScope st__law_kinds) .none kV15 dc15 pm15 an15 cd15 ct15), sl15⟩)
  (c15 : PySem.W.codeIn K cd15 "_law_kinds" = true)
  (k15 : PySem.W.keepIn K (.ref f15) = true)
  (a16 : PySem.W.nsIn K mainGlobals "law" = some (some (.ref f16)))
  (l16 : K.lookup f16 = some ⟨oc16, od16, .func (PySem.W.fnOf "law" "law" (defArgs st_law) (defBody st_law) (defScope st_law) .none kV16 dc16 pm16 an16 cd16 ct16), sl16⟩)
  (c16 : PySem.W.codeIn K cd16 "law" = true)
  (k16 : PySem.W.keepIn K (.ref f16) = true)
  (y_abs : PySem.W.nsIn K mainGlobals "abs" = some none)
  (y_len : PySem.W.nsIn K mainGlobals "len" = some none)
  (y_int : PySem.W.nsIn K mainGlobals "int" = some none)
  (y_range : PySem.W.nsIn K mainGlobals "range" = some none)
  (y_isinstance : PySem.W.nsIn K mainGlobals "isinstance" = some none)
  (y_tuple : PySem.W.nsIn K mainGlobals "tuple" = some none)
  (y_bool : PySem.W.nsIn K mainGlobals "bool" = some none)
  (y_ValueError : PySem.W.nsIn K mainGlobals "ValueError" = some none)
  (y_super : PySem.W.nsIn K mainGlobals "super" = some none)
  (aC0 : PySem.W.nsIn K mainGlobals "DrawnError" = some (some (.ref C0)))
  (aC1 : PySem.W.nsIn K mainGlobals "InvalidStep" = some (some (.ref C1)))
  (aC2 : PySem.W.nsIn K mainGlobals "InvalidSaying" = some (some (.ref C2)))
  (aC3 : PySem.W.nsIn K mainGlobals "InvalidFigure" = some (some (.ref C3)))
  (aC4 : PySem.W.nsIn K mainGlobals "Flat" = some (some (.ref C4)))
  (aC5 : PySem.W.nsIn K mainGlobals "NoInverse" = some (some (.ref C5)))
  (xC1 : K.lookup C1 = some (excClassObj nmC1 qC1 C1 NC1 bsC1 [.ref C0, .type "ValueError", .type "Exception", .type "BaseException", .type "object"] true snC1 subC1 abC1 colC1 ddC1 m0C1 m1C1 m2C1 m3C1 m5C1 "ValueError.__new__"))
  (saC1 : PySem.W.findIn K (.ref C1) "__setattr__" = some (some (.builtin "object.__setattr__")))
  (icC1 : PySem.W.findIn K (.ref C1) "__init__" = some (some (.ref fI1)))
  (tiC1 : PySem.W.typeIn K (.ref fI1) = some (.type "function"))
  (liC1 : K.lookup fI1 = some ⟨ocI1, odI1, .func (EXH.fd_InvalidStep kVI1 docI1 pmI1 anI1 ctI1 cda1 cc1), oslI1⟩)
  (ciC1 : PySem.W.codeIn K (.ref cda1) "InvalidStep.__init__" = true)
  (lcC1 : K.lookup cda1 = some ⟨cclI1, cddI1, .fields vsI1, ccsI1⟩)
  (hvC1 : vsI1[2]? = some (.str file1 tfI1))
  (hfC1 : ((l.prog.main.file : Str) == file1) = true)
  (lxC1 : K.lookup cc1 = some ⟨clI1, cldI1, .cell (some (.ref C1)), cslI1⟩)
  (suC1 : PySem.W.ks_superIn K C1 C1 "__init__" = some (some (.builtin "ValueError.__init__")))
  (sbC1 : PySem.W.mroIn K C1 (.ref C1) = some true)
  (svC1 : PySem.W.subIn K (.ref C1) (.type "ValueError") = some true)
  (no1place : PySem.W.findIn K (.ref C1) "place" = some none)
  (no1reason : PySem.W.findIn K (.ref C1) "reason" = some none)
  (xC2 : K.lookup C2 = some (excClassObj nmC2 qC2 C2 NC2 bsC2 [.ref C0, .type "ValueError", .type "Exception", .type "BaseException", .type "object"] true snC2 subC2 abC2 colC2 ddC2 m0C2 m1C2 m2C2 m3C2 m5C2 "ValueError.__new__"))
  (saC2 : PySem.W.findIn K (.ref C2) "__setattr__" = some (some (.builtin "object.__setattr__")))
  (icC2 : PySem.W.findIn K (.ref C2) "__init__" = some (some (.ref fI2)))
  (tiC2 : PySem.W.typeIn K (.ref fI2) = some (.type "function"))
  (liC2 : K.lookup fI2 = some ⟨ocI2, odI2, .func (EXH.fd_InvalidSaying kVI2 docI2 pmI2 anI2 ctI2 cda2 cc2), oslI2⟩)
  (ciC2 : PySem.W.codeIn K (.ref cda2) "InvalidSaying.__init__" = true)
  (lcC2 : K.lookup cda2 = some ⟨cclI2, cddI2, .fields vsI2, ccsI2⟩)
  (hvC2 : vsI2[2]? = some (.str file2 tfI2))
  (hfC2 : ((l.prog.main.file : Str) == file2) = true)
  (lxC2 : K.lookup cc2 = some ⟨clI2, cldI2, .cell (some (.ref C2)), cslI2⟩)
  (suC2 : PySem.W.ks_superIn K C2 C2 "__init__" = some (some (.builtin "ValueError.__init__")))
  (sbC2 : PySem.W.mroIn K C2 (.ref C2) = some true)
  (svC2 : PySem.W.subIn K (.ref C2) (.type "ValueError") = some true)
  (no2reason : PySem.W.findIn K (.ref C2) "reason" = some none)
  (xC3 : K.lookup C3 = some (excClassObj nmC3 qC3 C3 NC3 bsC3 [.ref C0, .type "ValueError", .type "Exception", .type "BaseException", .type "object"] true snC3 subC3 abC3 colC3 ddC3 m0C3 m1C3 m2C3 m3C3 m5C3 "ValueError.__new__"))
  (saC3 : PySem.W.findIn K (.ref C3) "__setattr__" = some (some (.builtin "object.__setattr__")))
  (icC3 : PySem.W.findIn K (.ref C3) "__init__" = some (some (.ref fI3)))
  (tiC3 : PySem.W.typeIn K (.ref fI3) = some (.type "function"))
  (liC3 : K.lookup fI3 = some ⟨ocI3, odI3, .func (EXH.fd_InvalidFigure kVI3 docI3 pmI3 anI3 ctI3 cda3 cc3), oslI3⟩)
  (ciC3 : PySem.W.codeIn K (.ref cda3) "InvalidFigure.__init__" = true)
  (lcC3 : K.lookup cda3 = some ⟨cclI3, cddI3, .fields vsI3, ccsI3⟩)
  (hvC3 : vsI3[2]? = some (.str file3 tfI3))
  (hfC3 : ((l.prog.main.file : Str) == file3) = true)
  (lxC3 : K.lookup cc3 = some ⟨clI3, cldI3, .cell (some (.ref C3)), cslI3⟩)
  (suC3 : PySem.W.ks_superIn K C3 C3 "__init__" = some (some (.builtin "ValueError.__init__")))
  (sbC3 : PySem.W.mroIn K C3 (.ref C3) = some true)
  (svC3 : PySem.W.subIn K (.ref C3) (.type "ValueError") = some true)
  (no3place : PySem.W.findIn K (.ref C3) "place" = some none)
  (xC4 : K.lookup C4 = some (excClassObj nmC4 qC4 C4 NC4 bsC4 [.ref C0, .type "ValueError", .type "Exception", .type "BaseException", .type "object"] true snC4 subC4 abC4 colC4 ddC4 m0C4 m1C4 m2C4 m3C4 m5C4 "ValueError.__new__"))
  (saC4 : PySem.W.findIn K (.ref C4) "__setattr__" = some (some (.builtin "object.__setattr__")))
  (icC4 : PySem.W.findIn K (.ref C4) "__init__" = some (some (.ref fI4)))
  (tiC4 : PySem.W.typeIn K (.ref fI4) = some (.type "function"))
  (liC4 : K.lookup fI4 = some ⟨ocI4, odI4, .func (EXH.fd_Flat kVI4 docI4 pmI4 anI4 ctI4 cda4 cc4), oslI4⟩)
  (ciC4 : PySem.W.codeIn K (.ref cda4) "Flat.__init__" = true)
  (lcC4 : K.lookup cda4 = some ⟨cclI4, cddI4, .fields vsI4, ccsI4⟩)
  (hvC4 : vsI4[2]? = some (.str file4 tfI4))
  (hfC4 : ((l.prog.main.file : Str) == file4) = true)
  (lxC4 : K.lookup cc4 = some ⟨clI4, cldI4, .cell (some (.ref C4)), cslI4⟩)
  (suC4 : PySem.W.ks_superIn K C4 C4 "__init__" = some (some (.builtin "ValueError.__init__")))
  (sbC4 : PySem.W.mroIn K C4 (.ref C4) = some true)
  (svC4 : PySem.W.subIn K (.ref C4) (.type "ValueError") = some true)
  (no4name : PySem.W.findIn K (.ref C4) "name" = some none)
  (opq : PySem.W.nsIn K PySem.cStatics "thirdparty.any" = some none)
  (tp : (l.prog.main.scope.names.lookup ("super" : Str)).isSome = false)
  (cn : PySem.W.specialIn K (.builtin "object.__class__") "__get__" = some (some (.builtin "getset_descriptor.__get__")))
  (ct : PySem.W.takesIn K (.builtin "object.__class__") = some true)
  (kC1 : PySem.W.keepIn K (.ref C1) = true)
  (clC1 : PySem.W.isClsIn K C1 = true)
  (hdC1 : PySem.W.hasDictIn K C1 = true)
  (gaC1 : PySem.W.findIn K (.ref C1) "__getattribute__" = some (some (.builtin "BaseException.__getattribute__")))
  (gtC1 : PySem.W.findIn K (.ref C1) "__getattr__" = some none)
  (sBC1 : PySem.W.subIn K (.ref C1) (.type "BaseException") = some true)
  (caC1 : PySem.W.findIn K (.ref C1) "__class__" = some (some (.builtin "object.__class__")))
  (moC1 : PySem.W.mroIn K C1 (.type "object") = some true)
  (xdC1 : PySem.W.subIn K (.ref C1) (.ref C0) = some true)
  (xvC1 : PySem.W.subIn K (.ref C1) (.type "ValueError") = some true)
  (tyC1 : PySem.W.typeIn K (.ref C1) = some (.type "type"))
  (x1_1 : PySem.W.subIn K (.ref C1) (.ref C1) = some true)
  (x1_2 : PySem.W.subIn K (.ref C1) (.ref C2) = some false)
  (x1_3 : PySem.W.subIn K (.ref C1) (.ref C3) = some false)
  (x1_4 : PySem.W.subIn K (.ref C1) (.ref C4) = some false)
  (x1_5 : PySem.W.subIn K (.ref C1) (.ref C5) = some false)
  (kC2 : PySem.W.keepIn K (.ref C2) = true)
  (clC2 : PySem.W.isClsIn K C2 = true)
  (hdC2 : PySem.W.hasDictIn K C2 = true)
  (gaC2 : PySem.W.findIn K (.ref C2) "__getattribute__" = some (some (.builtin "BaseException.__getattribute__")))
  (gtC2 : PySem.W.findIn K (.ref C2) "__getattr__" = some none)
  (sBC2 : PySem.W.subIn K (.ref C2) (.type "BaseException") = some true)
  (caC2 : PySem.W.findIn K (.ref C2) "__class__" = some (some (.builtin "object.__class__")))
  (moC2 : PySem.W.mroIn K C2 (.type "object") = some true)
  (xdC2 : PySem.W.subIn K (.ref C2) (.ref C0) = some true)
  (xvC2 : PySem.W.subIn K (.ref C2) (.type "ValueError") = some true)
  (tyC2 : PySem.W.typeIn K (.ref C2) = some (.type "type"))
  (x2_1 : PySem.W.subIn K (.ref C2) (.ref C1) = some false)
  (x2_2 : PySem.W.subIn K (.ref C2) (.ref C2) = some true)
  (x2_3 : PySem.W.subIn K (.ref C2) (.ref C3) = some false)
  (x2_4 : PySem.W.subIn K (.ref C2) (.ref C4) = some false)
  (x2_5 : PySem.W.subIn K (.ref C2) (.ref C5) = some false)
  (kC3 : PySem.W.keepIn K (.ref C3) = true)
  (clC3 : PySem.W.isClsIn K C3 = true)
  (hdC3 : PySem.W.hasDictIn K C3 = true)
  (gaC3 : PySem.W.findIn K (.ref C3) "__getattribute__" = some (some (.builtin "BaseException.__getattribute__")))
  (gtC3 : PySem.W.findIn K (.ref C3) "__getattr__" = some none)
  (sBC3 : PySem.W.subIn K (.ref C3) (.type "BaseException") = some true)
  (caC3 : PySem.W.findIn K (.ref C3) "__class__" = some (some (.builtin "object.__class__")))
  (moC3 : PySem.W.mroIn K C3 (.type "object") = some true)
  (xdC3 : PySem.W.subIn K (.ref C3) (.ref C0) = some true)
  (xvC3 : PySem.W.subIn K (.ref C3) (.type "ValueError") = some true)
  (tyC3 : PySem.W.typeIn K (.ref C3) = some (.type "type"))
  (x3_1 : PySem.W.subIn K (.ref C3) (.ref C1) = some false)
  (x3_2 : PySem.W.subIn K (.ref C3) (.ref C2) = some false)
  (x3_3 : PySem.W.subIn K (.ref C3) (.ref C3) = some true)
  (x3_4 : PySem.W.subIn K (.ref C3) (.ref C4) = some false)
  (x3_5 : PySem.W.subIn K (.ref C3) (.ref C5) = some false)
  (kC4 : PySem.W.keepIn K (.ref C4) = true)
  (clC4 : PySem.W.isClsIn K C4 = true)
  (hdC4 : PySem.W.hasDictIn K C4 = true)
  (gaC4 : PySem.W.findIn K (.ref C4) "__getattribute__" = some (some (.builtin "BaseException.__getattribute__")))
  (gtC4 : PySem.W.findIn K (.ref C4) "__getattr__" = some none)
  (sBC4 : PySem.W.subIn K (.ref C4) (.type "BaseException") = some true)
  (caC4 : PySem.W.findIn K (.ref C4) "__class__" = some (some (.builtin "object.__class__")))
  (moC4 : PySem.W.mroIn K C4 (.type "object") = some true)
  (xdC4 : PySem.W.subIn K (.ref C4) (.ref C0) = some true)
  (xvC4 : PySem.W.subIn K (.ref C4) (.type "ValueError") = some true)
  (tyC4 : PySem.W.typeIn K (.ref C4) = some (.type "type"))
  (x4_1 : PySem.W.subIn K (.ref C4) (.ref C1) = some false)
  (x4_2 : PySem.W.subIn K (.ref C4) (.ref C2) = some false)
  (x4_3 : PySem.W.subIn K (.ref C4) (.ref C3) = some false)
  (x4_4 : PySem.W.subIn K (.ref C4) (.ref C4) = some true)
  (x4_5 : PySem.W.subIn K (.ref C4) (.ref C5) = some false)
  (kC5 : PySem.W.keepIn K (.ref C5) = true)
  (clC5 : PySem.W.isClsIn K C5 = true)
  (hdC5 : PySem.W.hasDictIn K C5 = true)
  (gaC5 : PySem.W.findIn K (.ref C5) "__getattribute__" = some (some (.builtin "BaseException.__getattribute__")))
  (gtC5 : PySem.W.findIn K (.ref C5) "__getattr__" = some none)
  (sBC5 : PySem.W.subIn K (.ref C5) (.type "BaseException") = some true)
  (caC5 : PySem.W.findIn K (.ref C5) "__class__" = some (some (.builtin "object.__class__")))
  (moC5 : PySem.W.mroIn K C5 (.type "object") = some true)
  (xdC5 : PySem.W.subIn K (.ref C5) (.ref C0) = some true)
  (xvC5 : PySem.W.subIn K (.ref C5) (.type "ValueError") = some true)
  (tyC5 : PySem.W.typeIn K (.ref C5) = some (.type "type"))
  (x5_1 : PySem.W.subIn K (.ref C5) (.ref C1) = some false)
  (x5_2 : PySem.W.subIn K (.ref C5) (.ref C2) = some false)
  (x5_3 : PySem.W.subIn K (.ref C5) (.ref C3) = some false)
  (x5_4 : PySem.W.subIn K (.ref C5) (.ref C4) = some false)
  (x5_5 : PySem.W.subIn K (.ref C5) (.ref C5) = some true)
  (clC0 : PySem.W.isClsIn K C0 = true)
  (tyC0 : PySem.W.typeIn K (.ref C0) = some (.type "type"))
  (x5 : PySem.W.excIn K C5 [.type "ValueError", .type "Exception", .type "BaseException", .type "object"] "ValueError.__new__" = true)
  : ∃ fd : FuncData, (∀ (s : Shared) (v : Value), BindsTo s fd ⟨[v], []⟩ [("script", v)]) ∧ ∀ base : Heap, K.In base → base.Ns mainGlobals mg → FnOk l.prog w K mg base CX0 6 fa fd ["script"] (spD K p_law) := by
  have e := hfa.symm.trans (PySem.W.mg_of X G a16)
  cases e
  have F0 := fun_mk (st := st_common_divisor) l0 c0 k0
  have b0 := F0.binds (ps := ["one", "two"]) fun _ _ _ _ _ _ us hl => match us, hl with | [_, _], _ => rfl
  have F1 := fun_mk (st := st_ratio) l1 c1 k1
  have b1 := F1.binds (ps := ["numerator", "denominator"]) fun _ _ _ _ _ _ us hl => match us, hl with | [_, _], _ => rfl
  have F2 := fun_mk (st := st_is_ratio) l2 c2 k2
  have b2 := F2.binds (ps := ["pair"]) fun _ _ _ _ _ _ us hl => match us, hl with | [_], _ => rfl
  have F3 := fun_mk (st := st_plus) l3 c3 k3
  have b3 := F3.binds (ps := ["one", "two"]) fun _ _ _ _ _ _ us hl => match us, hl with | [_, _], _ => rfl
  have F4 := fun_mk (st := st_minus) l4 c4 k4
  have b4 := F4.binds (ps := ["one", "two"]) fun _ _ _ _ _ _ us hl => match us, hl with | [_, _], _ => rfl
  have F5 := fun_mk (st := st_times) l5 c5 k5
  have b5 := F5.binds (ps := ["one", "two"]) fun _ _ _ _ _ _ us hl => match us, hl with | [_, _], _ => rfl
  have F6 := fun_mk (st := st_over) l6 c6 k6
  have b6 := F6.binds (ps := ["one", "two"]) fun _ _ _ _ _ _ us hl => match us, hl with | [_, _], _ => rfl
  have F7 := fun_mk (st := st__law_cell) l7 c7 k7
  have b7 := F7.binds (ps := ["script", "k"]) fun _ _ _ _ _ _ us hl => match us, hl with | [_, _], _ => rfl
  have F8 := fun_mk (st := st__law_take) l8 c8 k8
  have b8 := F8.binds (ps := ["state", "m"]) fun _ _ _ _ _ _ us hl => match us, hl with | [_, _], _ => rfl
  have F9 := fun_mk (st := st__law_big) l9 c9 k9
  have b9 := F9.binds (ps := ["script", "at", "count"]) fun _ _ _ _ _ _ us hl => match us, hl with | [_, _, _], _ => rfl
  have F10 := fun_mk (st := st__law_divisor) l10 c10 k10
  have b10 := F10.binds (ps := ["one", "two"]) fun _ _ _ _ _ _ us hl => match us, hl with | [_, _], _ => rfl
  have F11 := fun_mk (st := st__law_ratio) l11 c11 k11
  have b11 := F11.binds (ps := ["p", "q"]) fun _ _ _ _ _ _ us hl => match us, hl with | [_, _], _ => rfl
  have F12 := fun_mk (st := st__law_is_ratio) l12 c12 k12
  have b12 := F12.binds (ps := ["pair"]) fun _ _ _ _ _ _ us hl => match us, hl with | [_], _ => rfl
  have F13 := fun_mk (st := st__law_number) l13 c13 k13
  have b13 := F13.binds (ps := ["state"]) fun _ _ _ _ _ _ us hl => match us, hl with | [_], _ => rfl
  have F14 := fun_mk (st := st__law_told) l14 c14 k14
  have b14 := F14.binds (ps := ["which", "one", "two"]) fun _ _ _ _ _ _ us hl => match us, hl with | [_, _, _], _ => rfl
  have F15 := fun_mk (st := st__law_kinds) l15 c15 k15
  have b15 := F15.binds (ps := ["error"]) fun _ _ _ _ _ _ us hl => match us, hl with | [_], _ => rfl
  have F16 := fun_mk (st := st_law) l16 c16 k16
  have z_abs : mg "abs" = none := PySem.W.mg_none_of X G y_abs
  have z_len : mg "len" = none := PySem.W.mg_none_of X G y_len
  have z_int : mg "int" = none := PySem.W.mg_none_of X G y_int
  have z_range : mg "range" = none := PySem.W.mg_none_of X G y_range
  have z_isinstance : mg "isinstance" = none := PySem.W.mg_none_of X G y_isinstance
  have z_tuple : mg "tuple" = none := PySem.W.mg_none_of X G y_tuple
  have z_bool : mg "bool" = none := PySem.W.mg_none_of X G y_bool
  have z_ValueError : mg "ValueError" = none := PySem.W.mg_none_of X G y_ValueError
  have z_super : mg "super" = none := PySem.W.mg_none_of X G y_super
  have gC0 := PySem.W.mg_of X G aC0
  have gC1 := PySem.W.mg_of X G aC1
  have gC2 := PySem.W.mg_of X G aC2
  have gC3 := PySem.W.mg_of X G aC3
  have gC4 := PySem.W.mg_of X G aC4
  have gC5 := PySem.W.mg_of X G aC5
  have SC1 : EX.Sup K l.prog C1 fI1 cc1 cda1 (EXH.fd_InvalidStep kVI1 docI1 pmI1 anI1 ctI1 cda1 cc1) := ⟨⟨_, _, _, _, _, _, _, _, _, _, _, _, _, _, _, xC1, by first | rfl | decide +kernel⟩, saC1, icC1, tiC1, ⟨_, _, _, liC1⟩, ciC1, ⟨_, _, _, _, _, _, lcC1, hvC1, hfC1⟩, ⟨_, _, _, lxC1⟩, suC1, sbC1, svC1, opq, tp⟩
  have R1 := EXH.raw_InvalidStep (w := w) (mg := mg) SC1 z_super no1place no1reason
  have SC2 : EX.Sup K l.prog C2 fI2 cc2 cda2 (EXH.fd_InvalidSaying kVI2 docI2 pmI2 anI2 ctI2 cda2 cc2) := ⟨⟨_, _, _, _, _, _, _, _, _, _, _, _, _, _, _, xC2, by first | rfl | decide +kernel⟩, saC2, icC2, tiC2, ⟨_, _, _, liC2⟩, ciC2, ⟨_, _, _, _, _, _, lcC2, hvC2, hfC2⟩, ⟨_, _, _, lxC2⟩, suC2, sbC2, svC2, opq, tp⟩
  have R2 := EXH.raw_InvalidSaying (w := w) (mg := mg) SC2 z_super no2reason
  have SC3 : EX.Sup K l.prog C3 fI3 cc3 cda3 (EXH.fd_InvalidFigure kVI3 docI3 pmI3 anI3 ctI3 cda3 cc3) := ⟨⟨_, _, _, _, _, _, _, _, _, _, _, _, _, _, _, xC3, by first | rfl | decide +kernel⟩, saC3, icC3, tiC3, ⟨_, _, _, liC3⟩, ciC3, ⟨_, _, _, _, _, _, lcC3, hvC3, hfC3⟩, ⟨_, _, _, lxC3⟩, suC3, sbC3, svC3, opq, tp⟩
  have R3 := EXH.raw_InvalidFigure (w := w) (mg := mg) SC3 z_super no3place
  have SC4 : EX.Sup K l.prog C4 fI4 cc4 cda4 (EXH.fd_Flat kVI4 docI4 pmI4 anI4 ctI4 cda4 cc4) := ⟨⟨_, _, _, _, _, _, _, _, _, _, _, _, _, _, _, xC4, by first | rfl | decide +kernel⟩, saC4, icC4, tiC4, ⟨_, _, _, liC4⟩, ciC4, ⟨_, _, _, _, _, _, lcC4, hvC4, hfC4⟩, ⟨_, _, _, lxC4⟩, suC4, sbC4, svC4, opq, tp⟩
  have R4 := EXH.raw_Flat (w := w) (mg := mg) SC4 z_super no4name
  have dC1 := kit_t clC0 tyC0 xdC1
  have vC1 := kit_v xvC1
  have q1_1 := kit_t clC1 tyC1 x1_1
  have q1_2 := kit_f clC2 tyC2 x1_2 x2_2
  have q1_3 := kit_f clC3 tyC3 x1_3 x3_3
  have q1_4 := kit_f clC4 tyC4 x1_4 x4_4
  have q1_5 := kit_f clC5 tyC5 x1_5 x5_5
  have dC2 := kit_t clC0 tyC0 xdC2
  have vC2 := kit_v xvC2
  have q2_1 := kit_f clC1 tyC1 x2_1 x1_1
  have q2_2 := kit_t clC2 tyC2 x2_2
  have q2_3 := kit_f clC3 tyC3 x2_3 x3_3
  have q2_4 := kit_f clC4 tyC4 x2_4 x4_4
  have q2_5 := kit_f clC5 tyC5 x2_5 x5_5
  have dC3 := kit_t clC0 tyC0 xdC3
  have vC3 := kit_v xvC3
  have q3_1 := kit_f clC1 tyC1 x3_1 x1_1
  have q3_2 := kit_f clC2 tyC2 x3_2 x2_2
  have q3_3 := kit_t clC3 tyC3 x3_3
  have q3_4 := kit_f clC4 tyC4 x3_4 x4_4
  have q3_5 := kit_f clC5 tyC5 x3_5 x5_5
  have dC4 := kit_t clC0 tyC0 xdC4
  have vC4 := kit_v xvC4
  have q4_1 := kit_f clC1 tyC1 x4_1 x1_1
  have q4_2 := kit_f clC2 tyC2 x4_2 x2_2
  have q4_3 := kit_f clC3 tyC3 x4_3 x3_3
  have q4_4 := kit_t clC4 tyC4 x4_4
  have q4_5 := kit_f clC5 tyC5 x4_5 x5_5
  have dC5 := kit_t clC0 tyC0 xdC5
  have vC5 := kit_v xvC5
  have q5_1 := kit_f clC1 tyC1 x5_1 x1_1
  have q5_2 := kit_f clC2 tyC2 x5_2 x2_2
  have q5_3 := kit_f clC3 tyC3 x5_3 x3_3
  have q5_4 := kit_f clC4 tyC4 x5_4 x4_4
  have q5_5 := kit_t clC5 tyC5 x5_5
  have EK1 : EXH.ExK K C1 := ⟨clC1, hdC1, gaC1, gtC1, sBC1, caC1, cn, ct, moC1⟩
  have EK2 : EXH.ExK K C2 := ⟨clC2, hdC2, gaC2, gtC2, sBC2, caC2, cn, ct, moC2⟩
  have EK3 : EXH.ExK K C3 := ⟨clC3, hdC3, gaC3, gtC3, sBC3, caC3, cn, ct, moC3⟩
  have EK4 : EXH.ExK K C4 := ⟨clC4, hdC4, gaC4, gtC4, sBC4, caC4, cn, ct, moC4⟩
  have EK5 : EXH.ExK K C5 := ⟨clC5, hdC5, gaC5, gtC5, sBC5, caC5, cn, ct, moC5⟩
  have T6 : Cls6 K mg C0 C5 := ⟨gC0, gC5, x5, kC5, sBC5, tyC5, PySem.W.exm_ref sBC5 hdC5 tyC5 x5_5, ⟨gaC5, gtC5, sBC5, hdC5, caC5, cn, ct, moC5⟩, dC5⟩
  have T5 : Five K mg C0 C1 C2 C3 C4 C5 := ⟨gC0, gC1, gC2, gC3, gC4, gC5, kC1, kC2, kC3, kC4, kC5, EK1, EK2, EK3, EK4, EK5, x5, no1place, no1reason, no2reason, no3place, no4name, dC1, dC2, dC3, dC4, dC5, vC1, vC2, vC3, vC4, vC5, q1_1, q1_2, q1_3, q1_4, q1_5, q2_1, q2_2, q2_3, q2_4, q2_5, q3_1, q3_2, q3_3, q3_4, q3_5, q4_1, q4_2, q4_3, q4_4, q4_5, q5_1, q5_2, q5_3, q5_4, q5_5⟩
  refine ⟨PySem.W.fnOf "law" "law" (defArgs st_law) (defBody st_law) (defScope st_law) .none kV16 dc16 pm16 an16 cd16 ct16, fun s v => .of_eq rfl, fun base _ _ => ?_⟩
  have C_common_divisor : Cal l.prog w K mg base "common_divisor" 1 (spD K p_common_divisor) := ⟨⟨_, _, ["one", "two"], PySem.W.mg_of X G a0, k0, b0, ok_common_divisor F0 z_abs⟩⟩
  have C__law_cell : Cal l.prog w K mg base "_law_cell" 1 (spD K p__law_cell) := ⟨⟨_, _, ["script", "k"], PySem.W.mg_of X G a7, k7, b7, ok__law_cell F7 z_len z_int⟩⟩
  have C__law_take : Cal l.prog w K mg base "_law_take" 1 (spI K p__law_take) := ⟨⟨_, _, ["state", "m"], PySem.W.mg_of X G a8, k8, b8, ok__law_take F8 z_int⟩⟩
  have C__law_divisor : Cal l.prog w K mg base "_law_divisor" 1 (spD K p__law_divisor) := ⟨⟨_, _, ["one", "two"], PySem.W.mg_of X G a10, k10, b10, ok__law_divisor F10 z_abs z_range z_int⟩⟩
  have C_ratio : Cal l.prog w K mg base "ratio" 2 (spD K p_ratio) := ⟨⟨_, _, ["numerator", "denominator"], PySem.W.mg_of X G a1, k1, b1, ok_ratio F1 C_common_divisor⟩⟩
  have C_is_ratio : Cal l.prog w K mg base "is_ratio" 2 (spD K p_is_ratio) := ⟨⟨_, _, ["pair"], PySem.W.mg_of X G a2, k2, b2, ok_is_ratio F2 C_common_divisor⟩⟩
  have C__law_big : Cal l.prog w K mg base "_law_big" 2 (spF K p__law_big) := ⟨⟨_, _, ["script", "at", "count"], PySem.W.mg_of X G a9, k9, b9, ok__law_big F9 z_range C__law_cell⟩⟩
  have C__law_ratio : Cal l.prog w K mg base "_law_ratio" 2 (spD K p__law_ratio) := ⟨⟨_, _, ["p", "q"], PySem.W.mg_of X G a11, k11, b11, ok__law_ratio F11 z_int C__law_divisor⟩⟩
  have C__law_is_ratio : Cal l.prog w K mg base "_law_is_ratio" 2 (spD K p__law_is_ratio) := ⟨⟨_, _, ["pair"], PySem.W.mg_of X G a12, k12, b12, ok__law_is_ratio F12 z_isinstance z_tuple z_len z_int z_bool C__law_divisor⟩⟩
  have C__law_number : Cal l.prog w K mg base "_law_number" 2 (spI K p__law_number) := ⟨⟨_, _, ["state"], PySem.W.mg_of X G a13, k13, b13, ok__law_number F13 C__law_take⟩⟩
  have C_plus : Cal l.prog w K mg base "plus" 3 (spD K p_plus) := ⟨⟨_, _, ["one", "two"], PySem.W.mg_of X G a3, k3, b3, ok_plus F3 C_ratio⟩⟩
  have C_minus : Cal l.prog w K mg base "minus" 3 (spD K p_minus) := ⟨⟨_, _, ["one", "two"], PySem.W.mg_of X G a4, k4, b4, ok_minus F4 C_ratio⟩⟩
  have C_times : Cal l.prog w K mg base "times" 3 (spD K p_times) := ⟨⟨_, _, ["one", "two"], PySem.W.mg_of X G a5, k5, b5, ok_times F5 C_ratio⟩⟩
  have GR := okX_ratio (P := l.prog) (w := w) (base := base) F1 T6 C_common_divisor
  have GO := okX_over (P := l.prog) (w := w) (base := base) F6 GR (PySem.W.mg_of X G a1) k1 b1
  have C__law_told : Cal l.prog w K mg base "_law_told" 4 (spD K p__law_told) := ⟨⟨_, _, ["which", "one", "two"], PySem.W.mg_of X G a14, k14, b14, ok__law_told F14 T6 z_isinstance GR (PySem.W.mg_of X G a1) k1 b1 GO (PySem.W.mg_of X G a6) k6 b6⟩⟩
  have CK : Cal l.prog w K mg base "_law_kinds" 1 (spKinds K C1 C2 C3 C4 C5) := ⟨⟨_, _, ["error"], PySem.W.mg_of X G a15, k15, b15, ok__law_kinds F15 T5 z_isinstance⟩⟩
  exact ok_law F16 z_range z_isinstance z_bool z_abs C__law_big C__law_number C__law_ratio C__law_told C__law_is_ratio C_is_ratio C__law_divisor C_plus C_minus C_times C__law_take T5 z_ValueError CK R1 R2 R3 R4
theorem walk {l : PySem.W.OpenLaw} {q : Program} {loose : List Str} {XP : (Str → Option Value) → Heap → Prop} {YP : World → Heap → Prop} {d : DefRec} {K : Params → PySem.W.Frag} (hn : l.most = some 63) (hdf : d.params.defaults = [])
    (hY : ∀ (w : World) (h : Heap), YP w h → (K w.params).In h)
    (F : ∀ (w : World) (mg : Str → Option Value) (fa : Addr) (h : Heap), (K w.params).In h → h.Ns mainGlobals mg → mg d.name = some (.ref fa) →
      ∃ fd : FuncData, (∀ (s : Shared) (u : Value), BindsTo s fd ⟨[u], []⟩ [("script", u)]) ∧ ∀ base : Heap, (K w.params).In base → base.Ns mainGlobals mg → FnOk l.prog w (K w.params) mg base CX0 6 fa fd ["script"] (spD (K w.params) p_law)) :
    PySem.W.WalkO q loose XP YP l.row.toRowW d [] (fun f vs => PySem.call f vs) :=
  L2.walk_of (n := 63) (k := 6) (x := "script") (CX := fun _ => CX0) (sp := fun w => spD (K w.params) p_law) hn (by decide) hdf ⟨rfl, by decide, by decide⟩ hY F
    (fun w H a ns hl _ hS => ⟨fun _ => False, [.list (ns.map .int)], fun d => d = .bool true, .cons (.lst (hS.elim (fun h => .inl ⟨fun z => z, h⟩) fun h => .inr h) RpA.ints) .nil, fun _ z => z.elim, ⟨ns, rfl, rfl⟩, fun v H' d _ rp e => by
      subst e
      exact rp_bool rp⟩) fun _ _ _ _ _ z => z
end DL

open PySem PySem.W PyProof.Rows in
set_option maxRecDepth 100000 in
set_option maxHeartbeats 0 in
theorem PySem.Challenge.cw_drawntrue_k00_fractions_and_errors_holds : PySem.Challenge.rw_drawntrue_k00_fractions_and_errors.Holds := by
  w_on; o_law; k_head; (case hw => w_witness2)
  k_fill
  refine DL.walk (l := PySem.Challenge.rw_drawntrue_k00_fractions_and_errors) rfl rfl (fun w h Y => PySem.W.kIn_of Y) ?F
  case F =>
    intro w mg fa h KX G hmg
    refine' DL.all_mk KX G hmg ?a0 ?l0 ?c0 ?k0 ?a1 ?l1 ?c1 ?k1 ?a2 ?l2 ?c2 ?k2 ?a3 ?l3 ?c3 ?k3 ?a4 ?l4 ?c4 ?k4 ?a5 ?l5 ?c5 ?k5 ?a6 ?l6 ?c6 ?k6 ?a7 ?l7 ?c7 ?k7 ?a8 ?l8 ?c8 ?k8 ?a9 ?l9 ?c9 ?k9 ?a10 ?l10 ?c10 ?k10 ?a11 ?l11 ?c11 ?k11 ?a12 ?l12 ?c12 ?k12 ?a13 ?l13 ?c13 ?k13 ?a14 ?l14 ?c14 ?k14 ?a15 ?l15 ?c15 ?k15 ?a16 ?l16 ?c16 ?k16 ?y_abs ?y_len ?y_int ?y_range ?y_isinstance ?y_tuple ?y_bool ?y_ValueError ?y_super ?aC0 ?aC1 ?aC2 ?aC3 ?aC4 ?aC5 ?xC1 ?saC1 ?icC1 ?tiC1 ?liC1 ?ciC1 ?lcC1 ?hvC1 ?hfC1 ?lxC1 ?suC1 ?sbC1 ?svC1 ?no1place ?no1reason ?xC2 ?saC2 ?icC2 ?tiC2 ?liC2 ?ciC2 ?lcC2 ?hvC2 ?hfC2 ?lxC2 ?suC2 ?sbC2 ?svC2 ?no2reason ?xC3 ?saC3 ?icC3 ?tiC3 ?liC3 ?ciC3 ?lcC3 ?hvC3 ?hfC3 ?lxC3 ?suC3 ?sbC3 ?svC3 ?no3place ?xC4 ?saC4 ?icC4 ?tiC4 ?liC4 ?ciC4 ?lcC4 ?hvC4 ?hfC4 ?lxC4 ?suC4 ?sbC4 ?svC4 ?no4name ?opq ?tp ?cn ?ct ?kC1 ?clC1 ?hdC1 ?gaC1 ?gtC1 ?sBC1 ?caC1 ?moC1 ?xdC1 ?xvC1 ?tyC1 ?x1_1 ?x1_2 ?x1_3 ?x1_4 ?x1_5 ?kC2 ?clC2 ?hdC2 ?gaC2 ?gtC2 ?sBC2 ?caC2 ?moC2 ?xdC2 ?xvC2 ?tyC2 ?x2_1 ?x2_2 ?x2_3 ?x2_4 ?x2_5 ?kC3 ?clC3 ?hdC3 ?gaC3 ?gtC3 ?sBC3 ?caC3 ?moC3 ?xdC3 ?xvC3 ?tyC3 ?x3_1 ?x3_2 ?x3_3 ?x3_4 ?x3_5 ?kC4 ?clC4 ?hdC4 ?gaC4 ?gtC4 ?sBC4 ?caC4 ?moC4 ?xdC4 ?xvC4 ?tyC4 ?x4_1 ?x4_2 ?x4_3 ?x4_4 ?x4_5 ?kC5 ?clC5 ?hdC5 ?gaC5 ?gtC5 ?sBC5 ?caC5 ?moC5 ?xdC5 ?xvC5 ?tyC5 ?x5_1 ?x5_2 ?x5_3 ?x5_4 ?x5_5 ?clC0 ?tyC0 ?x5
    (case a0 => k_is)
    (case l0 => k_is)
    (case c0 => k_is)
    (case k0 => k_is)
    (case a1 => k_is)
    (case l1 => k_is)
    (case c1 => k_is)
    (case k1 => k_is)
    (case a2 => k_is)
    (case l2 => k_is)
    (case c2 => k_is)
    (case k2 => k_is)
    (case a3 => k_is)
    (case l3 => k_is)
    (case c3 => k_is)
    (case k3 => k_is)
    (case a4 => k_is)
    (case l4 => k_is)
    (case c4 => k_is)
    (case k4 => k_is)
    (case a5 => k_is)
    (case l5 => k_is)
    (case c5 => k_is)
    (case k5 => k_is)
    (case a6 => k_is)
    (case l6 => k_is)
    (case c6 => k_is)
    (case k6 => k_is)
    (case a7 => k_is)
    (case l7 => k_is)
    (case c7 => k_is)
    (case k7 => k_is)
    (case a8 => k_is)
    (case l8 => k_is)
    (case c8 => k_is)
    (case k8 => k_is)
    (case a9 => k_is)
    (case l9 => k_is)
    (case c9 => k_is)
    (case k9 => k_is)
    (case a10 => k_is)
    (case l10 => k_is)
    (case c10 => k_is)
    (case k10 => k_is)
    (case a11 => k_is)
    (case l11 => k_is)
    (case c11 => k_is)
    (case k11 => k_is)
    (case a12 => k_is)
    (case l12 => k_is)
    (case c12 => k_is)
    (case k12 => k_is)
    (case a13 => k_is)
    (case l13 => k_is)
    (case c13 => k_is)
    (case k13 => k_is)
    (case a14 => k_is)
    (case l14 => k_is)
    (case c14 => k_is)
    (case k14 => k_is)
    (case a15 => k_is)
    (case l15 => k_is)
    (case c15 => k_is)
    (case k15 => k_is)
    (case a16 => k_is)
    (case l16 => k_is)
    (case c16 => k_is)
    (case k16 => k_is)
    (case y_abs => k_is)
    (case y_len => k_is)
    (case y_int => k_is)
    (case y_range => k_is)
    (case y_isinstance => k_is)
    (case y_tuple => k_is)
    (case y_bool => k_is)
    (case y_ValueError => k_is)
    (case y_super => k_is)
    (case aC0 => k_is)
    (case aC1 => k_is)
    (case aC2 => k_is)
    (case aC3 => k_is)
    (case aC4 => k_is)
    (case aC5 => k_is)
    (case xC1 => k_is)
    (case saC1 => k_is)
    (case icC1 => k_is)
    (case tiC1 => k_is)
    (case liC1 => k_is)
    (case ciC1 => k_is)
    (case lcC1 => k_is)
    (case hvC1 => rfl)
    (case hfC1 => first | rfl | decide +kernel)
    (case lxC1 => k_is)
    (case suC1 => first | ks_is | k_is | decide +kernel)
    (case sbC1 => k_is)
    (case svC1 => k_is)
    (case no1place => k_is)
    (case no1reason => k_is)
    (case xC2 => k_is)
    (case saC2 => k_is)
    (case icC2 => k_is)
    (case tiC2 => k_is)
    (case liC2 => k_is)
    (case ciC2 => k_is)
    (case lcC2 => k_is)
    (case hvC2 => rfl)
    (case hfC2 => first | rfl | decide +kernel)
    (case lxC2 => k_is)
    (case suC2 => first | ks_is | k_is | decide +kernel)
    (case sbC2 => k_is)
    (case svC2 => k_is)
    (case no2reason => k_is)
    (case xC3 => k_is)
    (case saC3 => k_is)
    (case icC3 => k_is)
    (case tiC3 => k_is)
    (case liC3 => k_is)
    (case ciC3 => k_is)
    (case lcC3 => k_is)
    (case hvC3 => rfl)
    (case hfC3 => first | rfl | decide +kernel)
    (case lxC3 => k_is)
    (case suC3 => first | ks_is | k_is | decide +kernel)
    (case sbC3 => k_is)
    (case svC3 => k_is)
    (case no3place => k_is)
    (case xC4 => k_is)
    (case saC4 => k_is)
    (case icC4 => k_is)
    (case tiC4 => k_is)
    (case liC4 => k_is)
    (case ciC4 => k_is)
    (case lcC4 => k_is)
    (case hvC4 => rfl)
    (case hfC4 => first | rfl | decide +kernel)
    (case lxC4 => k_is)
    (case suC4 => first | ks_is | k_is | decide +kernel)
    (case sbC4 => k_is)
    (case svC4 => k_is)
    (case no4name => k_is)
    (case opq => k_is)
    (case tp => first | rfl | decide +kernel)
    (case cn => k_is)
    (case ct => k_is)
    (case kC1 => k_is)
    (case clC1 => k_is)
    (case hdC1 => k_is)
    (case gaC1 => k_is)
    (case gtC1 => k_is)
    (case sBC1 => k_is)
    (case caC1 => k_is)
    (case moC1 => k_is)
    (case xdC1 => k_is)
    (case xvC1 => k_is)
    (case tyC1 => k_is)
    (case x1_1 => first | k_is | rfl)
    (case x1_2 => first | k_is | rfl)
    (case x1_3 => first | k_is | rfl)
    (case x1_4 => first | k_is | rfl)
    (case x1_5 => first | k_is | rfl)
    (case kC2 => k_is)
    (case clC2 => k_is)
    (case hdC2 => k_is)
    (case gaC2 => k_is)
    (case gtC2 => k_is)
    (case sBC2 => k_is)
    (case caC2 => k_is)
    (case moC2 => k_is)
    (case xdC2 => k_is)
    (case xvC2 => k_is)
    (case tyC2 => k_is)
    (case x2_1 => first | k_is | rfl)
    (case x2_2 => first | k_is | rfl)
    (case x2_3 => first | k_is | rfl)
    (case x2_4 => first | k_is | rfl)
    (case x2_5 => first | k_is | rfl)
    (case kC3 => k_is)
    (case clC3 => k_is)
    (case hdC3 => k_is)
    (case gaC3 => k_is)
    (case gtC3 => k_is)
    (case sBC3 => k_is)
    (case caC3 => k_is)
    (case moC3 => k_is)
    (case xdC3 => k_is)
    (case xvC3 => k_is)
    (case tyC3 => k_is)
    (case x3_1 => first | k_is | rfl)
    (case x3_2 => first | k_is | rfl)
    (case x3_3 => first | k_is | rfl)
    (case x3_4 => first | k_is | rfl)
    (case x3_5 => first | k_is | rfl)
    (case kC4 => k_is)
    (case clC4 => k_is)
    (case hdC4 => k_is)
    (case gaC4 => k_is)
    (case gtC4 => k_is)
    (case sBC4 => k_is)
    (case caC4 => k_is)
    (case moC4 => k_is)
    (case xdC4 => k_is)
    (case xvC4 => k_is)
    (case tyC4 => k_is)
    (case x4_1 => first | k_is | rfl)
    (case x4_2 => first | k_is | rfl)
    (case x4_3 => first | k_is | rfl)
    (case x4_4 => first | k_is | rfl)
    (case x4_5 => first | k_is | rfl)
    (case kC5 => k_is)
    (case clC5 => k_is)
    (case hdC5 => k_is)
    (case gaC5 => k_is)
    (case gtC5 => k_is)
    (case sBC5 => k_is)
    (case caC5 => k_is)
    (case moC5 => k_is)
    (case xdC5 => k_is)
    (case xvC5 => k_is)
    (case tyC5 => k_is)
    (case x5_1 => first | k_is | rfl)
    (case x5_2 => first | k_is | rfl)
    (case x5_3 => first | k_is | rfl)
    (case x5_4 => first | k_is | rfl)
    (case x5_5 => first | k_is | rfl)
    (case clC0 => k_is)
    (case tyC0 => k_is)
    (case x5 => first | k_exc | k_is)
#print axioms PySem.Challenge.cw_drawntrue_k00_fractions_and_errors_holds
