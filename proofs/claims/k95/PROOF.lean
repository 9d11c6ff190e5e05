import PyProof.Rows.All
import Wide.All
import OpenK.AllK
import Wide.FinOn
import KE.KExcSuper
import HandS.Base
import HandS.Call
import HandS.List
import HandS.Ends
import HandS.Exc
import HandS.ExcInit
import HandS.HeadHook1
import HandS.HeadHook2
import HandS.HeadHook3
import HandS.HeadHook4
import HandS.ExcIs
import HandS.TupMul
import KE.SortData
import KE.KeyNested
import PyProof.EqLayable
import PyProof.P3Statements
import HandS.ForMost
import HandS.ForExc
import HandS.Conv
import HandS.Zip
import HandS.Deep
import HandS.Style
import HandS.TupAny
import HandS.DictComp
import HandS.CallSlots
import KE.KDictKeyed
import KE.KDictItemsList
import HandS.IsInst
import HandS.Flow
import HandS.TupLen
import KE.LtSeq
import KE.KSortTup
import HandS.Walk
import KE.GoesEnum
import KE.KDictDisplayH
import HandS.Defaults
import HandS.Head0
import HandS.Head1
import HandS.Head2
import HandS.HeadEnd
import Lean
import PySem.Challenge.RW_beatplaces_k95_whole_least_tables
set_option Elab.async false
section
set_option autoImplicit false
set_option linter.all false
set_option Elab.async false
set_option maxRecDepth 100000
set_option maxHeartbeats 2000000
/-! BX1: an own exception whose __init__ says super().__init__('text'): its run. -/
namespace BPX
open PySem PySem.W PySem.Calls PyProof.Rows
section
variable {prog : Program} {w : World} {A : Around} {E : Value → Shared → Prop} {h : Heap} {g : Array GenState} {d : Drawn} {t : Nat} {os : OsState}
variable {nm q : Str} {C N : Addr} {bs bm bmB : List Value} {hdct : Bool} {sn : List Str} {sub : List Value} {ab : Bool} {col : Option Bool} {dd : Option Addr} {k0 k1 k2 k3 k5 : Option Value} {B newId initId : String}
/-- the wrapper called -/
theorem call_mw (FB : ExcBaseFacts B newId initId bmB) {u e t0 : Addr} {rest : List Value} {Q : Value → Shared → Prop}
    (hC : h.get? C = some (excClassObj nm q C N bs bm hdct sn sub ab col dd k0 k1 k2 k3 k5 newId)) (he : h.get? e = some (excObj C t0 none .none)) (hu : h.get? u = some (kxs_mw initId e)) (hz : rest.length ≤ sizeLine)
    (hq : ∀ h' t1, (∀ b o, b ≠ e → h.get? b = some o → h'.get? b = some o) → h'.get? e = some (excObj C t1 none .none) → Q .none ⟨h', g, d, t, os⟩) :
    wpAny (model prog w) A (call (.ref u) rest) Q E ⟨h, g, d, t, os⟩ := by
  refine wpAny_call (codeAny_of_tree ?_)
  show wpAny _ A.in1 (callAny (.ref u) ⟨rest, []⟩) _ _ _
  simp only [callAny]
  refine wpAny_bind (wpAny_load hu ?_)
  simp only [kxs_mw, show (Value.type "method-wrapper" == Value.type "method" || Value.type "method-wrapper" == Value.type "builtin_function_or_method" || Value.type "method-wrapper" == Value.type "method-wrapper") = true by decide, if_true]
  refine KFB.if_so (by decide) ?_
  refine wpAny_bind (check_bound_init FB.toExcCallFacts hC he rfl ?_)
  refine wpAny_bind (wpAny_pure (wpAny_pure ?_))
  refine ⟨plainId_quiet FB.init.plain _, codeAny_builtin FB.initEntry ?_⟩
  exact exc_init_tree (cls := .ref C) (t0 := t0) (dv := none) (c2 := .none) (c3 := .none) (b4 := .bool false) he hz fun h' k e1 e2 => hq h' _ k e1
/-- .. and the whole def -/
theorem init_code {K : Frag} {R : Result → Shared → Prop} {f cc cda e t0 : Addr} {qual x file : Str} {params : Arguments} {scope : Scope} {dV kV doc pm ct oc ccl cl : Value} {an od cdd cld : Option Addr} {osl ccs csl : Array (Option Value)} {mg mb : Str → Option Value} {ar : Arg} {vs : Array Value} {tf : Tok} {cd : ClassData}
    {p0 p1 p2 p3 p4 p5 : Pos} {txt : Str} {j : Nat}
    (X : K.In h) (hlim : h.NoLimit) (hg : h.Ns mainGlobals mg) (hmg : mg "super" = none) (hb : h.Ns builtinsNs mb) (hmb : mb "super" = some (.type "super")) (hroom : A.depth < recursionLimit)
    (ho : K.lookup f = some ⟨oc, od, .func (ksFn "__init__" qual params [.Expr (.Call (.Attribute (.Call (.Name "super" p0) [] [] p1) "__init__" p2) [.Constant (.str txt) j p3] [] p4) p5] scope dV kV doc pm an (.ref cda) ct cc), osl⟩) (hcd : codeIn K (.ref cda) qual = true)
    (hbind : BindsTo ⟨h, g, d, t, os⟩ (ksFn "__init__" qual params [.Expr (.Call (.Attribute (.Call (.Name "super" p0) [] [] p1) "__init__" p2) [.Constant (.str txt) j p3] [] p4) p5] scope dV kV doc pm an (.ref cda) ct cc) ⟨[.ref e], []⟩ [(x, .ref e)])
    (hcell : ∀ y ∈ scope.names, y.2 ≠ .cell) (hloc : scope.names.lookup x = some .local) (hco : scope.isCoroutine = false) (hgen : scope.isGenerator = false) (hk : scope.kind = .function)
    (hp : (params.posonlyargs ++ params.args).head? = some ar) (har : ar.arg = x)
    (hcode : K.lookup cda = some ⟨ccl, cdd, .fields vs, ccs⟩) (hvs : vs[2]? = some (.str file tf)) (hfile : ((prog.main.file : Str) == file) = true)
    (hcl : K.lookup cc = some ⟨cl, cld, .cell (some (.ref C)), csl⟩) (hks : scope.names.lookup ("super" : Str) = some .globalImplicit) (hkc : scope.names.lookup ("__class__" : Str) = some .free) (htop : (prog.main.scope.names.lookup ("super" : Str)).isSome = false)
    (hCc : clsIn K C = some cd) (hsub : mroIn K C (.ref C) = some true) (hal : alongIn K "__init__" ((cd.mro.dropWhile (· != .ref C)).drop 1) = some (some (.builtin initId)))
    (KF : KxsFacts B initId) (FB : ExcBaseFacts B newId initId bmB) (hB : subIn K (.ref C) (.type B) = some true) (hst : nsIn K cStatics "thirdparty.any" = some none)
    (hC : h.get? C = some (excClassObj nm q C N bs bm hdct sn sub ab col dd k0 k1 k2 k3 k5 newId)) (he : h.get? e = some (excObj C t0 none .none))
    {pl : Addr → Sem Bool}
    (hin : ∀ L, interactive (ksEnv qual scope L f (.ref cda) cc) = false) (hsw : ∀ L, swapsWith (.Call (.Attribute (.Call (.Name "super" p0) [] [] p1) "__init__" p2) [.Constant (.str txt) j p3] [] p4) none p5.line (ksEnv qual scope L f (.ref cda) cc) = pure false)
    (hev : ∀ L, eval (.Call (.Attribute (.Call (.Name "super" p0) [] [] p1) "__init__" p2) [.Constant (.str txt) j p3] [] p4) (ksEnv qual scope L f (.ref cda) cc) = (do
      let ov ← attributeBase (.Call (.Name "super" p0) [] [] p1) "__init__" (ksEnv qual scope L f (.ref cda) cc) (eval (.Call (.Name "super" p0) [] [] p1) (ksEnv qual scope L f (.ref cda) cc))
      standAt p2.atName
      let (fn, first) ← holding [ov] (getMethod ov "__init__" (pl L))
      callWith p4 fn first (backTo p4 (starEach [.Constant (.str txt) j p3] (ksEnv qual scope L f (.ref cda) cc))) []))
    (hq : ∀ h' tk t1, (∀ b o, b ≠ e → h.get? b = some o → h'.get? b = some o) → h'.get? e = some (excObj C t1 none .none) → R (.ok (.ret .none)) ⟨h', g, d, tk, os⟩) :
    codeAny (model prog w) A (.call (.ref f) ⟨[.ref e], []⟩) R ⟨h, g, d, t, os⟩ := by
  have hbody : ∀ {y : Str × NameKind}, y ∈ scope.names → y.2 ≠ .cell := fun hy => hcell _ hy
  refine ks_codeAny_call_defAt (fd := ksFn "__init__" qual params [.Expr (.Call (.Attribute (.Call (.Name "super" p0) [] [] p1) "__init__" p2) [.Constant (.str txt) j p3] [] p4) p5] scope dV kV doc pm an (.ref cda) ct cc)
    (binds := [(x, .ref e)]) hroom (X _ _ ho) rfl hlim (codeRec_of X hcd) rfl hbind hcell (fun y hy => by rw [List.mem_singleton.mp hy]; exact hloc) (fun h1 hns hk1 => ?_) hco hgen hk
  have X1 : K.In h1 := X.keeps hk1
  have he1 := hk1 _ _ he
  have hC1 := hk1 _ _ hC
  have hec : e ≠ C := fun z => by rw [z, hC] at he; cases he
  refine ks_wpAt_execs_cons (ks_wpAt_Expr_any (ks_wpAt_MethodCall (pl := pl h.objs.size) ?_ (hev _)) (hin _) (hsw _))
  obtain ⟨oD, hD1, hD2⟩ : ∃ oD, h1.get? C = some oD ∧ oD.data = .cls cd := by
    unfold clsIn at hCc
    split at hCc
    · rename_i c d cd' sl ho
      cases hCc
      exact ⟨_, X1 _ _ ho, rfl⟩
    · cases hCc
  refine ks_wpAt_super_base hks hkc rfl rfl (X1 _ _ ho) rfl hp rfl (X1 _ _ hcode) rfl hvs hfile htop ?_
  refine ks_loadName_global hk hks (loadGlobal_builtin (hg.keeps hk1) hmg (hb.keeps hk1) hmb ⟨rfl, ?_⟩)
  refine wpAny_loadName_free hk hkc rfl ⟨_, X1 _ _ hcl, rfl⟩ ?_
  refine wpAny_loadName_local (v := .ref e) hk (by rw [har]; exact hloc) hns (by rw [har]; show List.lookup x [(x, Value.ref e)] = _; simp [List.lookup]) ?_
  have he1t : (⟨h1, g, d, t + 1, os⟩ : Shared).heap.get? e = some (excObj C t0 none .none) := he1
  refine ks_wpAny_isType_cls hD1 hD2 ⟨rfl, ?_⟩
  refine ks_wpAny_call_super hD1 hD2 he1 rfl (fun c z => by cases z) (looks_mroIn X1 hsub) (fun h2 hso hk2 => ?_)
  have X2 : K.In h2 := X1.keeps hk2
  have he2 := hk2 _ _ he1
  have I2 : InstAt h2 e (excObj C t0 none .none) C none := ⟨he2, rfl, rfl, trivial⟩
  have hmro : Looks (model prog w) h2 (mroOf (.ref C)) cd.mro := (looks_clsIn X2 hCc).andThen .now
  refine kxs_getMethod KF hso (looks_opaque X2 hst) hmro rfl X2 hal (I2.type.andThen (looks_subIn X2 hB)) hec rfl ?_
  have hu : (h2.push (kxs_mw initId e)).get? h2.objs.size = some (kxs_mw initId e) := Heap.get?_push_at rfl rfl
  have hk3 : ∀ b o, h2.get? b = some o → (h2.push (kxs_mw initId e)).get? b = some o := fun b o z => Heap.get?_push_of_some _ z
  refine kxs_callWith (i := initId) (x := e) rfl (evalArgs_plain ?_)
  refine Calls.spliced_cons (wpAny_Constant_str (k := j) (pos := p3) ?_)
  refine Calls.spliced_nil ⟨hu, ?_⟩
  refine call_mw FB (hk3 _ _ (hk2 _ _ hC1)) (hk3 _ _ he2) hu (by rw [sizeLine_eq]; simp) fun h4 t1 hk4 he4 => ?_
  refine wpAt_of_wpAny (wpAny_pure (hq h4 _ t1 (fun b o hb z => hk4 b o hb (hk3 _ _ (hk2 _ _ (hk1 _ _ z)))) he4))
end
/-- the text's own facts -/
theorem sup_in {qual : Str} {scope : Scope} {f cda cc L : Addr} (hk : scope.kind = .function) : interactive (ksEnv qual scope L f (.ref cda) cc) = false := by
  show (scope.kind == .module && _) = false
  rw [hk]; rfl
theorem sup_ev {p0 p1 p2 p3 p4 : Pos} {txt : Str} {j : Nat} (he : (p2.endLine == p4.line) = true) (env : Env) : eval (.Call (.Attribute (.Call (.Name "super" p0) [] [] p1) "__init__" p2) [.Constant (.str txt) j p3] [] p4) env = (do
      let ov ← attributeBase (.Call (.Name "super" p0) [] [] p1) "__init__" env (eval (.Call (.Name "super" p0) [] [] p1) env)
      standAt p2.atName
      let (fn, first) ← holding [ov] (getMethod ov "__init__" (do return (← importBound (.Call (.Name "super" p0) [] [] p1) env).getD true))
      callWith p4 fn first (backTo p4 (starEach [.Constant (.str txt) j p3] env)) []) := by
  have hpos : methodCallPos true (.Call (.Name "super" p0) [] [] p1) env p2 p4 = pure p4 := by
    unfold methodCallPos
    rw [if_pos (by rw [he]; rfl)]
  show (do
      let ov ← attributeBase (.Call (.Name "super" p0) [] [] p1) "__init__" env (eval (.Call (.Name "super" p0) [] [] p1) env)
      standAt p2.atName
      methodCall (.Call (.Name "super" p0) [] [] p1) "__init__" p2 p4 env ov 1 (backTo p4 (starEach [.Constant (.str txt) j p3] env)) []) = _
  have hm : ∀ ov, methodCall (.Call (.Name "super" p0) [] [] p1) "__init__" p2 p4 env ov 1 (backTo p4 (starEach [.Constant (.str txt) j p3] env)) [] = (do
      let (fn, first) ← holding [ov] (getMethod ov "__init__" (do return (← importBound (.Call (.Name "super" p0) [] [] p1) env).getD true))
      callWith p4 fn first (backTo p4 (starEach [.Constant (.str txt) j p3] env)) []) := fun ov => by
    unfold methodCall
    have hf : methodCallForm 1 (backTo p4 (starEach [.Constant (.str txt) j p3] env)) [] = true := rfl
    rw [hf, hpos]
    rfl
  simp only [hm]
end BPX
end

section
set_option autoImplicit false
set_option linter.all false
set_option Elab.async false
set_option maxRecDepth 100000
set_option maxHeartbeats 2000000
/-! BX2: raise C(), C an own class over ValueError whose __init__ says super().__init__('text'). -/
namespace BPX
open PySem PySem.W PySem.Calls PyProof.Rows
/-- __init__'s text -/
abbrev supBody (txt : Str) (j : Nat) (p0 p1 p2 p3 p4 p5 : Pos) : List Stmt := [.Expr (.Call (.Attribute (.Call (.Name "super" p0) [] [] p1) "__init__" p2) [.Constant (.str txt) j p3] [] p4) p5]
abbrev veB : List Value := [.type "ValueError", .type "Exception", .type "BaseException", .type "object"]
/-- what the written part says of C -/
structure SupC (file : Str) (K : Frag) (C : Addr) : Prop where
  all : ∃ (cd : ClassData)
    (f cc cda : Addr) (qual x : Str) (params : Arguments) (scope : Scope) (dV kV doc pm ct oc ccl cl : Value) (an od cdd cld : Option Addr) (osl ccs csl : Array (Option Value)) (ar : Arg) (vs : Array Value) (tf : Tok) (txt : Str) (j : Nat) (p0 p1 p2 p3 p4 p5 : Pos),
    clsIn K C = some cd ∧
    findIn K (.ref C) "__init__" = some (some (.ref f)) ∧ typeIn K (.ref f) = some (.type "function") ∧
    K.lookup f = some ⟨oc, od, .func (ksFn "__init__" qual params (supBody txt j p0 p1 p2 p3 p4 p5) scope dV kV doc pm an (.ref cda) ct cc), osl⟩ ∧ codeIn K (.ref cda) qual = true ∧
    (∀ (s : Shared) (u : Value), BindsTo s (ksFn "__init__" qual params (supBody txt j p0 p1 p2 p3 p4 p5) scope dV kV doc pm an (.ref cda) ct cc) ⟨[u], []⟩ [(x, u)]) ∧
    (∀ y ∈ scope.names, y.2 ≠ .cell) ∧ scope.names.lookup x = some .local ∧ scope.isCoroutine = false ∧ scope.isGenerator = false ∧ scope.kind = .function ∧
    (params.posonlyargs ++ params.args).head? = some ar ∧ ar.arg = x ∧
    K.lookup cda = some ⟨ccl, cdd, .fields vs, ccs⟩ ∧ vs[2]? = some (.str file tf) ∧ K.lookup cc = some ⟨cl, cld, .cell (some (.ref C)), csl⟩ ∧
    scope.names.lookup ("super" : Str) = some .globalImplicit ∧ scope.names.lookup ("__class__" : Str) = some .free ∧
    mroIn K C (.ref C) = some true ∧ alongIn K "__init__" ((cd.mro.dropWhile (· != .ref C)).drop 1) = some (some (.builtin "ValueError.__init__")) ∧
    (p2.endLine == p4.line) = true
  exc : excInitIn K C veB "ValueError.__new__" = true
  subV : subIn K (.ref C) (.type "ValueError") = some true
  subB : subIn K (.ref C) (.type "BaseException") = some true
  ty : typeIn K (.ref C) = some (.type "type")
  keep : keepIn K (.ref C) = true
  st : nsIn K cStatics "thirdparty.any" = some none
  sup : nsIn K mainGlobals "super" = some none
end BPX
namespace L2
open PySem PySem.Spec PyProof.Rows BPX
section
variable {X : Cx}
theorem pmk_sup {x file : Str} {C : Addr} {k : Nat} {p pos : Pos} (T : SupC file X.K C) (hf : ((X.prog.main.file : Str) == file) = true) (htop : (X.prog.main.scope.names.lookup ("super" : Str)).isSome = false) (hms : X.mg "super" = none) (hr : Room (k + 1) X.A) (hg : Gl X x) (hm : X.mg x = some (.ref C))
    (hdb : (x == ("__debug__" : Str)) = false := by decide) : PMk X (.Call (.Name x p) [] [] pos) (fun _ H Q => Q (.ref C) none H) := by
  intro pins s σ H Q I h
  obtain ⟨cd, f, cc, cda, qual, x, params, scope, dV, kV, doc, pm, ct, oc, ccl, cl, an, od, cdd, cld, osl, ccs, csl, ar, vs, tf, txt, j, p0, p1, p2, p3, p4, p5, hCc, hi, ht, ho, hcd, hbind, hcell, hloc, hco, hgen, hk, hp, har, hcode, hvs, hcl, hks, hkc, hsub, hal, hln⟩ := T.all
  obtain ⟨nm, N, q, bs, bm, hdct, sn, sub, ab, col, dd, k0, k1, k2, k3, k5, hC, hT⟩ := PySem.W.excInit_of I.kIn T.exc
  refine wpAny_Call_Name_kw (ld_glob I hg hm ?_ hdb)
  refine PySem.W.callWith_K0 I.kIn T.keep ?_
  show wpAny _ _ (call (.ref C) []) _ _ _
  obtain ⟨mb, hb1, hb2⟩ := I.ok.mod.blt
  have keeps := I.bk
  obtain ⟨hp', g, dr, tk, os⟩ := s
  have kk : ∀ b o, hp'.get? b = some o → ((hp'.push (PySem.W.kdv_tup [])).push (PySem.HandSPX.excO C hp'.objs.size)).get? b = some o := fun b o e => Heap.get?_push_of_some _ (Heap.get?_push_of_some _ e)
  have hget : ((hp'.push (PySem.W.kdv_tup [])).push (PySem.HandSPX.excO C hp'.objs.size)).get? (hp'.objs.size + 1) = some (PySem.HandSPX.excO C hp'.objs.size) := by heap_get
  have hsz : hp'.objs.size ≤ hp'.objs.size + 1 := Nat.le_succ _
  refine wpAny_call (PySem.HandSPX.call_own F.excBase_ValueError hT hC (PySem.W.looks_findIn I.kIn hi) (fun self => PySem.W.bind_fn I.kIn self ht) (Nat.zero_le _) ?_)
  refine init_code (K := X.K) (I.kIn.keeps kk) ?_ ((I.ok.mod.glob.keeps keeps).keeps kk) hms ((hb1.keeps keeps).keeps kk) ((hb2 _ (by decide)).trans ?_) ?_ ho hcd (hbind _ _) hcell hloc hco hgen hk hp har hcode hvs hf hcl hks hkc htop hCc hsub hal PySem.W.kxs_ValueError F.excBase_ValueError T.subV T.st (kk _ _ hC) hget (fun L => sup_in hk) (fun L => rfl) (fun L => sup_ev hln _) ?_
  · exact (I.ok.mod.nolimit.keeps keeps).keeps kk
  · decide +kernel
  · exact (hr.make C [] []).depth
  · intro h' tk' t1 k he
    refine ⟨rfl, hp'.objs.size + 1, _, _, _, H, .ref C, none, rfl, I, fun b o z => k b o (Nat.ne_of_lt (Nat.lt_of_lt_of_le (Heap.lt_size z) hsz)) (kk b o z), ?_, he, ⟨rfl, rfl⟩, rfl, rfl, I.hok.fresh hsz, rfl, I.bare, raises_own T.subB T.ty, h⟩
    cases z : hp'.get? (hp'.objs.size + 1) with
    | none => rfl
    | some o => exact absurd (Heap.lt_size z) (Nat.not_lt.mpr hsz)
end
end L2
end

section
set_option autoImplicit false
set_option linter.all false
set_option Elab.async false
set_option maxRecDepth 100000
set_option maxHeartbeats 2000000
/-! BX3: whether a class is such an exception, by its written part. -/
namespace BPX
open PySem PySem.W PySem.Calls PyProof.Rows
def bodyB : List Stmt → Bool
  | [.Expr (.Call (.Attribute (.Call (.Name x p0) [] [] p1) y p2) [.Constant (.str txt) j p3] [] p4) p5] => decide (x = "super") && (decide (y = "__init__") && p2.endLine == p4.line)
  | _ => false
theorem bodyB_ok {b : List Stmt} (h : bodyB b = true) : ∃ txt j p0 p1 p2 p3 p4 p5, b = supBody txt j p0 p1 p2 p3 p4 p5 ∧ (p2.endLine == p4.line) = true := by
  unfold bodyB at h
  split at h
  · rename_i x p0 p1 y p2 txt j p3 p4 p5
    rw [Bool.and_eq_true, Bool.and_eq_true, decide_eq_true_eq, decide_eq_true_eq] at h
    obtain ⟨rfl, rfl, h⟩ := h
    exact ⟨txt, j, p0, p1, p2, p3, p4, p5, rfl, h⟩
  · cases h
def cellB (K : Frag) (cc C : Addr) : Bool := match K.lookup cc with
  | some ⟨_, _, .cell (some (.ref D)), _⟩ => decide (D = C)
  | _ => false
theorem cellB_ok {K : Frag} {cc C : Addr} (h : cellB K cc C = true) : ∃ cl cld csl, K.lookup cc = some ⟨cl, cld, .cell (some (.ref C)), csl⟩ := by
  unfold cellB at h
  split at h
  · rename_i cl cld D csl e
    rw [decide_eq_true_eq] at h
    subst h
    exact ⟨_, _, _, e⟩
  · cases h
def fileB (K : Frag) (cda : Addr) (file : Str) : Bool := match K.lookup cda with
  | some ⟨_, _, .fields vs, _⟩ => (match (vs[2]? : Option Value) with
    | some (.str y _) => decide (y = file)
    | _ => false)
  | _ => false
theorem fileB_ok {K : Frag} {cda : Addr} {file : Str} (h : fileB K cda file = true) : ∃ ccl cdd vs ccs tf, K.lookup cda = some ⟨ccl, cdd, .fields vs, ccs⟩ ∧ vs[2]? = some (.str file tf) := by
  unfold fileB at h
  split at h
  · rename_i ccl cdd vs ccs e
    split at h
    · rename_i y tf e2
      rw [decide_eq_true_eq] at h
      subst h
      exact ⟨_, _, _, _, _, e, e2⟩
    · cases h
  · cases h
def scopeB (sc : Scope) (x : Str) : Bool := (sc.names.all fun y => decide (y.2 ≠ .cell)) && (decide (sc.names.lookup x = some .local) && (!sc.isCoroutine && (!sc.isGenerator && (decide (sc.kind = .function) && (decide (sc.names.lookup ("super" : Str) = some .globalImplicit) && decide (sc.names.lookup ("__class__" : Str) = some .free))))))
def fdB (file : Str) (K : Frag) (C : Addr) : FuncData → Bool
  | ⟨nm, q, ⟨[], [⟨x, _, _⟩], none, [], [], none, []⟩, .stmts b, sc, gl, [(cn, cc)], .none, _, _, _, _, .ref cda, _, bi⟩ =>
    decide (x = "self") && (decide (nm = "__init__") && (bodyB b && (decide (gl = mainGlobals) && (decide (cn = "__class__") && (decide (bi = builtinsNs) && (codeIn K (.ref cda) q && (scopeB sc x && (cellB K cc C && fileB K cda file))))))))
  | _ => false
def supB (file : Str) (K : Frag) (C : Addr) : Bool := excInitIn K C veB "ValueError.__new__" && ((match findIn K (.ref C) "__init__" with
  | some (some (.ref f)) => decide (typeIn K (.ref f) = some (.type "function")) && (match K.lookup f with
    | some ⟨_, _, .func fd, _⟩ => fdB file K C fd
    | _ => false)
  | _ => false) && (decide (mroIn K C (.ref C) = some true) && ((match clsIn K C with
  | some cd => decide (alongIn K "__init__" ((cd.mro.dropWhile (· != .ref C)).drop 1) = some (some (.builtin "ValueError.__init__")))
  | none => false) && (decide (subIn K (.ref C) (.type "ValueError") = some true) && (decide (subIn K (.ref C) (.type "BaseException") = some true) && (decide (typeIn K (.ref C) = some (.type "type")) && (keepIn K (.ref C) && (decide (nsIn K cStatics "thirdparty.any" = some none) && decide (nsIn K mainGlobals "super" = some none)))))))))
theorem scopeB_ok {sc : Scope} {x : Str} (h : scopeB sc x = true) : (∀ y ∈ sc.names, y.2 ≠ .cell) ∧ sc.names.lookup x = some .local ∧ sc.isCoroutine = false ∧ sc.isGenerator = false ∧ sc.kind = .function ∧ sc.names.lookup ("super" : Str) = some .globalImplicit ∧ sc.names.lookup ("__class__" : Str) = some .free := by
  unfold scopeB at h
  simp only [Bool.and_eq_true, List.all_eq_true, decide_eq_true_eq, Bool.not_eq_true'] at h
  obtain ⟨h1, h2, h3, h4, h5, h6, h7⟩ := h
  exact ⟨fun y hy => h1 y hy, h2, h3, h4, h5, h6, h7⟩
theorem fdB_ok {file : Str} {K : Frag} {C : Addr} {fd : FuncData} (h : fdB file K C fd = true) : ∃ (qual x : Str) (params : Arguments) (scope : Scope) (dV kV doc pm ct : Value) (an : Option Addr) (cda cc : Addr) (ar : Arg) (txt : Str) (j : Nat) (p0 p1 p2 p3 p4 p5 : Pos),
    fd = ksFn "__init__" qual params (supBody txt j p0 p1 p2 p3 p4 p5) scope dV kV doc pm an (.ref cda) ct cc ∧ codeIn K (.ref cda) qual = true ∧ (∀ (s : Shared) (u : Value), BindsTo s fd ⟨[u], []⟩ [(x, u)]) ∧ scopeB scope x = true ∧ (params.posonlyargs ++ params.args).head? = some ar ∧ ar.arg = x ∧ cellB K cc C = true ∧ fileB K cda file = true ∧ (p2.endLine == p4.line) = true := by
  unfold fdB at h
  split at h
  · rename_i nm q x an1 ap b sc gl cn cc kV doc pm an cda ct bi
    simp only [Bool.and_eq_true, decide_eq_true_eq] at h
    obtain ⟨rfl, rfl, h2, rfl, rfl, rfl, h6, h7, h8, h9⟩ := h
    obtain ⟨txt, j, p0, p1, p2, p3, p4, p5, rfl, hl⟩ := bodyB_ok h2
    exact ⟨q, "self", _, sc, .none, kV, doc, pm, ct, an, cda, cc, ⟨"self", an1, ap⟩, txt, j, p0, p1, p2, p3, p4, p5, rfl, h6, fun s u => BindsTo.of_eq rfl, h7, rfl, rfl, h8, h9, hl⟩
  · cases h
theorem supB_ok {file : Str} {K : Frag} {C : Addr} (h : supB file K C = true) : SupC file K C := by
  unfold supB at h
  simp only [Bool.and_eq_true, decide_eq_true_eq] at h
  obtain ⟨h1, h2, h3, h4, h5, h6, h7, h8, h9, h10⟩ := h
  refine ⟨?_, h1, h5, h6, h7, h8, h9, h10⟩
  split at h2
  · rename_i f hf
    rw [Bool.and_eq_true, decide_eq_true_eq] at h2
    obtain ⟨ht, h2⟩ := h2
    split at h2
    · rename_i oc od fd osl ho
      obtain ⟨qual, x, params, scope, dV, kV, doc, pm, ct, an, cda, cc, ar, txt, j, p0, p1, p2, p3, p4, p5, rfl, hcd, hb, hs, hp, har, hc, hfi, hl⟩ := fdB_ok h2
      obtain ⟨s1, s2, s3, s4, s5, s6, s7⟩ := scopeB_ok hs
      obtain ⟨cl, cld, csl, hcl⟩ := cellB_ok hc
      obtain ⟨ccl, cdd, vs, ccs, tf, hcode, hvs⟩ := fileB_ok hfi
      split at h4
      · rename_i cd hcd2
        rw [decide_eq_true_eq] at h4
        exact ⟨cd, f, cc, cda, qual, x, params, scope, dV, kV, doc, pm, ct, oc, ccl, cl, an, od, cdd, cld, osl, ccs, csl, ar, vs, tf, txt, j, p0, p1, p2, p3, p4, p5, hcd2, hf, ht, ho, hcd, hb, s1, s2, s3, s4, s5, hp, har, hcode, hvs, hcl, s6, s7, h3, h4, hl⟩
      · cases h4
    · cases h2
  · cases h2
end BPX
end

section
set_option autoImplicit false
set_option linter.all false
set_option Elab.async false
set_option maxRecDepth 100000
/-! BX4: what is asked of an exception class that is raised, caught, and asked for its kind. -/
namespace BPX
open PySem PySem.W L2
def exkB (K : Frag) (C : Addr) : Bool :=
  decide (findIn K (.ref C) "__getattribute__" = some (some (.builtin "BaseException.__getattribute__"))) && (decide (findIn K (.ref C) "__getattr__" = some none) && (decide (subIn K (.ref C) (.type "BaseException") = some true) && (hasDictIn K C && (decide (findIn K (.ref C) "__class__" = some (some (.builtin "object.__class__"))) &&
  (decide (specialIn K (.builtin "object.__class__") "__get__" = some (some (.builtin "getset_descriptor.__get__"))) && (decide (takesIn K (.builtin "object.__class__") = some true) && decide (mroIn K C (.type "object") = some true)))))))
theorem exkB_ok {K : Frag} {C : Addr} (h : exkB K C = true) : ExcC K C := by
  unfold exkB at h
  simp only [Bool.and_eq_true, decide_eq_true_eq] at h
  obtain ⟨h1, h2, h3, h4, h5, h6, h7, h8⟩ := h
  exact ⟨h1, h2, h3, h4, h5, h6, h7, h8⟩
structure ExAt (file : Str) (K : Frag) (C : Addr) : Prop where
  sup : SupC file K C
  exc : ExcC K C
  self : exmOne K (.ref C) (.ref C) = some true
  val : kitOne K (.ref C) (.type "ValueError") = some true
def exB (file : Str) (K : Frag) (C : Addr) : Bool := supB file K C && (exkB K C && (decide (exmOne K (.ref C) (.ref C) = some true) && decide (kitOne K (.ref C) (.type "ValueError") = some true)))
theorem exB_ok {file : Str} {K : Frag} {C : Addr} (h : exB file K C = true) : ExAt file K C := by
  unfold exB at h
  simp only [Bool.and_eq_true, decide_eq_true_eq] at h
  exact ⟨supB_ok h.1, exkB_ok h.2.1, h.2.2.1, h.2.2.2⟩
end BPX
end

section
set_option autoImplicit false
set_option linter.all false
set_option Elab.async false
set_option maxRecDepth 100000
set_option maxHeartbeats 4000000
/-! BX5: tuple * 1. -/
namespace L2
open PySem PySem.Spec PyProof.Rows
theorem tuple_mul1 (l : Addr) (items : Array Value) (n : Nat) (dd : Option Addr) (sl : Array (Option Value)) (u : Tok) :
    Meets (Builtin.«tuple.__mul__» ⟨[.ref l, .int 1 u], []⟩) (fun _ R s => s.heap.get? l = some { cls := .type "tuple", dict := dd, data := .seq items n, slots := sl } ∧ R (.ok (.ret (Value.ref l))) s) :=
  .of_wp fun prog w A R s h => by
    obtain ⟨hp, g, d, tk, os⟩ := s
    obtain ⟨hl, h⟩ := h
    have f1 := AutoSeq1.idx_int
    have c0 : (decide ((1 : Int) < -(2 ^ 63)) || decide ((1 : Int) ≥ 2 ^ 63)) = false := by decide
    have c1 : (items.isEmpty || (1 : Int) == 1) = true := by rw [show ((1 : Int) == 1) = true from rfl, Bool.or_true]
    wp_walk using wpAny_loadPart' hl
    repeat (first
      | (refine wpAny_ite_false (decide_eq_false (by rw [c0]; exact Bool.false_ne_true)) ?_; wp_walk using wpAny_loadPart' hl)
      | (refine wpAny_ite_true (decide_eq_true c1) ?_; wp_walk using wpAny_loadPart' hl))
    all_goals exact ⟨_, rfl, h⟩
def rRepT1 (K : PySem.W.Frag) : R2 := fun x y H Q => ∃ l xs, x = .ref l ∧ y = .int 1 ∧ SqT K H l xs ∧ Q (.ref l) H
section
variable {X : Cx}
theorem op_repT1 : OpR X (binaryOp .Mult) (rRepT1 X.K) := by
  intro pins s σ H x y v u Q I rx ry h
  obtain ⟨l, xs, rfl, rfl, hT, q⟩ := h
  cases rx
  obtain ⟨t, rfl⟩ := ry
  obtain ⟨its, r, ⟨⟨cls, dd, data, sl⟩, ho, hc, n, hd⟩, hs⟩ := I.tuple hT
  simp only at hc hd
  subst hc hd
  refine wpAny_binaryOp_repeat_ref (T := "tuple") (U := "int") (by decide) ⟨_, ho, rfl⟩ (fun s' => typeIs_int s' 1 t) noFill_tuple_mul F.fills_int_mul F.slot_int_rmul repeat_tuple F.slot_int_index.lookup
    (call_meets F.slot_int_rmul (typeIs_int s 1 t) F.entry_int_rmul (F.args_int_rmul_2 _ _) (int_rmul_tuple 1 t l its.toArray n dd sl)
      ⟨ho, rfl, ⟨_, ho, rfl⟩, call_meets F.slot_tuple_mul ⟨_, ho, rfl⟩ F.entry_tuple_mul (F.args_tuple_mul_2 _ _) (tuple_mul1 l its.toArray n dd sl t) ⟨ho, ?_⟩⟩)
  exact ⟨.ref l, H, I, rfl, q⟩
end
end L2
end

section
set_option autoImplicit false
set_option linter.all false
/-! BPa: a small language over plain values: values, states, expressions, statements, and what they give. -/
namespace BP
open PySem

abbrev Ky := NestedKey

/-- a plain value -/
inductive D where
  | non | bl (b : Bool) | int (i : Int) | str (s : Str)
  | tup (xs : List D) | lst (xs : List D) | dct (nk : Bool) (kvs : List (Ky × D))
  | ins (c : Nat) (fs : List D)
  | ref (n : Nat)
  | fn (f : Nat)
  | scr (ns : List Int)
instance : Inhabited D := ⟨.non⟩
/-- a thing that may be changed -/
def D.cont : D → Bool
  | .lst _ => true
  | .dct _ _ => true
  | _ => false

mutual
def D.py : D → Option PyData
  | .non => some .none
  | .bl b => some (.bool b)
  | .int i => some (.int i)
  | .str s => some (.str s)
  | .tup xs => (D.pys xs).map .tuple
  | .lst xs => (D.pys xs).map .list
  | _ => none
def D.pys : List D → Option (List PyData)
  | [] => some []
  | x :: xs => match D.py x, D.pys xs with
    | some d, some ds => some (d :: ds)
    | _, _ => none
end
mutual
/-- as a key, at most n deep -/
def D.kyd (n : Nat) (v : D) : Option Ky := match v with
  | .int i => some (.num i)
  | .str s => some (.text s)
  | .tup xs => match n with
    | 0 => none
    | n + 1 => (D.kyds n xs).map .tup
  | _ => none
def D.kyds (n : Nat) (v : List D) : Option (List Ky) := match v with
  | [] => some []
  | x :: xs => match D.kyd n x, D.kyds n xs with
    | some d, some ds => some (d :: ds)
    | _, _ => none
end
/-- as a key of a dict of that kind (nk: its keys are tuples) -/
def D.ky (nk : Bool) (v : D) : Option Ky := match nk, v with
  | false, .int i => some (.num i)
  | false, .str s => some (.text s)
  | true, .tup xs => (D.kyds 7 xs).map .tup
  | _, _ => none
def D.kys (nk : Bool) (v : List D) : Option (List Ky) := match v with
  | [] => some []
  | x :: xs => match D.ky nk x, D.kys nk xs with
    | some d, some ds => some (d :: ds)
    | _, _ => none
mutual
def kyD : Ky → D
  | .none => .non
  | .num i => .int i
  | .text s => .str s
  | .tup ks => .tup (kyDs ks)
def kyDs : List Ky → List D
  | [] => []
  | k :: ks => kyD k :: kyDs ks
end

/-! ### dicts -/
def dget (kvs : List (Ky × D)) (k : Ky) : Option D := (kvs.find? fun kv => decide (kv.1 = k)).map (·.2)
def dput (kvs : List (Ky × D)) (k : Ky) (v : D) : List (Ky × D) :=
  if (kvs.any fun kv => decide (kv.1 = k)) = true then kvs.map fun kv => if kv.1 = k then (kv.1, v) else kv else kvs ++ [(k, v)]

/-! ### results -/
inductive Res (α : Type) where
  | ok (a : α) (S : List D)
  | exc (c : Nat) (fs : List D) (S : List D)
  | stuck
def Res.bind {α β : Type} (r : Res α) (f : α → List D → Res β) : Res β := match r with
  | .ok a S => f a S
  | .exc c fs S => .exc c fs S
  | .stuck => .stuck
@[simp] theorem Res.bind_ok {α β : Type} (a : α) (S : List D) (f : α → List D → Res β) : (Res.ok a S).bind f = f a S := rfl
@[simp] theorem Res.bind_exc {α β : Type} (c : Nat) (fs : List D) (S : List D) (f : α → List D → Res β) : (Res.exc c fs S).bind f = .exc c fs S := rfl
@[simp] theorem Res.bind_stuck {α β : Type} (f : α → List D → Res β) : (Res.stuck).bind f = .stuck := rfl
def Res.opt {α : Type} (o : Option α) (S : List D) : Res α := match o with
  | some a => .ok a S
  | none => .stuck
@[simp] theorem Res.opt_some {α : Type} (a : α) (S : List D) : Res.opt (some a) S = .ok a S := rfl
@[simp] theorem Res.opt_none {α : Type} (S : List D) : Res.opt (none : Option α) S = .stuck := rfl

inductive Slot where
  | no | val (v : D) | own (d : Nat) (v : D) | new (c : Nat) (fs : List D)
abbrev Env := List Slot

/-! ### operators -/
inductive Bop where | add | sub | mul | fdiv | mod | pow | xor
inductive Cop where | eq | ne | lt | le | gt | ge | is_ | isNot | in_ | notIn
inductive Ty where | int | bool | str | tup | lst | dct | cls (c : Nat)
inductive Bi where | len | list | tuple | sorted | int | abs | min2 | max2 | minL | maxL | sum | any | all | repr | dictP (nk : Bool)

def lim : Nat := 16777216
/-- a reference is read -/
def dr (S : List D) : D → Option D
  | .ref n => S[n]?
  | v => some v
def mulOk (i j : Int) : Bool := decide (i.natAbs < 2 ^ 64) || decide (j.natAbs < 2 ^ 64)
def powOk (i j : Int) : Bool := decide (0 ≤ j) && decide (j ≤ 1000000) && decide (i.natAbs < 2 ^ 64)
def smallI (i : Int) : Bool := match i with
  | .ofNat n => Nat.ble n 4611686018427387903
  | .negSucc n => Nat.ble n 4611686018427387903
theorem smallI_iff (i : Int) : smallI i = (decide (-(2 ^ 62) ≤ i) && decide (i < 2 ^ 62)) := by
  have e : ∀ a b : Bool, (a = true ↔ b = true) → a = b := fun a b h => by cases a <;> cases b <;> simp_all
  refine e _ _ ?_
  rw [Bool.and_eq_true, decide_eq_true_eq, decide_eq_true_eq]
  cases i with
  | ofNat n =>
    show Nat.ble n 4611686018427387903 = true ↔ _
    rw [Nat.ble_eq]
    have : Int.ofNat n = (n : Int) := rfl
    rw [this]
    omega
  | negSucc n =>
    show Nat.ble n 4611686018427387903 = true ↔ _
    rw [Nat.ble_eq]
    omega
def addD : D → D → Option D
  | .int i, .int j => some (.int (i + j))
  | .lst xs, .lst ys => if xs.length + ys.length ≤ lim then some (.lst (xs ++ ys)) else none
  | .tup xs, .tup ys => if xs.length + ys.length ≤ lim then some (.tup (xs ++ ys)) else none
  | _, _ => none
def mulD : D → D → Option D
  | .int i, .int j => if mulOk i j then some (.int (i * j)) else none
  | .lst xs, .int j => if smallI j && decide (xs.length * j.toNat ≤ lim) then some (.lst (List.replicate j.toNat xs).flatten) else none
  | .tup xs, .int j => if j = 1 then some (.tup xs) else if decide (2 ≤ j) && decide (j ≤ 1000) && decide (xs.length ≤ 1000) && !xs.isEmpty then some (.tup (List.replicate j.toNat xs).flatten) else none
  | _, _ => none
def intD (C : Int → Int → Bool) (f : Int → Int → Int) : D → D → Option D
  | .int i, .int j => if C i j then some (.int (f i j)) else none
  | _, _ => none
def divOk (_ j : Int) : Bool := decide (0 < j) && decide (j < 1073741824)
def binD (o : Bop) : D → D → Option D := match o with
  | .add => addD
  | .sub => intD (fun _ _ => true) fun i j => i - j
  | .mul => mulD
  | .fdiv => intD divOk fun i j => i / j
  | .mod => intD (fun _ j => decide (0 < j)) fun i j => i % j
  | .pow => intD powOk fun i j => i ^ j.toNat
  | .xor => intD (fun _ _ => true) Builtin.bitXor
def eqD (a b : D) : Option Bool := match a.py, b.py with
  | some x, some y => if SeqAt.shaped x && SeqAt.shaped y then some (PyData.eqv x y) else none
  | _, _ => none
def inD (a : D) : D → Option Bool
  | .lst xs => match a.py, (D.lst xs).py with
    | some x, some (.list ys) => if SeqAt.shaped x && SeqAt.shaped (.list ys) then some (ys.any fun z => PyData.eqv z x) else none
    | _, _ => none
  | .tup xs => match a.py, (D.tup xs).py with
    | some x, some (.tuple ys) => if SeqAt.shaped x && SeqAt.shaped (.tuple ys) then some (ys.any fun z => PyData.eqv z x) else none
    | _, _ => none
  | .dct nk kvs => match a.ky nk with
    | some k => some (dget kvs k).isSome
    | _ => none
  | _ => none
def isD : D → D → Option Bool
  | .non, .non => some true
  | .bl a, .bl b => some (a == b)
  | .bl _, .non => some false
  | .int _, .non => some false
  | .str _, .non => some false
  | .tup _, .non => some false
  | .lst _, .non => some false
  | .dct _ _, .non => some false
  | .ins _ _, .non => some false
  | _, _ => none
def cmpD : Cop → D → D → Option Bool
  | .eq, a, b => eqD a b
  | .ne, a, b => (eqD a b).map (!·)
  | .lt, .int i, .int j => some (decide (i < j))
  | .le, .int i, .int j => some (decide (i ≤ j))
  | .gt, .int i, .int j => some (decide (j < i))
  | .ge, .int i, .int j => some (decide (j ≤ i))
  | .in_, a, b => inD a b
  | .notIn, a, b => (inD a b).map (!·)
  | .is_, a, b => isD a b
  | .isNot, a, b => (isD a b).map (!·)
  | _, _, _ => none
def tru : D → Option Bool
  | .non => some false
  | .bl b => some b
  | .int i => some (i != 0)
  | .tup xs => some (!xs.isEmpty)
  | .lst xs => some (!xs.isEmpty)
  | _ => none
def ixI (n : Nat) (i : Int) : Option Nat := if 0 ≤ i then (if i < n then some i.toNat else none) else if -(n : Int) ≤ i then some (i + n).toNat else none
def atD (xs : List D) (i : Int) : Option D := (ixI xs.length i).bind fun j => xs[j]?
def idxD : D → D → Option D
  | .lst xs, .int i => atD xs i
  | .tup xs, .int i => atD xs i
  | .dct nk kvs, k => (k.ky nk).bind fun k => dget kvs k
  | _, _ => none
/-- x[k] = v -/
def setD : D → D → D → Option D
  | .lst xs, .int i, v => (ixI xs.length i).map fun j => .lst (xs.set j v)
  | .dct nk kvs, k, v => if kvs.length < lim then (k.ky nk).map fun k => .dct nk (dput kvs k v) else none
  | _, _, _ => none
def clipI (n d : Nat) : Option Int → Nat
  | none => d
  | some i => (if i < 0 then max (i + n) 0 else min i n).toNat
def cutL (xs : List D) (lo hi : Option Int) : List D := (xs.drop (clipI xs.length 0 lo)).take (clipI xs.length xs.length hi - clipI xs.length 0 lo)
def sliceD : D → Option Int → Option Int → Option D
  | .lst xs, lo, hi => some (.lst (cutL xs lo hi))
  | .tup xs, lo, hi => some (.tup (cutL xs lo hi))
  | .scr ns, lo, hi => some (.lst (cutL (ns.map .int) lo hi))
  | _, _, _ => none
def revD : D → Option D
  | .lst xs => some (.lst xs.reverse)
  | _ => none
def tyD : Ty → D → Option Bool
  | .int, .int _ => some true
  | .int, .bl _ => some true
  | .bool, .bl _ => some true
  | .str, .str _ => some true
  | .tup, .tup _ => some true
  | .lst, .lst _ => some true
  | .dct, .dct _ _ => some true
  | .cls c, .ins c' _ => some (c == c')
  | _, .ref _ => none
  | _, .fn _ => none
  | _, .scr _ => none
  | _, _ => some false
def isiD (v : D) : List Ty → Option Bool
  | [] => some false
  | t :: ts => match tyD t v with
    | some true => some true
    | some false => isiD v ts
    | none => none
/-- .. no instance -/
def isiD2 (v : D) (ts : List Ty) : Option Bool := match v with
  | .ins _ _ => none
  | _ => isiD v ts
def intsD : List D → Option (List Int)
  | [] => some []
  | .int i :: r => (intsD r).map (i :: ·)
  | _ :: _ => none
def tru0 : D → Option Bool
  | .bl b => some b
  | .int i => some (i != 0)
  | _ => none
def trusD : List D → Option (List Bool)
  | [] => some []
  | x :: r => match tru0 x, trusD r with
    | some b, some bs => some (b :: bs)
    | _, _ => none
def seqD : D → Option (List D)
  | .lst xs => some xs
  | .tup xs => some xs
  | _ => none
/-- the order of sorted -/
def leD (a b : D) : Bool := match a.py, b.py with
  | some x, some y => !PySem.W.dataLt y x
  | _, _ => false
def alikeAllB (ds : List PyData) : Bool := ds.all fun a => ds.all fun b => PySem.W.alike a b
def tupB : PyData → Bool
  | .tuple _ => true
  | _ => false
def flatB : PyData → Bool
  | .none => false
  | .tuple _ => false
  | _ => true
def sortOk (ds : List PyData) : Bool := alikeAllB ds && (ds.all tupB || ds.all flatB) && ds.all fun d => decide (d.depth ≤ 60)
def sortD (xs : List D) : Option (List D) := match D.pys xs with
  | some ds => if sortOk ds then some (xs.mergeSort leD) else none
  | none => none
def keysD (kvs : List (Ky × D)) : List D := kvs.map fun kv => kyD kv.1
def itemsOf : D → Option (List D)
  | .lst xs => some xs
  | .tup xs => some xs
  | .dct _ kvs => some (keysD kvs)
  | _ => none
/-- what sorted takes -/
def srcD : D → Option (List D)
  | .lst xs => some xs
  | .dct _ kvs => some (keysD kvs)
  | _ => none
def maxI : List Int → Option Int
  | [] => none
  | [i] => some i
  | i :: r => (maxI r).map fun j => if j > i then j else i
def minI : List Int → Option Int
  | [] => none
  | [i] => some i
  | i :: r => (minI r).map fun j => if j < i then j else i
def pairsD (nk : Bool) : List D → Option (List (Ky × D))
  | [] => some []
  | .tup [k, v] :: r => match k.ky nk, pairsD nk r with
    | some k, some r => some ((k, v) :: r)
    | _, _ => none
  | _ :: _ => none
def mergeD (kvs more : List (Ky × D)) : List (Ky × D) := more.foldl (fun acc kv => dput acc kv.1 kv.2) kvs
def arg1 (f : D → Option D) : List D → Option D
  | [x] => f x
  | _ => none
def arg2 (f : D → D → Option D) : List D → Option D
  | [x, y] => f x y
  | _ => none
def int1 (f : Int → Int) : D → Option D
  | .int i => some (.int (f i))
  | _ => none
def int2 (f : Int → Int → Int) : D → D → Option D
  | .int i, .int j => some (.int (f i j))
  | _, _ => none
def toInt : D → Option D
  | .int i => some (.int i)
  | .bl b => some (.int (if b then 1 else 0))
  | _ => none
def lstD (f : List D → Option D) : D → Option D
  | .lst xs => f xs
  | _ => none
def biD (b : Bi) : List D → Option D := match b with
  | .len => arg1 fun v => (itemsOf v).map fun xs => .int xs.length
  | .list => arg1 fun v => (itemsOf v).map .lst
  | .tuple => arg1 fun v => (seqD v).map .tup
  | .sorted => arg1 fun v => ((srcD v).bind sortD).map .lst
  | .int => arg1 toInt
  | .abs => arg1 (int1 fun i => if i < 0 then -i else i)
  | .max2 => arg2 (int2 fun i j => if j > i then j else i)
  | .min2 => arg2 (int2 fun i j => if j < i then j else i)
  | .maxL => arg1 (lstD fun xs => ((intsD xs).bind maxI).map .int)
  | .minL => arg1 (lstD fun xs => ((intsD xs).bind minI).map .int)
  | .sum => arg1 fun v => ((seqD v).bind intsD).map fun ns => .int ns.sum
  | .any => arg1 fun v => ((seqD v).bind trusD).map fun bs => .bl (bs.any id)
  | .all => arg1 fun v => ((seqD v).bind trusD).map fun bs => .bl (bs.all id)
  | .dictP nk => arg1 (lstD fun xs => (pairsD nk xs).map fun ps => .dct nk (mergeD [] ps))
  | .repr => fun _ => none
def rgL (a b : Int) : List D := (List.range (b - a).toNat).map fun i => .int (a + (i : Nat))
def rgOk (a b : Int) : Bool := smallI a && smallI b && decide ((b - a).toNat ≤ lim)
def enumL (xs : List D) : List D := (List.range xs.length).zip xs |>.map fun p => .tup [.int (p.1 : Nat), p.2]
def zipL (xs ys : List D) : List D := (xs.zip ys).map fun p => .tup [p.1, p.2]

/-! ### the language -/
inductive Tg where
  | name (i : Nat) | tup (ts : List Tg)
mutual
inductive Ex where
  | var (i : Nat) | peek (i d : Nat) | con (c : D) | glob (x : Str) (v : D)
  | bin (o : Bop) (a b : Ex) | neg (a : Ex) | not (a : Ex) | and (a b : Ex) | or (a b : Ex)
  | cmp (o : Cop) (a b : Ex) | chain (o o' : Cop) (a b c : Ex) | ife (c a b : Ex)
  | call (f : Nat) (as : Exs) | make (c : Nat) (as : Exs) | bi (b : Bi) (as : Exs) | isi (a : Ex) (ts : List Ty) (one : Bool)
  | idx (a b : Ex) | slice (a : Ex) (lo hi : Ox) | rev (a : Ex) | fld (a : Ex) (c f : Nat) | get (a b c : Ex)
  | tup (es : Exs) | lst (es : Exs) | dct0 (nk : Bool) | dct1 (nk : Bool) (k v : Ex) | rg1 (a : Ex) | rg2 (a b : Ex) | dictZip (nk : Bool) (a b : Ex)
  | lc (elt : Ex) (tg : Tg) (it : It) (ifs : Ox) (own : List Nat)
  | lc2 (elt : Ex) (tg : Tg) (it : It) (tg2 : Tg) (it2 : It) (ifs2 : Ox) (own own2 : List Nat)
  | dc (nk : Bool) (k v : Ex) (tg : Tg) (it : It) (ifs : Ox) (own : List Nat)
  | dc2 (nk : Bool) (k v : Ex) (tg : Tg) (it : It) (tg2 : Tg) (it2 : It) (own own2 : List Nat)
inductive Exs where
  | nil | cons (e : Ex) (r : Exs)
inductive Ox where
  | no | so (e : Ex)
inductive It where
  | seq (e : Ex) | rg (a : Ex) | rg2 (a b : Ex) | enum (a : Ex) | zip (a b : Ex)
end
instance : Inhabited Ex := ⟨.con .non⟩

mutual
def Tg.store : Tg → D → Env → Option Env
  | .name i, v, env => some (env.set i (.val v))
  | .tup ts, .tup vs, env => Tg.stores ts vs env
  | _, _, _ => none
def Tg.stores : List Tg → List D → Env → Option Env
  | [], [], env => some env
  | t :: ts, v :: vs, env => (Tg.store t v env).bind fun env => Tg.stores ts vs env
  | _, _, _ => none
end
mutual
/-- the slots that a target stores -/
def Tg.names : Tg → List Nat
  | .name i => [i]
  | .tup ts => Tg.namesL ts
def Tg.namesL : List Tg → List Nat
  | [] => []
  | t :: ts => t.names ++ Tg.namesL ts
end
def wipeE (env : Env) : List Nat → Env
  | [] => env
  | i :: is => (wipeE env is).set i .no

/-- what a program is: its defs run, its classes made -/
structure Prg where
  run : Nat → List D → List D → Res D
  make : Nat → List D → List D → Res D

/-- what no exception leaves -/
def noX {α : Type} (r : Res α) : Res α := match r with
  | .ok a S => .ok a S
  | _ => .stuck
def loopL (items : List D) (f : D → List D → Res (Option D)) (acc : List D) (S : List D) : Res (List D) := match items with
  | [] => .ok acc S
  | x :: r => (noX (f x S)).bind fun o S => match o with
    | some y => loopL r f (acc ++ [y]) S
    | none => loopL r f acc S
/-- two clauses -/
def loopL2 (items : List D) (f : D → List D → List D → Res (List D)) (acc : List D) (S : List D) : Res (List D) := match items with
  | [] => .ok acc S
  | x :: r => (noX (f x acc S)).bind fun acc S => loopL2 r f acc S
def loopD (items : List D) (f : D → List D → Res (Option (Ky × D))) (acc : List (Ky × D)) (S : List D) : Res (List (Ky × D)) := match items with
  | [] => .ok acc S
  | x :: r => (noX (f x S)).bind fun o S => match o with
    | some kv => loopD r f (dput acc kv.1 kv.2) S
    | none => loopD r f acc S
def loopD2 (items : List D) (f : D → List (Ky × D) → List D → Res (List (Ky × D))) (acc : List (Ky × D)) (S : List D) : Res (List (Ky × D)) := match items with
  | [] => .ok acc S
  | x :: r => (noX (f x acc S)).bind fun acc S => loopD2 r f acc S
def short (xs : List D) (S : List D) : Res D := if xs.length ≤ lim then .ok (.lst xs) S else .stuck
def shortD (nk : Bool) (xs : List (Ky × D)) (S : List D) : Res D := if xs.length < lim then .ok (.dct nk xs) S else .stuck

/-! what a form gives, by what its parts give -/
abbrev EF := Env → List D → Res D
abbrev AF := Env → List D → Res (List D)
abbrev OF := Env → List D → Res (Option Int)
def truF (fa : EF) : EF := fun env S => (fa env S).bind fun x S => Res.opt (((dr S x).bind tru).map .bl) S
/-- a test's end -/
def finF (t : Bool) (f : EF) : EF := match t with
  | false => f
  | true => truF f
def varF (i : Nat) : EF := fun env S => match env[i]? with
    | some (.val v) => .ok v S
    | _ => .stuck
def peekF (i d : Nat) : EF := fun env S => match env[i]? with
    | some (.val v) => .ok v S
    | some (.own d' v) => if d' = d then .ok v S else .stuck
    | _ => .stuck
def conF (v : D) : EF := fun _ S => .ok v S
def binF (o : Bop) (fa fb : EF) : EF := fun env S => (fa env S).bind fun x S => (fb env S).bind fun y S => Res.opt ((dr S x).bind fun x => (dr S y).bind fun y => binD o x y) S
def negF (fa : EF) : EF := fun env S => (fa env S).bind fun x S => match x with
    | .int i => .ok (.int (-i)) S
    | _ => .stuck
def notF (fa : EF) : EF := fun env S => (fa env S).bind fun x S => match x with
    | .bl b => .ok (.bl (!b)) S
    | _ => .stuck
def andF (fa fb : EF) : EF := fun env S => (fa env S).bind fun x S => match x with
    | .bl true => fb env S
    | .bl false => .ok (.bl false) S
    | _ => .stuck
def orF (fa fb : EF) : EF := fun env S => (fa env S).bind fun x S => match x with
    | .bl false => fb env S
    | .bl true => .ok (.bl true) S
    | _ => .stuck
def cmpF (o : Cop) (fa fb : EF) : EF := fun env S => (fa env S).bind fun x S => (fb env S).bind fun y S => Res.opt ((dr S x).bind fun x => (dr S y).bind fun y => (cmpD o x y).map .bl) S
def chainF (o o' : Cop) (fa fb fc : EF) : EF := fun env S => (fa env S).bind fun x S => (fb env S).bind fun y S => match cmpD o x y with
    | some true => (fc env S).bind fun z S => Res.opt ((cmpD o' y z).map .bl) S
    | some false => .ok (.bl false) S
    | none => .stuck
def ifF (fc fa fb : EF) : EF := fun env S => (fc env S).bind fun k S => match k with
    | .bl true => fa env S
    | .bl false => fb env S
    | _ => .stuck
def callF (run : List D → List D → Res D) (fr : AF) : EF := fun env S => (fr env S).bind fun vs S => run vs S
def biF (b : Bi) (f : AF) : EF := fun env S => (f env S).bind fun vs S => Res.opt ((vs.mapM (dr S)).bind fun vs => biD b vs) S
def isiF (ts : List Ty) (fa : EF) : EF := fun env S => (fa env S).bind fun x S => Res.opt ((dr S x).bind fun x => (isiD2 x ts).map .bl) S
def idxF (fa fb : EF) : EF := fun env S => (fa env S).bind fun x S => (fb env S).bind fun y S => Res.opt ((dr S x).bind fun x => idxD x y) S
def oxF (fa : EF) : OF := fun env S => (fa env S).bind fun x S => match x with
    | .int i => .ok (some i) S
    | _ => .stuck
def noF : OF := fun _ S => .ok none S
def sliceF (fa : EF) (fl fh : OF) : EF := fun env S => (fa env S).bind fun x S => (fl env S).bind fun l S => (fh env S).bind fun h S => Res.opt ((dr S x).bind fun x => sliceD x l h) S
def revF (fa : EF) : EF := fun env S => (fa env S).bind fun x S => Res.opt (revD x) S
def fldF (c f : Nat) (fa : EF) : EF := fun env S => (fa env S).bind fun x S => match x with
    | .ins c' fs => if c' = c then Res.opt fs[f]? S else .stuck
    | _ => .stuck
def getF (fa fb fc : EF) : EF := fun env S => (fa env S).bind fun x S => match x with
    | .dct nk kvs => (fb env S).bind fun k S => (fc env S).bind fun y S => Res.opt ((k.ky nk).map fun k => (dget kvs k).getD y) S
    | _ => .stuck
def nilF : AF := fun _ S => .ok [] S
def consF (fa : EF) (fr : AF) : AF := fun env S => (fa env S).bind fun x S => (fr env S).bind fun xs S => .ok (x :: xs) S
def tupF (fr : AF) : EF := fun env S => (fr env S).bind fun vs S => if vs.length ≤ lim then .ok (.tup vs) S else .stuck
def lstF (fr : AF) : EF := fun env S => (fr env S).bind fun vs S => if vs.length ≤ lim then .ok (.lst vs) S else .stuck
def rg1F (fa : EF) : EF := fun env S => (fa env S).bind fun x S => match x with
    | .int n => if rgOk 0 n then .ok (.lst (rgL 0 n)) S else .stuck
    | _ => .stuck
def rg2F (fa fb : EF) : EF := fun env S => (fa env S).bind fun x S => (fb env S).bind fun y S => match x, y with
    | .int m, .int n => if rgOk m n then .ok (.lst (rgL m n)) S else .stuck
    | _, _ => .stuck
def dzF (nk : Bool) (fa fb : EF) : EF := fun env S => (fa env S).bind fun x S => (fb env S).bind fun y S => match itemsOf x, itemsOf y with
    | some xs, some ys => match pairsD nk (zipL xs ys) with
      | some ps => .ok (.dct nk (mergeD [] ps)) S
      | none => .stuck
    | _, _ => .stuck
def seqF (fa : EF) : AF := fun env S => (fa env S).bind fun x S => match x with
    | .lst xs => .ok xs S
    | .tup xs => .ok xs S
    | _ => .stuck
def irg1F (fa : EF) : AF := fun env S => (fa env S).bind fun x S => match x with
    | .int n => if rgOk 0 n then .ok (rgL 0 n) S else .stuck
    | _ => .stuck
def irg2F (fa fb : EF) : AF := fun env S => (fa env S).bind fun x S => (fb env S).bind fun y S => match x, y with
    | .int m, .int n => if rgOk m n then .ok (rgL m n) S else .stuck
    | _, _ => .stuck
def enumF (fa : EF) : AF := fun env S => (fa env S).bind fun x S => match x with
    | .lst xs => .ok (enumL xs) S
    | .tup xs => .ok (enumL xs) S
    | _ => .stuck
def zipF (fa fb : EF) : AF := fun env S => (fa env S).bind fun x S => (fb env S).bind fun y S => match x, y with
    | .lst xs, .lst ys => .ok (zipL xs ys) S
    | .tup xs, .tup ys => .ok (zipL xs ys) S
    | _, _ => .stuck
def yesF : EF := fun _ S => .ok (.bl true) S
/-- one turn of a comprehension -/
def turnF {α : Type} (tg : Tg) (own : List Nat) (ft : EF) (fe : Env → List D → Res α) (env : Env) (x : D) (S : List D) : Res (Option α) := match tg.store x (wipeE env own) with
  | some env => (ft env S).bind fun k S => match k with
    | .bl true => (fe env S).bind fun y S => .ok (some y) S
    | .bl false => .ok none S
    | _ => .stuck
  | none => .stuck
def lcF (fi : AF) (tg : Tg) (own : List Nat) (ft fe : EF) : EF := fun env S => (fi env S).bind fun items S => (loopL items (turnF tg own ft fe env) [] S).bind short
/-- .. of the first of two clauses -/
def turn2F {α : Type} (tg : Tg) (own : List Nat) (fi2 : AF) (lp : List D → Env → List α → List D → Res (List α)) (env : Env) (x : D) (acc : List α) (S : List D) : Res (List α) := match tg.store x (wipeE env own) with
  | some env => (fi2 env S).bind fun items S => lp items env acc S
  | none => .stuck
def lc2F (fi : AF) (tg : Tg) (own : List Nat) (fi2 : AF) (tg2 : Tg) (own2 : List Nat) (ft fe : EF) : EF := fun env S => (fi env S).bind fun items S =>
  (loopL2 items (turn2F tg own fi2 (fun items env acc S => loopL items (turnF tg2 own2 ft fe env) acc S) env) [] S).bind short
def kvF (nk : Bool) (fk fv : EF) : Env → List D → Res (Ky × D) := fun env S => (fk env S).bind fun k S => (fv env S).bind fun v S => match k.ky nk with
  | some k => .ok (k, v) S
  | none => .stuck
def dct1F (nk : Bool) (fk fv : EF) : EF := fun env S => (fk env S).bind fun k S => (fv env S).bind fun v S => match k.ky nk with
  | some k => .ok (.dct nk [(k, v)]) S
  | none => .stuck
def dcF (nk : Bool) (fi : AF) (tg : Tg) (own : List Nat) (ft fk fv : EF) : EF := fun env S => (fi env S).bind fun items S => (loopD items (turnF tg own ft (kvF nk fk fv) env) [] S).bind (shortD nk)
def dc2F (nk : Bool) (fi : AF) (tg : Tg) (own : List Nat) (fi2 : AF) (tg2 : Tg) (own2 : List Nat) (fk fv : EF) : EF := fun env S => (fi env S).bind fun items S =>
  (loopD2 items (turn2F tg own fi2 (fun items env acc S => loopD items (turnF tg2 own2 yesF (kvF nk fk fv) env) acc S) env) [] S).bind (shortD nk)

mutual
/-- t: as a test -/
def Ex.ev (P : Prg) (t : Bool) (e : Ex) : EF := match e with
  | .var i => finF t (varF i)
  | .peek i d => finF t (peekF i d)
  | .con c => finF t (conF c)
  | .glob _ v => finF t (conF v)
  | .bin o a b => finF t (binF o (a.ev P false) (b.ev P false))
  | .neg a => finF t (negF (a.ev P false))
  | .not a => notF (a.ev P t)
  | .and a b => andF (a.ev P t) (b.ev P t)
  | .or a b => orF (a.ev P t) (b.ev P t)
  | .cmp o a b => cmpF o (a.ev P false) (b.ev P false)
  | .chain o o' a b c => chainF o o' (a.ev P false) (b.ev P false) (c.ev P false)
  | .ife c a b => ifF (c.ev P true) (a.ev P false) (b.ev P false)
  | .call f as => finF t (callF (P.run f) (as.evs P))
  | .make c as => finF t (callF (P.make c) (as.evs P))
  | .bi b as => finF t (biF b (as.evs P))
  | .isi a ts _ => finF t (isiF ts (a.ev P false))
  | .idx a b => finF t (idxF (a.ev P false) (b.ev P false))
  | .slice a lo hi => finF t (sliceF (a.ev P false) (lo.evo P) (hi.evo P))
  | .rev a => finF t (revF (a.ev P false))
  | .fld a c f => finF t (fldF c f (a.ev P false))
  | .get a b c => finF t (getF (a.ev P false) (b.ev P false) (c.ev P false))
  | .tup es => finF t (tupF (es.evs P))
  | .lst es => finF t (lstF (es.evs P))
  | .dct0 nk => finF t (conF (.dct nk []))
  | .dct1 nk k v => finF t (dct1F nk (k.ev P false) (v.ev P false))
  | .rg1 a => finF t (rg1F (a.ev P false))
  | .rg2 a b => finF t (rg2F (a.ev P false) (b.ev P false))
  | .dictZip nk a b => finF t (dzF nk (a.ev P false) (b.ev P false))
  | .lc elt tg it ifs own => finF t (lcF (it.evi P) tg own (ifs.tvo P) (elt.ev P false))
  | .lc2 elt tg it tg2 it2 ifs2 own own2 => finF t (lc2F (it.evi P) tg own (it2.evi P) tg2 own2 (ifs2.tvo P) (elt.ev P false))
  | .dc nk k v tg it ifs own => finF t (dcF nk (it.evi P) tg own (ifs.tvo P) (k.ev P false) (v.ev P false))
  | .dc2 nk k v tg it tg2 it2 own own2 => finF t (dc2F nk (it.evi P) tg own (it2.evi P) tg2 own2 (k.ev P false) (v.ev P false))
def Exs.evs (P : Prg) (e : Exs) : AF := match e with
  | .nil => nilF
  | .cons e r => consF (e.ev P false) (r.evs P)
def Ox.evo (P : Prg) (e : Ox) : OF := match e with
  | .no => noF
  | .so e => oxF (e.ev P false)
def Ox.tvo (P : Prg) (e : Ox) : EF := match e with
  | .no => yesF
  | .so e => e.ev P true
def It.evi (P : Prg) (e : It) : AF := match e with
  | .seq e => seqF (e.ev P false)
  | .rg a => irg1F (a.ev P false)
  | .rg2 a b => irg2F (a.ev P false) (b.ev P false)
  | .enum a => enumF (a.ev P false)
  | .zip a b => zipF (a.ev P false) (b.ev P false)
end

/-! ### statements -/
inductive Fl where
  | nx | rt (v : D) | bk | ct
mutual
inductive St where
  | asg (i d : Nat) (e : Ex) | par (is ds : List Nat) (es : Exs) | unp (tg : Tg) (e : Ex)
  | app (i d : Nat) (e : Ex) | ext (i : Nat) (e : Ex) | upd (i : Nat) (e : Ex)
  | setI (i d : Nat) (k v : Ex) | setI2 (i : Nat) (j k v : Ex) | augI (i : Nat) (k : Ex) (o : Bop) (v : Ex) | aug (i : Nat) (o : Bop) (e : Ex)
  | asgPop (i j : Nat) (k : Ox) | dropPop (j : Nat) (k : Ox) | appPop (i j : Nat) (k : Ox)
  | setF (c f : Nat) (e : Ex)
  | ex (e : Ex) | ret (e : Ex) | retO (i : Nat) | retN | ite (c : Ex) (a b : Sts) | for_ (tg : Tg) (it : It) (b : Sts) | whl (c : Ex) (b : Sts)
  | pass | brk | cnt | never | frz (i : Nat) | cell (i : Nat)
  | raise (c : Nat) | tryB (e : Ex) (c j : Nat) (b : Bool)
inductive Sts where
  | nil | cons (s : St) (r : Sts)
end
instance : Inhabited St := ⟨.pass⟩

/-- the thing at a slot is changed: its own, or what it refers to -/
def chg (env : Env) (S : List D) (i d : Nat) (f : D → Option D) : Option (Env × List D) := match env[i]? with
  | some (.own d' v) => if d' = d then (f v).map fun w => (env.set i (.own d w), S) else none
  | some (.val (.ref n)) => if d = 1 then (S[n]?).bind fun v => (f v).map fun w => (env, S.set n w) else none
  | _ => none
def appD (y : D) : D → Option D
  | .lst xs => if xs.length < lim then some (.lst (xs ++ [y])) else none
  | _ => none
def extD (y : D) : D → Option D
  | .lst xs => match y with
    | .lst ys => if xs.length + ys.length ≤ lim then some (.lst (xs ++ ys)) else none
    | _ => none
  | _ => none
def updD (y : D) : D → Option D
  | .dct nk xs => match y with
    | .dct nk' ys => if nk = nk' ∧ xs.length + ys.length ≤ lim then some (.dct nk (mergeD xs ys)) else none
    | _ => none
  | _ => none
def incD : D → D → Option D
  | .int i, .int j => some (.int (i + j))
  | _, _ => none
/-- x[k], x a list -/
def lookS (env : Env) (S : List D) (i : Nat) (k : D) : Option D := match env[i]? with
  | some (.own _ (.lst xs)) => idxD (.lst xs) k
  | some (.val (.ref n)) => match S[n]? with
    | some (.lst xs) => idxD (.lst xs) k
    | _ => none
  | _ => none
def popAt (k : Option Int) : D → Option (D × D)
  | .lst xs => match k with
    | none => (xs.getLast?).map fun y => (y, .lst xs.dropLast)
    | some i => if smallI i then (ixI xs.length i).bind fun j => (xs[j]?).map fun y => (y, .lst (xs.eraseIdx j)) else none
  | _ => none
def pops (env : Env) (S : List D) (i : Nat) (k : Option Int) : Option (D × Env × List D) := match env[i]? with
  | some (.own d' v) => if d' = 1 then (popAt k v).map fun w => (w.1, env.set i (.own 1 w.2), S) else none
  | some (.val (.ref n)) => (S[n]?).bind fun v => (popAt k v).map fun w => (w.1, env, S.set n w.2)
  | _ => none
def mkSlot (d : Nat) (v : D) : Slot := if d = 0 then .val v else .own d v
def setAll : List Nat → List Nat → List D → Env → Option Env
  | [], [], [], env => some env
  | i :: is, d :: ds, v :: vs, env => setAll is ds vs (env.set i (mkSlot d v))
  | _, _, _, _ => none

def forL (items : List D) (f : D → Env → List D → Res (Fl × Env)) (env : Env) (S : List D) : Res (Fl × Env) := match items with
  | [] => .ok (.nx, env) S
  | x :: r => (f x env S).bind fun p S => match p.1 with
    | .nx => forL r f p.2 S
    | .ct => forL r f p.2 S
    | .bk => .ok (.nx, p.2) S
    | .rt v => .ok (.rt v, p.2) S
def whlL (n : Nat) (c : Env → List D → Res D) (f : Env → List D → Res (Fl × Env)) (env : Env) (S : List D) : Res (Fl × Env) := match n with
  | 0 => .stuck
  | n + 1 => (c env S).bind fun b S => match b with
    | .bl true => (f env S).bind fun p S => match p.1 with
      | .nx => whlL n c f p.2 S
      | .ct => whlL n c f p.2 S
      | .bk => .ok (.nx, p.2) S
      | .rt v => .ok (.rt v, p.2) S
    | .bl false => .ok (.nx, env) S
    | _ => .stuck
/-- how many turns a while may take -/
def fuel : Nat := 100000

/-! what a statement does, by what its parts give -/
abbrev SF := Env → List D → Res (Fl × Env)
def asgF (i d : Nat) (f : EF) : SF := fun env S => (f env S).bind fun v S => .ok (.nx, env.set i (mkSlot d v)) S
def parF (is ds : List Nat) (f : AF) : SF := fun env S => (f env S).bind fun vs S => Res.opt ((setAll is ds vs env).map fun env => (.nx, env)) S
def unpF (tg : Tg) (f : EF) : SF := fun env S => (f env S).bind fun v S => Res.opt ((tg.store v env).map fun env => (.nx, env)) S
def chgR (o : Option (Env × List D)) : Res (Fl × Env) := match o with
  | some p => .ok (.nx, p.1) p.2
  | none => .stuck
def isL : D → Bool
  | .lst _ => true
  | _ => false
def isDct (nk : Bool) : D → Bool
  | .dct n _ => n == nk
  | _ => false
/-- what the name holds is of that kind -/
def atK (env : Env) (S : List D) (i : Nat) (k : D → Bool) : Bool := match env[i]? with
  | some (.own _ v) => k v
  | some (.val (.ref n)) => (S[n]?).any k
  | _ => false
def gdF (i : Nat) (k : D → Bool) (f : SF) : SF := fun env S => if atK env S i k then f env S else .stuck
def appF (i d : Nat) (f : EF) : SF := gdF i isL fun env S => (f env S).bind fun y S => chgR (chg env S i d (appD y))
def extF (i : Nat) (f : EF) : SF := gdF i isL fun env S => (f env S).bind fun y S => chgR (chg env S i 1 (extD y))
def updF (i : Nat) (f : EF) : SF := gdF i D.cont fun env S => (f env S).bind fun y S => chgR (chg env S i 1 (updD y))
def setIF (i d : Nat) (fk fv : EF) : SF := gdF i D.cont fun env S => (fv env S).bind fun v S => (fk env S).bind fun k S => chgR (chg env S i d (fun c => setD c k v))
def setI2F (i : Nat) (fj fk fv : EF) : SF := gdF i isL fun env S => (fv env S).bind fun v S => (fj env S).bind fun j S => (Res.opt (lookS env S i j) S).bind fun _ S => (fk env S).bind fun k S =>
  chgR (chg env S i 2 (fun c => (idxD c j).bind fun x => (setD x k v).bind fun x => setD c j x))
def augIF (i : Nat) (fk : EF) (o : Bop) (fv : EF) : SF := gdF i isL fun env S => (fk env S).bind fun k S => (Res.opt (lookS env S i k) S).bind fun x S => (fv env S).bind fun v S => (Res.opt (incD x v) S).bind fun z S => chgR (chg env S i 1 fun c => setD c k z)
def augF (i : Nat) (o : Bop) (f : EF) : SF := fun env S => match env[i]? with
  | some (.val x) => (f env S).bind fun y S => Res.opt ((incD x y).map fun z => (.nx, env.set i (.val z))) S
  | _ => .stuck
def popF (fk : OF) (j : Nat) (k : D → Env → List D → Res (Fl × Env)) : SF := gdF j isL fun env S => (fk env S).bind fun o S => match pops env S j o with
  | some (y, env, S) => k y env S
  | none => .stuck
def setFF (c f : Nat) (fe : EF) : SF := fun env S => (fe env S).bind fun v S => match env[0]? with
  | some (Slot.new c' fs) => if c' = c ∧ fs.length = f then .ok (.nx, env.set 0 (.new c (fs ++ [v]))) S else .stuck
  | _ => .stuck
def exF (f : EF) : SF := fun env S => (f env S).bind fun _ S => .ok (.nx, env) S
def retF (f : EF) : SF := fun env S => (f env S).bind fun v S => .ok (.rt v, env) S
def retOF (i : Nat) : SF := fun env S => match env[i]? with
  | some (.own 1 v) => .ok (.rt v, env) S
  | _ => .stuck
def iteF (fc : EF) (a b : SF) : SF := fun env S => (fc env S).bind fun k S => match k with
  | .bl true => a env S
  | .bl false => b env S
  | _ => .stuck
def forF (fi : AF) (tg : Tg) (b : SF) : SF := fun env S => (fi env S).bind fun items S => forL items (fun x env S => match tg.store x env with
  | some env => b env S
  | none => .stuck) env S
def frzF (i : Nat) : SF := fun env S => match env[i]? with
  | some (.own _ v) => .ok (.nx, env.set i (.val v)) S
  | _ => .stuck
def cellF (i : Nat) : SF := fun env S => match env[i]? with
  | some (.own 1 v) => if v.cont then .ok (.nx, env.set i (.val (.ref S.length))) (S ++ [v]) else .stuck
  | _ => .stuck
/-- try: e / except C: return b -/
def tryF (f : EF) (c j : Nat) (b : Bool) : SF := fun env S => match f env S with
  | .ok _ S' => .ok (.nx, env) S'
  | .exc c' fs S' => if c' = c ∧ fs = [] ∧ j < env.length then .ok (.rt (.bl b), env) S' else .stuck
  | .stuck => .stuck
def flF (k : Fl) : SF := fun env S => .ok (k, env) S
def seqS (a b : SF) : SF := fun env S => (a env S).bind fun p S => match p.1 with
  | .nx => b p.2 S
  | _ => .ok p S

mutual
def St.go (P : Prg) (s : St) : SF := match s with
  | .asg i d e => asgF i d (e.ev P false)
  | .par is ds es => parF is ds (es.evs P)
  | .unp tg e => unpF tg (e.ev P false)
  | .app i d e => appF i d (e.ev P false)
  | .ext i e => extF i (e.ev P false)
  | .upd i e => updF i (e.ev P false)
  | .setI i d k v => setIF i d (k.ev P false) (v.ev P false)
  | .setI2 i j k v => setI2F i (j.ev P false) (k.ev P false) (v.ev P false)
  | .augI i k o v => augIF i (k.ev P false) o (v.ev P false)
  | .aug i o e => augF i o (e.ev P false)
  | .asgPop i j k => popF (k.evo P) j fun y env S => .ok (.nx, env.set i (.val y)) S
  | .dropPop j k => popF (k.evo P) j fun _ env S => .ok (.nx, env) S
  | .appPop i j k => gdF i isL (popF (k.evo P) j fun y env S => chgR (chg env S i 1 (appD y)))
  | .setF c f e => setFF c f (e.ev P false)
  | .ex e => exF (e.ev P false)
  | .ret e => retF (e.ev P false)
  | .retO i => retOF i
  | .retN => flF (.rt .non)
  | .ite c a b => iteF (c.ev P true) (a.go P) (b.go P)
  | .for_ tg it b => forF (it.evi P) tg (b.go P)
  | .whl c b => whlL fuel (c.ev P true) (b.go P)
  | .pass => flF .nx
  | .brk => flF .bk
  | .cnt => flF .ct
  | .never => fun _ _ => .stuck
  | .raise c => fun _ S => .exc c [] S
  | .tryB e c j b => tryF (e.ev P false) c j b
  | .frz i => frzF i
  | .cell i => cellF i
def Sts.go (P : Prg) (s : Sts) : SF := match s with
  | .nil => flF .nx
  | .cons s r => seqS (s.go P) (r.go P)
end

/-! ### defs, classes -/
structure Fn where
  np : Nat
  N : List Str
  body : Sts
structure Cl where
  init : Fn
  fields : List Str
structure Tab where
  fns : List Fn
  cls : List Cl
/-- no reference in it, not to be changed -/
def D.imm : D → Bool
  | .non => true
  | .bl _ => true
  | .int _ => true
  | .str _ => true
  | _ => false
/-- behind a def: its own cells are gone -/
def back (S : List D) (v : D) (S' : List D) : Res D := if S'.length ≤ S.length then .ok v S' else if S.isEmpty && v.imm then .ok v [] else .stuck
def backX (S : List D) (c : Nat) (fs : List D) (S' : List D) : Res D := if S'.length ≤ S.length then .exc c fs S' else if S.isEmpty && fs.all D.imm then .exc c fs [] else .stuck
def endR (S : List D) (r : Res (Fl × Env)) : Res D := match r with
  | .ok (.rt v, _) S' => back S v S'
  | .ok (.nx, _) S' => back S .non S'
  | .exc c fs S' => backX S c fs S'
  | _ => .stuck
def endM (S : List D) (r : Res (Fl × Env)) : Res D := match r with
  | .ok (.nx, env) S' => match env with
    | Slot.new c fs :: _ => if S'.length ≤ S.length then .ok (.ins c fs) S' else .stuck
    | _ => .stuck
  | .exc c fs S' => backX S c fs S'
  | _ => .stuck
def Fn.runs (F : Fn) (P : Prg) (args : List D) (S : List D) : Res D :=
  if args.length = F.np then endR S (F.body.go P (args.map Slot.val ++ List.replicate (F.N.length - F.np) .no) S) else .stuck
def Fn.makes (F : Fn) (c : Nat) (P : Prg) (args : List D) (S : List D) : Res D :=
  if args.length + 1 = F.np then endM S (F.body.go P (.new c [] :: args.map Slot.val ++ List.replicate (F.N.length - F.np) .no) S) else .stuck
def Tab.at (T : Tab) : Nat → Prg
  | 0 => ⟨fun _ _ _ => .stuck, fun _ _ _ => .stuck⟩
  | 1 => ⟨fun f args S => match T.fns[f]? with
    | some F => F.runs (T.at 0) args S
    | none => .stuck, fun _ _ _ => .stuck⟩
  | k + 2 => ⟨fun f args S => match T.fns[f]? with
    | some F => F.runs (T.at (k + 1)) args S
    | none => .stuck, fun c args S => match T.cls[c]? with
    | some C => C.init.makes c (T.at k) args S
    | none => .stuck⟩
end BP
end

section
set_option autoImplicit false
set_option linter.all false
set_option maxRecDepth 100000
/-! BPr: how plain values lie in the abstract heap; what a state is; what an evaluation promises. -/
namespace BP
open PySem PySem.Spec PyProof.Rows L2

def kN : Key → Ky
  | .inl i => .num i
  | .inr x => .text x

/-- the constants of a proof: the program, the world, the written part, where defs and classes stand -/
structure Gx where
  P : Program
  w : World
  K : PySem.W.Frag
  ca : Nat → Addr
  fa : Nat → Addr
  flds : Nat → List Str
  fd : Nat → Nat

/-- a dict with tuple keys, as it stands at a -/
def dN (P : Program) (w : World) (a : Addr) (es : List (Ky × Addr × V)) : HO := .ext fun h =>
  es.length ≤ sizeLine ∧ (a == sysModules) = false ∧ ∃ xs : List (Ky × Addr × Value),
    Paired (fun p q => p.1 = q.1 ∧ p.2.1 = q.2.1 ∧ RelV p.2.2 q.2.2) es xs ∧
      ∃ o ds ep, h.get? a = some o ∧ o.ExactDict ∧ o.data = .dict ds ep ∧ ds.toList = xs.map (entryOfKey (nestedKind P w)) ∧ (xs.map (·.1)).Nodup

/-- a value is a key -/
inductive NK (H : Hp) : V → Ky → Prop
  | num (i : Int) : NK H (.int i) (.num i)
  | text (s : Str) : NK H (.str s) (.text s)
  | tup {a : Addr} {xs : List V} {ks : List Ky} : H a = some (.tup xs) → xs.length = ks.length → (∀ (i : Nat) (x : V) (k : Ky), xs[i]? = some x → ks[i]? = some k → NK H x k) → NK H (.ref a) (.tup ks)

inductive All2 {α β : Type} (R : α → β → Prop) : List α → List β → Prop
  | nil : All2 R [] []
  | cons {a b as bs} : R a b → All2 R as bs → All2 R (a :: as) (b :: bs)
section
variable {α β : Type} {R R' : α → β → Prop}
theorem All2.length {as : List α} {bs : List β} (h : All2 R as bs) : as.length = bs.length := by
  induction h with
  | nil => rfl
  | cons _ _ ih => simp [ih]
theorem All2.imp {as : List α} {bs : List β} (h : All2 R as bs) (f : ∀ a b, R a b → R' a b) : All2 R' as bs := by
  induction h with
  | nil => exact .nil
  | cons r _ ih => exact .cons (f _ _ r) ih
theorem All2.get {as : List α} {bs : List β} (h : All2 R as bs) : ∀ {i : Nat} {b : β}, bs[i]? = some b → ∃ a, as[i]? = some a ∧ R a b := by
  induction h with
  | nil => intro i b e; simp at e
  | cons r _ ih =>
    intro i b e
    cases i with
    | zero => simp at e; subst e; exact ⟨_, rfl, r⟩
    | succ i => simp at e; obtain ⟨a, e1, e2⟩ := ih e; exact ⟨a, by simpa using e1, e2⟩
theorem All2.getL {as : List α} {bs : List β} (h : All2 R as bs) : ∀ {i : Nat} {a : α}, as[i]? = some a → ∃ b, bs[i]? = some b ∧ R a b := by
  induction h with
  | nil => intro i b e; simp at e
  | cons r _ ih =>
    intro i b e
    cases i with
    | zero => simp at e; subst e; exact ⟨_, rfl, r⟩
    | succ i => simp at e; obtain ⟨a, e1, e2⟩ := ih e; exact ⟨a, by simpa using e1, e2⟩
theorem All2.append {as as' : List α} {bs bs' : List β} (h : All2 R as bs) (h' : All2 R as' bs') : All2 R (as ++ as') (bs ++ bs') := by
  induction h with
  | nil => exact h'
  | cons r _ ih => exact .cons r ih
theorem All2.take {as : List α} {bs : List β} (h : All2 R as bs) : ∀ n, All2 R (as.take n) (bs.take n) := by
  induction h with
  | nil => intro n; simp; exact .nil
  | cons r _ ih => intro n; cases n with
    | zero => exact .nil
    | succ n => exact .cons r (ih n)
theorem All2.drop {as : List α} {bs : List β} (h : All2 R as bs) : ∀ n, All2 R (as.drop n) (bs.drop n) := by
  induction h with
  | nil => intro n; simp; exact .nil
  | cons r t ih => intro n; cases n with
    | zero => exact .cons r t
    | succ n => exact ih n
theorem All2.set {as : List α} {bs : List β} (h : All2 R as bs) {a : α} {b : β} (r : R a b) : ∀ n, All2 R (as.set n a) (bs.set n b) := by
  induction h with
  | nil => intro n; simp; exact .nil
  | cons q t ih => intro n; cases n with
    | zero => exact .cons r t
    | succ n => exact .cons q (ih n)
theorem All2.eraseIdx {as : List α} {bs : List β} (h : All2 R as bs) : ∀ n, All2 R (as.eraseIdx n) (bs.eraseIdx n) := by
  induction h with
  | nil => intro n; exact .nil
  | cons q t ih => intro n; cases n with
    | zero => exact t
    | succ n => exact .cons q (ih n)
theorem All2.dropLast {as : List α} {bs : List β} (h : All2 R as bs) : All2 R as.dropLast bs.dropLast := by
  rw [List.dropLast_eq_take, List.dropLast_eq_take, h.length]; exact h.take _
theorem All2.reverse {as : List α} {bs : List β} (h : All2 R as bs) : All2 R as.reverse bs.reverse := by
  induction h with
  | nil => exact .nil
  | cons r _ ih => simp only [List.reverse_cons]; exact ih.append (.cons r .nil)
theorem All2.rep {as : List α} {bs : List β} (h : All2 R as bs) : ∀ k : Nat, All2 R (List.replicate k as).flatten (List.replicate k bs).flatten
  | 0 => .nil
  | k + 1 => by simp only [List.replicate_succ, List.flatten_cons]; exact h.append (All2.rep h k)
theorem All2.isEmpty {as : List α} {bs : List β} (h : All2 R as bs) : as.isEmpty = bs.isEmpty := by cases h <;> rfl
end

mutual
/-- the value x of the abstract heap H is the plain value v; L: the live (still changing) addresses; ρ: where the cells stand -/
inductive Rep (g : Gx) (L : Addr → Prop) (ρ : List Addr) (H : Hp) : V → D → Prop
  | non : Rep g L ρ H .non .non
  | bl (b : Bool) : Rep g L ρ H (.bl b) (.bl b)
  | int (i : Int) : Rep g L ρ H (.int i) (.int i)
  | str (s : Str) : Rep g L ρ H (.str s) (.str s)
  | tup {a : Addr} {xs : List V} {ds : List D} : H a = some (.tup xs) → ¬ L a → Reps g L ρ H xs ds → Rep g L ρ H (.ref a) (.tup ds)
  | lst {a : Addr} {xs : List V} {ds : List D} : H a = some (.lst xs) → ¬ L a → Reps g L ρ H xs ds → Rep g L ρ H (.ref a) (.lst ds)
  | dK {a : Addr} {kvs : List (Key × V)} {ds : List (Ky × D)} : H a = some (.dK kvs) → ¬ L a → RepP g L ρ H (kvs.map fun p => (kN p.1, p.2)) ds → Rep g L ρ H (.ref a) (.dct false ds)
  | dN {a : Addr} {es : List (Ky × Addr × V)} {ds : List (Ky × D)} : H a = some (dN g.P g.w a es) → ¬ L a → (∀ e ∈ es, NK H (.ref e.2.1) e.1 ∧ e.1.depth ≤ 8) → RepP g L ρ H (es.map fun e => (e.1, e.2.2)) ds → Rep g L ρ H (.ref a) (.dct true ds)
  | ins {a dx : Addr} {c : Nat} {fs : List (Str × V)} {ds : List D} : H a = some (.ins (g.ca c) dx fs) → ¬ L a → Reps g L ρ H (fs.map (·.2)) ds → fs.map (·.1) = (g.flds c).take ds.length → Rep g L ρ H (.ref a) (.ins c ds)
  | ref {n : Nat} {a : Addr} : ρ[n]? = some a → Rep g L ρ H (.ref a) (.ref n)
  | fn (f : Nat) : Rep g L ρ H (.ref (g.fa f)) (.fn f)
  | scr {a : Addr} {ns : List Int} : (∃ o, H a = some (.frz o (.lst (ns.map .int))) ∧ ¬ L a) ∨ (∀ H' : Hp, SqL g.K H' a (ns.map .int)) → Rep g L ρ H (.ref a) (.scr ns)
inductive Reps (g : Gx) (L : Addr → Prop) (ρ : List Addr) (H : Hp) : List V → List D → Prop
  | nil : Reps g L ρ H [] []
  | cons {x : V} {v : D} {xs : List V} {vs : List D} : Rep g L ρ H x v → Reps g L ρ H xs vs → Reps g L ρ H (x :: xs) (v :: vs)
inductive RepP (g : Gx) (L : Addr → Prop) (ρ : List Addr) (H : Hp) : List (Ky × V) → List (Ky × D) → Prop
  | nil : RepP g L ρ H [] []
  | cons {k : Ky} {x : V} {v : D} {xs : List (Ky × V)} {vs : List (Ky × D)} : Rep g L ρ H x v → RepP g L ρ H xs vs → RepP g L ρ H ((k, x) :: xs) ((k, v) :: vs)
end
section
variable {g : Gx} {L : Addr → Prop} {ρ : List Addr} {H : Hp}
theorem Reps.all2 : ∀ {xs : List V} {vs : List D}, Reps g L ρ H xs vs → All2 (Rep g L ρ H) xs vs
  | _, _, .nil => .nil
  | _, _, .cons r t => .cons r (Reps.all2 t)
theorem Reps.of : ∀ {xs : List V} {vs : List D}, All2 (Rep g L ρ H) xs vs → Reps g L ρ H xs vs
  | _, _, .nil => .nil
  | _, _, .cons r t => .cons r (Reps.of t)
abbrev REnt (g : Gx) (L : Addr → Prop) (ρ : List Addr) (H : Hp) : Ky × V → Ky × D → Prop := fun p q => p.1 = q.1 ∧ Rep g L ρ H p.2 q.2
theorem RepP.all2 : ∀ {xs : List (Ky × V)} {vs : List (Ky × D)}, RepP g L ρ H xs vs → All2 (REnt g L ρ H) xs vs
  | _, _, .nil => .nil
  | _, _, .cons r t => .cons ⟨rfl, r⟩ (RepP.all2 t)
theorem RepP.of : ∀ {xs : List (Ky × V)} {vs : List (Ky × D)}, All2 (REnt g L ρ H) xs vs → RepP g L ρ H xs vs
  | _, _, .nil => .nil
  | (_, _) :: _, (_, _) :: _, .cons ⟨e, r⟩ t => by cases e; exact .cons r (RepP.of t)
end

/-- what stood (but the live) stands -/
def Keep (L L' : Addr → Prop) (H H' : Hp) : Prop := ∀ a o, H a = some o → ¬ L a → H' a = some o ∧ ¬ L' a
theorem Keep.refl (L : Addr → Prop) (H : Hp) : Keep L L H H := fun _ _ h n => ⟨h, n⟩
theorem Keep.trans {L L1 L2 : Addr → Prop} {H H1 H2 : Hp} (a : Keep L L1 H H1) (b : Keep L1 L2 H1 H2) : Keep L L2 H H2 := fun c o h n => let ⟨h1, n1⟩ := a c o h n; b c o h1 n1
theorem Keep.rd {L L' : Addr → Prop} {H H' : Hp} (k : Keep L L' H H') {a : Addr} {o : HO} (h : Rd H a o) (n : ¬ L a) : Rd H' a o ∧ ¬ L' a := by
  rcases h with h | ⟨q, h⟩
  · exact ⟨.inl (k a _ h n).1, (k a _ h n).2⟩
  · exact ⟨.inr ⟨q, (k a _ h n).1⟩, (k a _ h n).2⟩

/-- tuples stay (they are never live) -/
def TupK (H H' : Hp) : Prop := ∀ a xs, H a = some (.tup xs) → H' a = some (.tup xs)
theorem NK.keep {H H' : Hp} (t : TupK H H') : ∀ {x : V} {k : Ky}, NK H x k → NK H' x k := by
  intro x k h
  induction h with
  | num i => exact .num i
  | text s => exact .text s
  | tup h1 h2 _ ih => exact .tup (t _ _ h1) h2 ih
section
variable {g : Gx} {L L' : Addr → Prop} {ρ ρ' : List Addr} {H H' : Hp}
mutual
theorem Rep.keep (k : Keep L L' H H') (t : TupK H H') (hρ : ∀ (n : Nat) (a : Addr), ρ[n]? = some a → ρ'[n]? = some a) : ∀ {x : V} {v : D}, Rep g L ρ H x v → Rep g L' ρ' H' x v
  | _, _, .non => .non
  | _, _, .bl b => .bl b
  | _, _, .int i => .int i
  | _, _, .str s => .str s
  | _, _, .tup h n r => .tup (k _ _ h n).1 (k _ _ h n).2 (Reps.keep k t hρ r)
  | _, _, .lst h n r => .lst (k _ _ h n).1 (k _ _ h n).2 (Reps.keep k t hρ r)
  | _, _, .dK h n r => .dK (k _ _ h n).1 (k _ _ h n).2 (RepP.keep k t hρ r)
  | _, _, .dN h n q r => .dN (k _ _ h n).1 (k _ _ h n).2 (fun e he => ⟨(q e he).1.keep t, (q e he).2⟩) (RepP.keep k t hρ r)
  | _, _, .ins h n r d => .ins (k _ _ h n).1 (k _ _ h n).2 (Reps.keep k t hρ r) d
  | _, _, .ref h => .ref (hρ _ _ h)
  | _, _, .fn f => .fn f
  | _, _, .scr h => .scr (h.elim (fun ⟨o, h, n⟩ => .inl ⟨o, (k _ _ h n).1, (k _ _ h n).2⟩) .inr)
theorem Reps.keep (k : Keep L L' H H') (t : TupK H H') (hρ : ∀ (n : Nat) (a : Addr), ρ[n]? = some a → ρ'[n]? = some a) : ∀ {x : List V} {v : List D}, Reps g L ρ H x v → Reps g L' ρ' H' x v
  | _, _, .nil => .nil
  | _, _, .cons r s => .cons (Rep.keep k t hρ r) (Reps.keep k t hρ s)
theorem RepP.keep (k : Keep L L' H H') (t : TupK H H') (hρ : ∀ (n : Nat) (a : Addr), ρ[n]? = some a → ρ'[n]? = some a) : ∀ {x : List (Ky × V)} {v : List (Ky × D)}, RepP g L ρ H x v → RepP g L' ρ' H' x v
  | _, _, .nil => .nil
  | _, _, .cons r s => .cons (Rep.keep k t hρ r) (RepP.keep k t hρ s)
end
end

/-- a container as it can be read now: its own address may be live -/
inductive Cont (R : V → D → Prop) (ok : Addr → Prop) (g : Gx) (H : Hp) : V → D → Prop
  | lst {a : Addr} {xs : List V} {ds : List D} : H a = some (.lst xs) → ok a → All2 R xs ds → Cont R ok g H (.ref a) (.lst ds)
  | tup {a : Addr} {xs : List V} {ds : List D} : H a = some (.tup xs) → ok a → All2 R xs ds → Cont R ok g H (.ref a) (.tup ds)
  | dK {a : Addr} {kvs : List (Key × V)} {ds : List (Ky × D)} : H a = some (.dK kvs) → ok a → All2 (fun p q => p.1 = q.1 ∧ R p.2 q.2) (kvs.map fun p => (kN p.1, p.2)) ds → Cont R ok g H (.ref a) (.dct false ds)
  | dN {a : Addr} {es : List (Ky × Addr × V)} {ds : List (Ky × D)} : H a = some (dN g.P g.w a es) → ok a → (∀ e ∈ es, NK H (.ref e.2.1) e.1 ∧ e.1.depth ≤ 8) → All2 (fun p q => p.1 = q.1 ∧ R p.2 q.2) (es.map fun e => (e.1, e.2.2)) ds → Cont R ok g H (.ref a) (.dct true ds)
theorem Cont.imp {R R' : V → D → Prop} {ok ok' : Addr → Prop} {g : Gx} {H : Hp} {x : V} {v : D} (h : Cont R ok g H x v) (f : ∀ x v, R x v → R' x v) (fo : ∀ a, ok a → ok' a) : Cont R' ok' g H x v := by
  cases h with
  | lst h o r => exact .lst h (fo _ o) (r.imp fun _ _ q => f _ _ q)
  | tup h o r => exact .tup h (fo _ o) (r.imp fun _ _ q => f _ _ q)
  | dK h o r => exact .dK h (fo _ o) (r.imp fun _ _ q => ⟨q.1, f _ _ q.2⟩)
  | dN h o k r => exact .dN h (fo _ o) k (r.imp fun _ _ q => ⟨q.1, f _ _ q.2⟩)
/-- n levels from the top may be live -/
def RepW (g : Gx) (L : Addr → Prop) (ρ : List Addr) (H : Hp) : Nat → V → D → Prop
  | 0 => Rep g L ρ H
  | n + 1 => fun x v => Rep g L ρ H x v ∨ Cont (RepW g L ρ H n) (fun a => a ∉ ρ) g H x v
theorem RepW.of {g : Gx} {L : Addr → Prop} {ρ : List Addr} {H : Hp} {x : V} {v : D} (h : Rep g L ρ H x v) : ∀ n, RepW g L ρ H n x v
  | 0 => h
  | _ + 1 => .inl h
theorem RepW.succ {g : Gx} {L : Addr → Prop} {ρ : List Addr} {H : Hp} : ∀ {n : Nat} {x : V} {v : D}, RepW g L ρ H n x v → RepW g L ρ H (n + 1) x v
  | 0, _, _, h => .inl h
  | n + 1, _, _, .inl h => .inl h
  | n + 1, _, _, .inr h => .inr (h.imp (fun _ _ q => RepW.succ q) fun _ q => q)

/-- a value that is one's own: A, the addresses that are -/
inductive OwnR (g : Gx) (L : Addr → Prop) (ρ : List Addr) (H : Hp) : Nat → List Addr → V → D → Prop
  | imm {n : Nat} {x : V} {v : D} : Rep g L ρ H x v → (n = 0 ∨ v.cont = false) → OwnR g L ρ H n [] x v
  | lst {n : Nat} {a : Addr} {xs : List V} {ds : List D} {As : List (List Addr)} : H a = some (.lst xs) → xs.length = ds.length → As.length = ds.length →
      (∀ (i : Nat) (x : V) (d : D) (A : List Addr), xs[i]? = some x → ds[i]? = some d → As[i]? = some A → OwnR g L ρ H n A x d) → OwnR g L ρ H (n + 1) (a :: As.flatten) (.ref a) (.lst ds)
  | dK {a : Addr} {kvs : List (Key × V)} {ds : List (Ky × D)} : H a = some (.dK kvs) → All2 (REnt g L ρ H) (kvs.map fun p => (kN p.1, p.2)) ds → OwnR g L ρ H 1 [a] (.ref a) (.dct false ds)
  | dN {a : Addr} {es : List (Ky × Addr × V)} {ds : List (Ky × D)} : H a = some (dN g.P g.w a es) → (∀ e ∈ es, NK H (.ref e.2.1) e.1 ∧ e.1.depth ≤ 8) → All2 (REnt g L ρ H) (es.map fun e => (e.1, e.2.2)) ds → OwnR g L ρ H 1 [a] (.ref a) (.dct true ds)

/-! ### states -/
def IsMut : HO → Prop
  | .lst _ => True
  | .dK _ => True
  | .ext _ => True
  | .ins _ _ _ => True
  | _ => False
/-- one slot; me: the instance that is being made -/
def SlotR (g : Gx) (me : Addr) (L : Addr → Prop) (ρ : List Addr) (H : Hp) (s : Slot) (o : Option V) (A : List Addr) : Prop := match s with
  | .no => A = []
  | .val v => A = [] ∧ ∃ x, o = some x ∧ Rep g L ρ H x v
  | .own d v => ∃ x, o = some x ∧ OwnR g L ρ H d A x v
  | .new c ds => o = some (.ref me) ∧ A = [me] ∧ ∃ (dx : Addr) (fs : List (Str × V)), H me = some (.ins (g.ca c) dx fs) ∧ All2 (Rep g L ρ H) (fs.map (·.2)) ds ∧ fs.map (·.1) = (g.flds c).take ds.length
/-- what stands about a run of a def: the caller's live things, the heap at its start, the cells then -/
structure Out where
  lo : Addr → Prop
  H0 : Hp
  ρ0 : List Addr
  me : Addr
/-- whose is what: A i, the addresses of slot i; ρ, those of the cells -/
structure Own (A : Nat → List Addr) (ρ : List Addr) (Lo : Out) (L : Addr → Prop) : Prop where
  nd : ∀ i, (A i).Nodup
  dj : ∀ i j a, a ∈ A i → a ∈ A j → i = j
  ndr : ρ.Nodup
  djr : ∀ i a, a ∈ A i → a ∉ ρ
  inL : ∀ i a, a ∈ A i → L a ∧ ¬ Lo.lo a ∧ Lo.H0 a = none
  inLr : ∀ a ∈ ρ, L a ∧ ¬ Lo.lo a
  out : ∀ a, Lo.lo a → L a
/-- the live things, told by the slots and the cells, stand -/
structure Sim (g : Gx) (Lo : Out) (L : Addr → Prop) (ρ : List Addr) (env : Env) (S : List D) (σ : L2.St) (H : Hp) : Prop where
  len : env.length = σ.length
  live : ∀ a, L a → ∃ o, H a = some o ∧ IsMut o
  own : ∃ A, Own A ρ Lo L ∧ ∀ i, SlotR g Lo.me L ρ H (env.getD i .no) ((σ[i]?).join) (A i)
  cells : All2 (fun a v => OwnR g L ρ H 1 [a] (.ref a) v) ρ S
  base : ∀ a o, Lo.H0 a = some o → a ∉ Lo.ρ0 → H a = some o
  pre : ∃ r, ρ = Lo.ρ0 ++ r ∧ ∀ a ∈ r, Lo.H0 a = none

/-- between two points of an expression: all but the cells' things stands -/
def Ev (ρ : List Addr) (H H' : Hp) : Prop := ∀ a o, H a = some o → a ∉ ρ → H' a = some o
theorem Ev.refl (ρ : List Addr) (H : Hp) : Ev ρ H H := fun _ _ h _ => h
theorem Ev.trans {ρ : List Addr} {H H1 H2 : Hp} (a : Ev ρ H H1) (b : Ev ρ H1 H2) : Ev ρ H H2 := fun c o h n => b c o (a c o h n) n
theorem Ev.new {ρ : List Addr} {H : Hp} {p : Addr} {o : HO} (n : H p = none) : Ev ρ H (upd H p o) := fun a u e _ => by
  rw [upd_ne (ne_of_none e n)]; exact e

theorem OwnR.mut {g : Gx} {L : Addr → Prop} {ρ : List Addr} {H : Hp} {n : Nat} {A : List Addr} {x : V} {v : D} (h : OwnR g L ρ H n A x v) : ∀ a ∈ A, ∃ o, H a = some o ∧ IsMut o := by
  induction h with
  | imm _ _ => intro a ha; cases ha
  | @lst n a xs ds As h1 hl hA r ih =>
    intro b hb
    rcases List.mem_cons.mp hb with rfl | hb
    · exact ⟨_, h1, True.intro⟩
    · obtain ⟨B, hB, hb⟩ := List.mem_flatten.mp hb
      obtain ⟨i, hi, e⟩ := List.getElem_of_mem hB
      have hi' : i < ds.length := hA ▸ hi
      have hx : i < xs.length := hl ▸ hi'
      exact ih i xs[i] ds[i] B (List.getElem?_eq_getElem hx) (List.getElem?_eq_getElem hi') (by rw [List.getElem?_eq_getElem hi, e]) b hb
  | dK h _ => intro b hb; simp at hb; subst hb; exact ⟨_, h, True.intro⟩
  | dN h _ _ => intro b hb; simp at hb; subst hb; exact ⟨_, h, True.intro⟩
theorem not_mut_tup {xs : List V} : ¬ IsMut (.tup xs) := fun h => h
theorem not_mut_frz {o : Obj} {u : HO} : ¬ IsMut (.frz o u) := fun h => h

section
variable {g : Gx} {L L' : Addr → Prop} {ρ ρ' : List Addr} {H H' : Hp}
theorem OwnR.keep (k : Keep L L' H H') (t : TupK H H') (hρ : ∀ (n : Nat) (a : Addr), ρ[n]? = some a → ρ'[n]? = some a) : ∀ {n : Nat} {A : List Addr} {x : V} {v : D}, OwnR g L ρ H n A x v → (∀ a ∈ A, ∀ o, H a = some o → H' a = some o) → OwnR g L' ρ' H' n A x v := by
  intro n A x v h
  induction h with
  | imm r z => intro _; exact .imm (r.keep k t hρ) z
  | @lst n a xs ds As h1 hl hA r ih =>
    intro hk
    refine .lst (hk a List.mem_cons_self _ h1) hl hA fun i x d A e1 e2 e3 => ih i x d A e1 e2 e3 fun b hb => hk b ?_
    exact List.mem_cons_of_mem _ (List.mem_flatten.mpr ⟨A, List.mem_of_getElem? e3, hb⟩)
  | dK h r => intro hk; exact .dK (hk _ (by simp) _ h) (r.imp fun _ _ q => ⟨q.1, q.2.keep k t hρ⟩)
  | dN h q r => intro hk; exact .dN (hk _ (by simp) _ h) (fun e he => ⟨(q e he).1.keep t, (q e he).2⟩) (r.imp fun _ _ q => ⟨q.1, q.2.keep k t hρ⟩)
end
theorem OwnR.frozen {g : Gx} {L : Addr → Prop} {ρ : List Addr} {H : Hp} : ∀ {n : Nat} {A : List Addr} {x : V} {v : D}, OwnR g L ρ H n A x v → (∀ a ∈ A, ¬ L a) → Rep g L ρ H x v := by
  intro n A x v h
  induction h with
  | imm r _ => intro _; exact r
  | @lst n a xs ds As h1 hl hA r ih =>
    intro hn
    refine .lst h1 (hn a List.mem_cons_self) (Reps.of ?_)
    have key : ∀ (xs : List V) (ds : List D) (As : List (List Addr)), xs.length = ds.length → As.length = ds.length → (∀ (i : Nat) (x : V) (d : D) (A : List Addr), xs[i]? = some x → ds[i]? = some d → As[i]? = some A → Rep g L ρ H x d) → All2 (Rep g L ρ H) xs ds := by
      intro xs
      induction xs with
      | nil => intro ds As h1 _ _; cases ds with
        | nil => exact .nil
        | cons _ _ => cases h1
      | cons x xs ihx => intro ds As h1 h2 h3; cases ds with
        | nil => cases h1
        | cons d ds => cases As with
          | nil => cases h2
          | cons A As => exact .cons (h3 0 x d A rfl rfl rfl) (ihx ds As (by simpa using h1) (by simpa using h2) fun i x d A e1 e2 e3 => h3 (i + 1) x d A (by simpa using e1) (by simpa using e2) (by simpa using e3))
    exact key xs ds As hl hA fun i x d A e1 e2 e3 => ih i x d A e1 e2 e3 fun b hb => hn b (List.mem_cons_of_mem _ (List.mem_flatten.mpr ⟨A, List.mem_of_getElem? e3, hb⟩))
  | dK h r => intro hn; exact .dK h (hn _ (by simp)) (RepP.of r)
  | dN h q r => intro hn; exact .dN h (hn _ (by simp)) q (RepP.of r)
theorem all2_mk {α β : Type} {R : α → β → Prop} : ∀ (xs : List α) (ds : List β), xs.length = ds.length → (∀ (i : Nat) (x : α) (d : β), xs[i]? = some x → ds[i]? = some d → R x d) → All2 R xs ds
  | [], [], _, _ => .nil
  | [], _ :: _, h, _ => by cases h
  | _ :: _, [], h, _ => by cases h
  | x :: xs, d :: ds, h, f => .cons (f 0 x d rfl rfl) (all2_mk xs ds (by simpa using h) fun i x d e1 e2 => f (i + 1) x d (by simpa using e1) (by simpa using e2))
/-- one's own, read -/
theorem OwnR.weak {g : Gx} {L : Addr → Prop} {ρ : List Addr} {H : Hp} : ∀ {n : Nat} {A : List Addr} {x : V} {v : D}, OwnR g L ρ H n A x v → (∀ a ∈ A, a ∉ ρ) → RepW g L ρ H n x v := by
  intro n A x v h
  induction h with
  | imm r _ => intro _; exact .of r _
  | @lst n a xs ds As h1 hl hA r ih =>
    intro z
    refine .inr (.lst h1 (z a List.mem_cons_self) (all2_mk xs ds hl fun i x d e1 e2 => ?_))
    have hi : i < As.length := by rw [hA]; exact (List.getElem?_eq_some_iff.mp e2).1
    have e3 := List.getElem?_eq_getElem hi
    exact ih i x d As[i] e1 e2 e3 fun b hb => z b (List.mem_cons_of_mem _ (List.mem_flatten.mpr ⟨_, List.mem_of_getElem? e3, hb⟩))
  | dK h r => intro z; exact .inr (.dK h (z _ (by simp)) r)
  | dN h q r => intro z; exact .inr (.dN h (z _ (by simp)) q r)
/-- a cell, read -/
theorem OwnR.cell {g : Gx} {L : Addr → Prop} {ρ : List Addr} {H : Hp} {A : List Addr} {x : V} {v : D} (h : OwnR g L ρ H 1 A x v) : Rep g L ρ H x v ∨ Cont (Rep g L ρ H) (fun _ => True) g H x v := by
  cases h with
  | imm r _ => exact .inl r
  | @lst n a xs ds As h1 hl hA r =>
    refine .inr (.lst h1 True.intro (all2_mk xs ds hl fun i x d e1 e2 => ?_))
    have hi : i < As.length := by rw [hA]; exact (List.getElem?_eq_some_iff.mp e2).1
    have q := r i x d As[i] e1 e2 (List.getElem?_eq_getElem hi)
    generalize As[i] = B at q
    cases q with
    | imm q _ => exact q
  | dK h r => exact .inr (.dK h True.intro r)
  | dN h q r => exact .inr (.dN h True.intro q r)
theorem SlotR.keep {g : Gx} {me : Addr} {L L' : Addr → Prop} {ρ ρ' : List Addr} {H H' : Hp} (k : Keep L L' H H') (t : TupK H H') (hρ : ∀ (n : Nat) (a : Addr), ρ[n]? = some a → ρ'[n]? = some a) {s : Slot} {o : Option V} {A : List Addr} (h : SlotR g me L ρ H s o A)
    (hk : ∀ a ∈ A, ∀ o, H a = some o → H' a = some o) : SlotR g me L' ρ' H' s o A := by
  cases s with
  | no => exact h
  | val v => obtain ⟨e, x, e1, r⟩ := h; exact ⟨e, x, e1, r.keep k t hρ⟩
  | own d v =>
    obtain ⟨x, e1, r⟩ := h
    exact ⟨x, e1, r.keep k t hρ hk⟩
  | new c ds =>
    obtain ⟨e1, e2, dx, fs, h1, r, e3⟩ := h
    exact ⟨e1, e2, dx, fs, hk _ (by rw [e2]; simp) _ h1, r.imp fun _ _ q => q.keep k t hρ, e3⟩

/-! ### the state behind a step of an expression -/
section
variable {g : Gx} {Lo : Out} {L : Addr → Prop} {ρ : List Addr} {env : Env} {S S' : List D} {σ : L2.St} {H H' : Hp}
theorem Sim.cellMut (s : Sim g Lo L ρ env S σ H) {a : Addr} (ha : a ∈ ρ) : ∃ o, H a = some o ∧ IsMut o := by
  obtain ⟨i, hi, e⟩ := List.getElem_of_mem ha
  obtain ⟨v, _, r⟩ := s.cells.getL (List.getElem?_eq_getElem hi)
  rw [e] at r
  exact r.mut a (by simp)
theorem Sim.inL (s : Sim g Lo L ρ env S σ H) {a : Addr} (ha : a ∈ ρ) : L a := by
  obtain ⟨A, o, _⟩ := s.own
  exact (o.inLr a ha).1
theorem Ev.tup (s : Sim g Lo L ρ env S σ H) (e : Ev ρ H H') : TupK H H' := fun a xs h => e a _ h fun ha => by
    obtain ⟨o', h', m⟩ := s.cellMut ha
    rw [h] at h'; cases h'
    exact not_mut_tup m
theorem Ev.keepL (s : Sim g Lo L ρ env S σ H) (e : Ev ρ H H') : Keep L L H H' := fun a o h n => ⟨e a o h fun ha => n (s.inL ha), n⟩
theorem Ev.rep (s : Sim g Lo L ρ env S σ H) (e : Ev ρ H H') {x : V} {v : D} (r : Rep g L ρ H x v) : Rep g L ρ H' x v := r.keep (e.keepL s) (e.tup s) fun _ _ h => h
theorem Ev.none {ρ : List Addr} {H H' : Hp} (e : Ev ρ H H') {a : Addr} (h : H' a = .none) (n : a ∉ ρ) : H a = .none := by
  cases q : H a with
  | none => rfl
  | some o => rw [e a o q n] at h; cases h
theorem Sim.ev (s : Sim g Lo L ρ env S σ H) (e : Ev ρ H H') (c : All2 (fun a v => OwnR g L ρ H' 1 [a] (.ref a) v) ρ S') : Sim g Lo L ρ env S' σ H' := by
  refine ⟨s.len, fun a ha => ?_, ?_, c, fun a o h n => ?_, s.pre⟩
  · by_cases hr : a ∈ ρ
    · obtain ⟨i, hi, e1⟩ := List.getElem_of_mem hr
      obtain ⟨v, _, r⟩ := c.getL (List.getElem?_eq_getElem hi)
      rw [e1] at r
      exact r.mut a (by simp)
    · obtain ⟨o, q, m⟩ := s.live a ha
      exact ⟨o, e a o q hr, m⟩
  · obtain ⟨A, o, sl⟩ := s.own
    exact ⟨A, o, fun i => (sl i).keep (e.keepL s) (e.tup s) (fun _ _ h => h) fun a ha u hu => e a u hu (o.djr i a ha)⟩
  · refine e a o (s.base a o h n) fun hr => ?_
    obtain ⟨r, e1, e2⟩ := s.pre
    rw [e1] at hr
    rcases List.mem_append.mp hr with hr | hr
    · exact n hr
    · rw [e2 a hr] at h; cases h
/-- a new thing is laid -/
theorem Sim.new (s : Sim g Lo L ρ env S σ H) {p : Addr} {o : HO} (n : H p = none) : Sim g Lo L ρ env S σ (upd H p o) :=
  s.ev (Ev.new n) (s.cells.imp fun a v r => r.keep ((Ev.new n).keepL s) ((Ev.new n).tup s) (fun _ _ h => h) fun b hb u hu => by rw [upd_ne (ne_of_none hu n)]; exact hu)
theorem Sim.nlive (s : Sim g Lo L ρ env S σ H) {p : Addr} (n : H p = none) : ¬ L p := fun h => by
  obtain ⟨o, q, _⟩ := s.live p h
  rw [n] at q; cases q
theorem Sim.ntup (s : Sim g Lo L ρ env S σ H) {p : Addr} {xs : List V} (n : H p = some (.tup xs)) : ¬ L p := fun h => by
  obtain ⟨o, q, m⟩ := s.live p h
  rw [n] at q; cases q
  exact not_mut_tup m
end

/-! ### what an evaluation promises -/
inductive Mode where
  | weak (n : Nat) | fresh (n : Nat)
def Mode.upTo (m : Mode) (n : Nat) : Prop := match m with
  | .weak k => k ≤ n
  | .fresh _ => True
/-- .. and those of A -/
def orL (L : Addr → Prop) (A : List Addr) : Addr → Prop := fun a => L a ∨ a ∈ A
theorem orL_nil {L : Addr → Prop} : orL L [] = L := funext fun a => propext ⟨fun h => h.elim id (fun z => by cases z), Or.inl⟩
theorem keep_offL {L : Addr → Prop} {H : Hp} {B : List Addr} : Keep (orL L B) L H H := fun a o e na => ⟨e, fun h => na (.inl h)⟩
theorem OwnR.offL {g : Gx} {L : Addr → Prop} {ρ : List Addr} {H : Hp} {n : Nat} {A B : List Addr} {x : V} {v : D} (r : OwnR g (orL L B) ρ H n A x v) : OwnR g L ρ H n A x v := r.keep keep_offL (fun _ _ h => h) (fun _ _ h => h) fun _ _ _ h => h
theorem OwnR.imm0 {g : Gx} {L : Addr → Prop} {ρ : List Addr} {H : Hp} {n : Nat} {x : V} {v : D} (r : Rep g L ρ H x v) (z : n = 0 ∨ v.cont = false) : OwnR g (orL L []) ρ H n [] x v := .imm (orL_nil ▸ r) z
theorem keep_new {L : Addr → Prop} {H : Hp} {p : Addr} {o : HO} {A : List Addr} (n : H p = none) (hA : ∀ a ∈ A, a = p) : Keep L (orL L A) H (upd H p o) := fun a u e na => ⟨by rw [upd_ne (ne_of_none e n)]; exact e, fun h => h.elim na fun z => ne_of_none e n (hA a z)⟩
theorem Rep.new {g : Gx} {L : Addr → Prop} {ρ : List Addr} {H : Hp} {p : Addr} {o : HO} {A : List Addr} {x : V} {v : D} (r : Rep g L ρ H x v) (n : H p = none) (hA : ∀ a ∈ A, a = p) : Rep g (orL L A) ρ (upd H p o) x v :=
  r.keep (keep_new n hA) (fun a xs e => by rw [upd_ne (ne_of_none e n)]; exact e) fun _ _ h => h
/-- the cells -/
abbrev CellsR (g : Gx) (L : Addr → Prop) (ρ : List Addr) (H : Hp) (S : List D) : Prop := All2 (fun a v => OwnR g L ρ H 1 [a] (.ref a) v) ρ S
/-- how a result lies: H0, the heap ahead -/
def RM (g : Gx) (L : Addr → Prop) (ρ : List Addr) (H0 H : Hp) (S : List D) (m : Mode) (x : V) (v : D) : Prop := match m with
  | .weak n => RepW g L ρ H n x v
  | .fresh n => ∃ A, OwnR g (orL L A) ρ H n A x v ∧ A.Nodup ∧ (∀ a ∈ A, H0 a = none) ∧ CellsR g (orL L A) ρ H S
/-- an exception's own dict -/
def XRep (g : Gx) (L : Addr → Prop) (ρ : List Addr) (H : Hp) (d : Option Addr) (fs : List D) : Prop :=
  (fs = [] ∧ d = none) ∨ ∃ (a : Addr) (xs : List (Str × V)), d = some a ∧ H a = some (.xd xs) ∧ All2 (Rep g L ρ H) (xs.map (·.2)) fs ∧ fs ≠ []
/-- an expression's promise -/
def tE (g : Gx) (Lo : Out) (W : WX) (m : Mode) (f : Env → List D → Res D) : TE := fun σ H Q => ∃ L ρ env S, Sim g Lo L ρ env S σ H ∧ match f env S with
  | .ok v S' => ∀ x H', Ev ρ H H' → Sim g Lo L ρ env S' σ H' → RM g L ρ H H' S' m x v → Q x H'
  | .exc c fs S' => ∀ d H', Ev ρ H H' → Sim g Lo L ρ env S' σ H' → XRep g L ρ H' d fs → W (.ref (g.ca c)) d σ H'
  | .stuck => False
def tT (g : Gx) (Lo : Out) (W : WX) (f : Env → List D → Res D) : TT := fun σ H Q => ∃ L ρ env S, Sim g Lo L ρ env S σ H ∧ match f env S with
  | .ok v S' => ∀ b H', Ev ρ H H' → Sim g Lo L ρ env S' σ H' → v = .bl b → Q b H'
  | .exc c fs S' => ∀ d H', Ev ρ H H' → Sim g Lo L ρ env S' σ H' → XRep g L ρ H' d fs → W (.ref (g.ca c)) d σ H'
  | .stuck => False
def tA (g : Gx) (Lo : Out) (W : WX) (n : Nat) (f : Env → List D → Res (List D)) : TA := fun σ H Q => ∃ L ρ env S, Sim g Lo L ρ env S σ H ∧ match f env S with
  | .ok vs S' => ∀ xs H', Ev ρ H H' → Sim g Lo L ρ env S' σ H' → All2 (RepW g L ρ H' n) xs vs → Q xs H'
  | .exc c fs S' => ∀ d H', Ev ρ H H' → Sim g Lo L ρ env S' σ H' → XRep g L ρ H' d fs → W (.ref (g.ca c)) d σ H'
  | .stuck => False

section
variable {g : Gx} {Lo : Out} {L : Addr → Prop} {ρ : List Addr} {env : Env} {S S' : List D} {σ : L2.St} {H H' H'' : Hp}
theorem Ev.rd {o : HO} {a : Addr} (e : Ev ρ H H') (n : a ∉ ρ) (h : Rd H a o) : Rd H' a o := by
  rcases h with h | ⟨q, h⟩
  · exact .inl (e a _ h n)
  · exact .inr ⟨q, e a _ h n⟩
theorem RepW.ev (s : Sim g Lo L ρ env S σ H) (e : Ev ρ H H') : ∀ {n : Nat} {x : V} {v : D}, RepW g L ρ H n x v → RepW g L ρ H' n x v
  | 0, _, _, h => e.rep s h
  | n + 1, _, _, .inl h => .inl (e.rep s h)
  | n + 1, _, _, .inr h => .inr (by
    have h := h.imp (R' := RepW g L ρ H' n) (fun _ _ q => RepW.ev s e q) fun _ q => q
    cases h with
    | lst q o r => exact .lst (e _ _ q o) o r
    | tup q o r => exact .tup (e _ _ q o) o r
    | dK q o r => exact .dK (e _ _ q o) o r
    | dN q o k r => exact .dN (e _ _ q o) o (fun z hz => ⟨(k z hz).1.keep (e.tup s), (k z hz).2⟩) r)
/-- to be read -/
def RepR (g : Gx) (L : Addr → Prop) (ρ : List Addr) (H : Hp) (n : Nat) (x : V) (v : D) : Prop := Rep g L ρ H x v ∨ Cont (RepW g L ρ H n) (fun _ => True) g H x v
theorem Sim.read (s : Sim g Lo L ρ env S σ H) {n : Nat} {x : V} {v v' : D} (h : RepW g L ρ H n x v) (e : dr S v = some v') : RepR g L ρ H (n - 1) x v' := by
  have key : Rep g L ρ H x v → RepR g L ρ H (n - 1) x v' := fun h => by
    cases h with
    | ref q =>
      obtain ⟨w, h1, h2⟩ := s.cells.getL q
      have e' : S[_]? = some v' := e
      rw [h1] at e'
      have e' := Option.some.inj e'
      subst e'
      rcases h2.cell with r | r
      · exact .inl r
      · exact .inr (r.imp (fun _ _ q => .of q _) fun _ q => q)
    | non => cases e; exact .inl .non
    | bl b => cases e; exact .inl (.bl b)
    | int b => cases e; exact .inl (.int b)
    | str b => cases e; exact .inl (.str b)
    | tup a b c => cases e; exact .inl (.tup a b c)
    | lst a b c => cases e; exact .inl (.lst a b c)
    | dK a b c => cases e; exact .inl (.dK a b c)
    | dN a b c d => cases e; exact .inl (.dN a b c d)
    | ins a b c d => cases e; exact .inl (.ins a b c d)
    | fn f => cases e; exact .inl (.fn f)
    | scr a => cases e; exact .inl (.scr a)
  cases n with
  | zero => exact key h
  | succ n =>
    rcases h with h | h
    · exact key h
    · refine .inr ?_
      have h := h.imp (ok' := fun _ => True) (fun _ _ q => q) fun _ _ => True.intro
      cases h with
      | lst a b c => cases e; exact .lst a b c
      | tup a b c => cases e; exact .tup a b c
      | dK a b c => cases e; exact .dK a b c
      | dN a b c d => cases e; exact .dN a b c d
/-- what is read is a container -/
theorem RepR.lst {n : Nat} {x : V} {ds : List D} (h : RepR g L ρ H n x (.lst ds)) : ∃ a xs, x = .ref a ∧ H a = some (.lst xs) ∧ All2 (RepW g L ρ H n) xs ds := by
  rcases h with h | h
  · cases h with
    | lst h n r => exact ⟨_, _, rfl, h, r.all2.imp fun _ _ q => .of q _⟩
  · cases h with
    | lst h n r => exact ⟨_, _, rfl, h, r⟩
theorem RepR.tup {n : Nat} {x : V} {ds : List D} (h : RepR g L ρ H n x (.tup ds)) : ∃ a xs, x = .ref a ∧ H a = some (.tup xs) ∧ All2 (RepW g L ρ H n) xs ds := by
  rcases h with h | h
  · cases h with
    | tup h n r => exact ⟨_, _, rfl, h, r.all2.imp fun _ _ q => .of q _⟩
  · cases h with
    | tup h n r => exact ⟨_, _, rfl, h, r⟩
theorem RepR.dK {n : Nat} {x : V} {ds : List (Ky × D)} (h : RepR g L ρ H n x (.dct false ds)) : ∃ a kvs, x = .ref a ∧ H a = some (.dK kvs) ∧ All2 (fun p q => p.1 = q.1 ∧ RepW g L ρ H n p.2 q.2) (kvs.map fun p => (kN p.1, p.2)) ds := by
  rcases h with h | h
  · cases h with
    | dK h n r => exact ⟨_, _, rfl, h, r.all2.imp fun _ _ q => ⟨q.1, .of q.2 _⟩⟩
  · cases h with
    | dK h n r => exact ⟨_, _, rfl, h, r⟩
theorem RepR.dN {n : Nat} {x : V} {ds : List (Ky × D)} (h : RepR g L ρ H n x (.dct true ds)) : ∃ a es, x = .ref a ∧ H a = some (BP.dN g.P g.w a es) ∧ (∀ e ∈ es, NK H (.ref e.2.1) e.1 ∧ e.1.depth ≤ 8) ∧ All2 (fun p q => p.1 = q.1 ∧ RepW g L ρ H n p.2 q.2) (es.map fun e => (e.1, e.2.2)) ds := by
  rcases h with h | h
  · cases h with
    | dN h n k r => exact ⟨_, _, rfl, h, k, r.all2.imp fun _ _ q => ⟨q.1, .of q.2 _⟩⟩
  · cases h with
    | dN h n k r => exact ⟨_, _, rfl, h, k, r⟩
theorem RepR.int {n : Nat} {x : V} {i : Int} (h : RepR g L ρ H n x (.int i)) : x = .int i := by
  rcases h with h | h
  · cases h; rfl
  · cases h
theorem RepR.bl {n : Nat} {x : V} {i : Bool} (h : RepR g L ρ H n x (.bl i)) : x = .bl i := by
  rcases h with h | h
  · cases h; rfl
  · cases h
/-- the cells, with more that is live -/
theorem CellsR.wide {L2 : Addr → Prop} (c : CellsR g L ρ H S) (h : ∀ a o, H a = some o → ¬ L a → ¬ L2 a) : CellsR g L2 ρ H S := c.imp fun _ _ r => r.keep (fun a o e n => ⟨e, h a o e n⟩) (fun _ _ e => e) (fun _ _ e => e) fun _ _ _ e => e
theorem CellsR.nil (c : CellsR g L ρ H S) : CellsR g (orL L []) ρ H S := c.wide fun a _ _ n q => q.elim n fun z => by cases z
/-- a new thing: its address is in no cell -/
theorem Sim.newCells (s : Sim g Lo L ρ env S σ H) {p : Addr} {o : HO} (n : H p = none) {A : List Addr} (hA : ∀ a ∈ A, a = p) : CellsR g (orL L A) ρ (upd H p o) S :=
  s.cells.imp fun _ _ r => r.keep (fun a u e na => ⟨by rw [upd_ne (ne_of_none e n)]; exact e, fun q => q.elim na fun z => ne_of_none e n (hA a z)⟩) ((Ev.new n).tup s) (fun _ _ e => e) fun a ha u e => by
    rw [upd_ne (ne_of_none e n)]; exact e
/-- a fresh thing is a thing -/
theorem RM.weaken (s : Sim g Lo L ρ env S σ H) {m : Mode} {x : V} {v : D} {H1 : Hp} {S1 : List D} (h : RM g L ρ H H1 S1 m x v) (n : Nat) (hm : m.upTo n) : RM g L ρ H H1 S1 (.weak n) x v := by
  cases m with
  | weak k =>
    have up : ∀ d, RepW g L ρ H1 (k + d) x v := by
      intro d
      induction d with
      | zero => exact h
      | succ d ih => exact ih.succ
    have e : k + (n - k) = n := by have : k ≤ n := hm; omega
    have := up (n - k)
    rw [e] at this
    exact this
  | fresh k =>
    obtain ⟨A, o, _, z, _⟩ := h
    exact .of (o.offL.frozen fun a ha => s.nlive (z a ha)) _
end
end BP
end

section
set_option autoImplicit false
set_option linter.all false
set_option maxRecDepth 100000
/-! BPs: expressions keep their promises. -/
namespace BP
open PySem PySem.Spec PyProof.Rows L2

theorem _root_.L2.PE.sub {X : Cx} {e : Expr} {t t' : TE} (h : PE X e t) (i : ∀ σ H Q, t' σ H Q → t σ H Q) : PE X e t' := ⟨fun p s σ H Q I q => h.run p s σ H Q I (i σ H Q q)⟩
theorem _root_.L2.PT.sub {X : Cx} {e : Expr} {t t' : TT} (h : PT X e t) (i : ∀ σ H Q, t' σ H Q → t σ H Q) : PT X e t' := ⟨fun p s σ H Q I q => h.run p s σ H Q I (i σ H Q q)⟩
theorem _root_.L2.PW.sub {X : Cx} {e : Expr} {t t' : TT} (h : PW X e t) (i : ∀ σ H Q, t' σ H Q → t σ H Q) : PW X e t' := ⟨fun wh p s σ H Q I q => h.run wh p s σ H Q I (i σ H Q q)⟩
theorem _root_.L2.PS.sub {X : Cx} {e : Stmt} {t t' : TS} (h : PS X e t) (i : ∀ D σ H, t' D σ H → t D σ H) : PS X e t' := ⟨fun p s σ H Q I q => h.run p s σ H Q I (i Q σ H q)⟩
theorem _root_.L2.PSs.sub {X : Cx} {e : List Stmt} {t t' : TS} (h : PSs X e t) (i : ∀ D σ H, t' D σ H → t D σ H) : PSs X e t' := ⟨fun p s σ H Q I q => h.run p s σ H Q I (i Q σ H q)⟩
theorem _root_.L2.PA.sub {X : Cx} {e : List Expr} {t t' : TA} (h : PA X e t) (i : ∀ σ H Q, t' σ H Q → t σ H Q) : PA X e t' := ⟨fun po p s σ H Q I q => h.run po p s σ H Q I (i σ H Q q)⟩
theorem _root_.L2.PI.sub {X : Cx} {tg e : Expr} {t t' : TI} (h : PI X tg e t) (i : ∀ σ H Q, t' σ H Q → t σ H Q) : PI X tg e t' := ⟨fun p s σ H Q I q => h.run p s σ H Q I (i σ H Q q)⟩
theorem _root_.L2.PG.sub {X : Cx} {e : Expr} {t t' : TG} (h : PG X e t) (i : ∀ v σ H Q, t' v σ H Q → t v σ H Q) : PG X e t' := ⟨fun p s σ H v u Q I r q => h.run p s σ H v u Q I r (i v σ H Q q)⟩

/-- the names of a block's scope as its environment has them -/
def ScOk (sc sx : Scope) : Prop := ∀ x k, sc.names.lookup x = some k → sx.names.lookup x = some k ∨ (k = .free ∧ sx.names.lookup x = some .cell)
/-- where a text runs -/
structure Cok (g : Gx) (X : Cx) (N : List Str) (sc : Scope) (k : Nat) (W : WX) : Prop where
  prog : X.prog = g.P
  w : X.w = g.w
  K : X.K = g.K
  nm : X.N = N
  nd : N.Nodup
  calm : X.calm = true
  room : Room k X.A
  vis : ScOk sc X.env.scope
  fn : ∀ x, sc.names.lookup x = some .cell → X.fn x = true
  tk : Takes X W
  pass : PassesOwn (model X.prog X.w) X.A X.env X.xe
theorem Cok.hu {g : Gx} {X : Cx} {N : List Str} {sc : Scope} {k : Nat} {W : WX} (c : Cok g X N sc k W) : X.A.units + 200 < cLine := by have := c.room.un; omega

/-- what is left to do at H, begun at H0 -/
def Fin {α : Type} (g : Gx) (Lo : Out) (W : WX) (L : Addr → Prop) (ρ : List Addr) (env : Env) (σ : L2.St) (ok : α → List D → Hp → Prop) (r : Res α) (H : Hp) : Prop := match r with
  | .ok v S' => ∀ H', Ev ρ H H' → Sim g Lo L ρ env S' σ H' → ok v S' H'
  | .exc c fs S' => ∀ d H', Ev ρ H H' → Sim g Lo L ρ env S' σ H' → XRep g L ρ H' d fs → W (.ref (g.ca c)) d σ H'
  | .stuck => False
section
variable {g : Gx} {Lo : Out} {L : Addr → Prop} {W : WX} {ρ : List Addr} {env : Env} {S S' : List D} {σ : L2.St} {H H0 H1 H' : Hp} {Q : VK} {m : Mode}
theorem Fin.mono {α : Type} {ok : α → List D → Hp → Prop} {r : Res α} (h : Fin g Lo W L ρ env σ ok r H) (e : Ev ρ H H') : Fin g Lo W L ρ env σ ok r H' := by
  cases r with
  | ok v S' => exact fun H1 e1 => h H1 (e.trans e1)
  | exc c fs S' => exact fun d H1 e1 => h d H1 (e.trans e1)
  | stuck => exact h
theorem Fin.bind {α β : Type} {ok : β → List D → Hp → Prop} {r : Res α} {f : α → List D → Res β} (h : Fin g Lo W L ρ env σ ok (r.bind f) H) : Fin g Lo W L ρ env σ (fun v S' H' => Ev ρ H H' ∧ Sim g Lo L ρ env S' σ H' ∧ Fin g Lo W L ρ env σ ok (f v S') H') r H := by
  cases r with
  | ok v S' => exact fun H1 e1 s1 => ⟨e1, s1, Fin.mono (r := f v S') h e1⟩
  | exc c fs S' => exact h
  | stuck => exact h
theorem Fin.imp {α : Type} {ok ok' : α → List D → Hp → Prop} {r : Res α} (h : Fin g Lo W L ρ env σ ok r H) (i : ∀ v S' H', ok v S' H' → ok' v S' H') : Fin g Lo W L ρ env σ ok' r H := by
  cases r with
  | ok v S' => exact fun H1 e1 s1 => i _ _ _ (h H1 e1 s1)
  | exc c fs S' => exact h
  | stuck => exact h
/-- the end -/
theorem Fin.ok {α : Type} {ok : α → List D → Hp → Prop} {v : α} (h : Fin g Lo W L ρ env σ ok (.ok v S) H) (s : Sim g Lo L ρ env S σ H) : ok v S H := h H (.refl _ _) s
abbrev okE (g : Gx) (L : Addr → Prop) (ρ : List Addr) (H0 : Hp) (m : Mode) (Q : VK) : D → List D → Hp → Prop := fun v S' H' => ∀ x, RM g L ρ H0 H' S' m x v → Q x H'
theorem tE_of {f : Env → List D → Res D} (s : Sim g Lo L ρ env S σ H) (h : Fin g Lo W L ρ env σ (okE g L ρ H m Q) (f env S) H) : tE g Lo W m f σ H Q := by
  refine ⟨L, ρ, env, S, s, ?_⟩
  unfold Fin okE at h
  cases q : f env S with
  | ok v S' => rw [q] at h; exact fun x H' e s' r => h H' e s' x r
  | exc c fs S' => rw [q] at h; exact h
  | stuck => rw [q] at h; exact h
theorem tE_to {f : Env → List D → Res D} (h : tE g Lo W m f σ H Q) : ∃ L ρ env S, Sim g Lo L ρ env S σ H ∧ Fin g Lo W L ρ env σ (okE g L ρ H m Q) (f env S) H := by
  obtain ⟨L, ρ, env, S, s, h⟩ := h
  refine ⟨L, ρ, env, S, s, ?_⟩
  unfold Fin okE
  cases q : f env S with
  | ok v S' => rw [q] at h; exact fun H' e s' x r => h x H' e s' r
  | exc c fs S' => rw [q] at h; exact h
  | stuck => rw [q] at h; exact h
/-- one part is evaluated -/
theorem part {β : Type} {ok : β → List D → Hp → Prop} {f : Env → List D → Res D} {k : D → List D → Res β} {R : VK} (s : Sim g Lo L ρ env S σ H) (h : Fin g Lo W L ρ env σ ok ((f env S).bind k) H)
    (n : ∀ x v S1 H1, Ev ρ H H1 → Sim g Lo L ρ env S1 σ H1 → RM g L ρ H H1 S1 m x v → Fin g Lo W L ρ env σ ok (k v S1) H1 → R x H1) : tE g Lo W m f σ H R :=
  tE_of s (h.bind.imp fun v S1 H1 ⟨e, s1, h1⟩ x r => n x v S1 H1 e s1 r h1)
theorem two {β : Type} {ok : β → List D → Hp → Prop} {fa fb : Env → List D → Res D} {k : D → D → List D → Res β} {R : V → V → Hp → Prop} {na nb : Nat} (s : Sim g Lo L ρ env S σ H) (h : Fin g Lo W L ρ env σ ok ((fa env S).bind fun x S => (fb env S).bind fun y S => k x y S) H)
    (n : ∀ x y v w S2 H2, Ev ρ H H2 → Sim g Lo L ρ env S2 σ H2 → RepW g L ρ H2 na x v → RepW g L ρ H2 nb y w → Fin g Lo W L ρ env σ ok (k v w S2) H2 → R x y H2) : tE g Lo W (.weak na) fa σ H fun x H1 => tE g Lo W (.weak nb) fb σ H1 fun y H2 => R x y H2 :=
  part s h fun x v S1 H1 e1 s1 r1 h1 => part s1 h1 fun y w S2 H2 e2 s2 r2 h2 => n x y v w S2 H2 (e1.trans e2) s2 (RepW.ev s1 e2 r1) r2 h2
theorem Fin.opt {α : Type} {ok : α → List D → Hp → Prop} {o : Option α} (h : Fin g Lo W L ρ env σ ok (Res.opt o S) H) : ∃ v, o = some v ∧ Fin g Lo W L ρ env σ ok (.ok v S) H := by
  cases o with
  | some v => exact ⟨v, rfl, h⟩
  | none => exact h.elim
/-- a new thing is handed out -/
theorem newF {o : HO} {v : D} {n : Nat} (s : Sim g Lo L ρ env S σ H1) (e : Ev ρ H0 H1) (h : Fin g Lo W L ρ env σ (okE g L ρ H0 (.fresh n) Q) (.ok v S) H1)
    (own : ∀ p, H1 p = none → ∃ A, OwnR g (orL L A) ρ (upd H1 p o) n A (.ref p) v ∧ A.Nodup ∧ ∀ a ∈ A, a = p) : ∀ p, H1 p = none → Q (.ref p) (upd H1 p o) := fun p hp => by
  obtain ⟨A, h1, h2, h3⟩ := own p hp
  have np : p ∉ ρ := fun hr => s.nlive hp (s.inL hr)
  exact h (upd H1 p o) (Ev.new hp) (s.new hp) (.ref p) ⟨A, h1, h2, fun a ha => by rw [h3 a ha]; exact e.none hp np, s.newCells hp h3⟩
/-- a new list of things -/
theorem own_lst {p : Addr} {xs : List V} {ds : List D} (s : Sim g Lo L ρ env S σ H1) (hp : H1 p = none) (r : All2 (Rep g L ρ H1) xs ds) : OwnR g (orL L [p]) ρ (upd H1 p (.lst xs)) 1 [p] (.ref p) (.lst ds) := by
  have r' := r.imp (R' := Rep g (orL L [p]) ρ (upd H1 p (.lst xs))) fun _ _ q => q.new hp (by simp)
  have e : ([p] : List Addr) = p :: (List.replicate ds.length ([] : List Addr)).flatten := by
    rw [List.flatten_replicate_nil]
  suffices q : OwnR g (orL L [p]) ρ (upd H1 p (.lst xs)) 1 (p :: (List.replicate ds.length ([] : List Addr)).flatten) (.ref p) (.lst ds) from e.symm ▸ q
  refine .lst (n := 0) upd_same r.length (by simp) fun i x d A e1 e2 e3 => ?_
  have : A = [] := by
    have := List.mem_of_getElem? e3
    exact (List.mem_replicate.mp this).2
  subst this
  obtain ⟨d', e4, q⟩ := r'.getL e1
  rw [e2] at e4
  cases e4
  exact .imm q (.inl rfl)
theorem newLst {xs : List V} {ds : List D} (s : Sim g Lo L ρ env S σ H1) (e : Ev ρ H0 H1) (h : Fin g Lo W L ρ env σ (okE g L ρ H0 (.fresh 1) Q) (.ok (.lst ds) S) H1) (r : All2 (Rep g L ρ H1) xs ds) : ∀ p, H1 p = none → Q (.ref p) (upd H1 p (.lst xs)) :=
  newF s e h fun p hp => ⟨[p], own_lst s hp r, by simp, fun a ha => by simpa using ha⟩
theorem newTup {xs : List V} {ds : List D} {n : Nat} (s : Sim g Lo L ρ env S σ H1) (e : Ev ρ H0 H1) (h : Fin g Lo W L ρ env σ (okE g L ρ H0 (.fresh n) Q) (.ok (.tup ds) S) H1) (r : All2 (Rep g L ρ H1) xs ds) : ∀ p, H1 p = none → Q (.ref p) (upd H1 p (.tup xs)) :=
  newF s e h fun p hp => ⟨[], .imm0 (.tup upd_same (s.nlive hp) (Reps.of (r.imp fun _ _ q => (Ev.new hp).rep s q))) (.inr rfl), by simp, fun a ha => by cases ha⟩
/-- a thing that there is -/
theorem oldF {x : V} {v : D} {n : Nat} (s : Sim g Lo L ρ env S σ H1) (h : Fin g Lo W L ρ env σ (okE g L ρ H0 (.fresh n) Q) (.ok v S) H1) (r : Rep g L ρ H1 x v) (z : n = 0 ∨ v.cont = false := by exact .inr rfl) : Q x H1 := h.ok s x ⟨[], .imm0 r z, by simp, (fun a ha => by cases ha), CellsR.nil s.cells⟩
theorem oldW {x : V} {v : D} {n : Nat} (s : Sim g Lo L ρ env S σ H1) (h : Fin g Lo W L ρ env σ (okE g L ρ H0 (.weak n) Q) (.ok v S) H1) (r : RepW g L ρ H1 n x v) : Q x H1 := h.ok s x r
end

section
variable {g : Gx} {Lo : Out} {W : WX} {X : Cx} {N : List Str} {sc : Scope} {k : Nat} {a b c : Expr} {pos : Pos} {fa fb fc : Env → List D → Res D}
abbrev PEm (g : Gx) (Lo : Out) (W : WX) (X : Cx) (m : Mode) (a : Expr) (f : Env → List D → Res D) : Prop := PE X a (tE g Lo W m f)

/-! ### operators -/
def opA : Bop → Operator
  | .add => .Add | .sub => .Sub | .mul => .Mult | .fdiv => .FloorDiv | .mod => .Mod | .pow => .Pow | .xor => .BitXor
theorem lim_eq : (lim : Nat) = sizeLine := by rw [sizeLine_eq]; rfl
theorem two_w {W : WX} {L : Addr → Prop} {ρ : List Addr} {env : Env} {S : List D} {σ : L2.St} {H : Hp} {Q : VK} {o : Bop} (s : Sim g Lo L ρ env S σ H) (h : Fin g Lo W L ρ env σ (okE g L ρ H (.fresh 1) Q) (binF o fa fb env S) H) {R : V → V → Hp → Prop}
    (n : ∀ x y v w z S2 H2, Ev ρ H H2 → Sim g Lo L ρ env S2 σ H2 → RepR g L ρ H2 0 x v → RepR g L ρ H2 0 y w → binD o v w = some z → Fin g Lo W L ρ env σ (okE g L ρ H (.fresh 1) Q) (.ok z S2) H2 → R x y H2) : tE g Lo W (.weak 1) fa σ H fun x H1 => tE g Lo W (.weak 1) fb σ H1 fun y H2 => R x y H2 :=
  two s h fun x y v w S2 H2 e s2 r1 r2 h2 => by
    obtain ⟨z, e1, h2⟩ := h2.opt
    obtain ⟨v', e2, e1⟩ := Option.bind_eq_some_iff.mp e1
    obtain ⟨w', e3, e1⟩ := Option.bind_eq_some_iff.mp e1
    exact n x y v' w' z S2 H2 e s2 (s2.read r1 e2) (s2.read r2 e3) e1 h2
theorem pe_binary {op : Operator} {r : R2} {o : Bop} (ho : OpR X (binaryOp op) r) (ha : PEm g Lo W X (.weak 1) a fa) (hb : PEm g Lo W X (.weak 1) b fb)
    (n : ∀ (L : Addr → Prop) (ρ : List Addr) (env : Env) (σ : L2.St) (H : Hp) (Q : VK) (x y : V) (v w z : D) (S2 : List D) (H2 : Hp), Ev ρ H H2 → Sim g Lo L ρ env S2 σ H2 → RepR g L ρ H2 0 x v → RepR g L ρ H2 0 y w → binD o v w = some z →
      Fin g Lo W L ρ env σ (okE g L ρ H (.fresh 1) Q) (.ok z S2) H2 → r x y H2 Q) : PEm g Lo W X (.fresh 1) (.BinOp a op b pos) (binF o fa fb) := by
  refine (pe_op ho ha hb).sub fun σ H Q h => ?_
  obtain ⟨L, ρ, env, S, s, h⟩ := tE_to h
  exact two_w s h fun x y v w z S2 H2 e s2 r1 r2 e1 h2 => n L ρ env σ H Q x y v w z S2 H2 e s2 r1 r2 e1 h2
theorem RepR.tupS {g : Gx} {Lo : Out} {L : Addr → Prop} {ρ : List Addr} {env : Env} {S : List D} {σ : L2.St} {H : Hp} (s : Sim g Lo L ρ env S σ H) {x : V} {ds : List D} (h : RepR g L ρ H 0 x (.tup ds)) : Rep g L ρ H x (.tup ds) := by
  obtain ⟨a, xs, rfl, h, r⟩ := h.tup
  exact .tup h (s.ntup h) (Reps.of r)
theorem smallI_63 {j : Int} (h : smallI j = true) : -(2 ^ 63) ≤ j ∧ j < 2 ^ 63 ∧ -(2 ^ 62) ≤ j ∧ j < 2 ^ 62 := by
  rw [smallI_iff] at h
  simp only [Bool.and_eq_true, decide_eq_true_eq] at h
  omega
theorem s_intD {op : Operator} {C : Int → Int → Prop} {o : Bop} {Cb : Int → Int → Bool} {f : Int → Int → Int} (ho : OpR X (binaryOp op) (rI C fun i j => .int (f i j))) (hC : ∀ i j, Cb i j = true → C i j) (e : binD o = intD Cb f)
    (ha : PEm g Lo W X (.weak 1) a fa) (hb : PEm g Lo W X (.weak 1) b fb) : PEm g Lo W X (.fresh 1) (.BinOp a op b pos) (binF o fa fb) := by
  refine pe_binary ho ha hb fun L ρ env σ H Q x y v w z S2 H2 ev s2 r1 r2 e1 h2 => ?_
  rw [e] at e1
  unfold intD at e1
  split at e1
  · rename_i i j
    split at e1
    · cases e1
      cases r1.int; cases r2.int
      exact ⟨_, _, rfl, rfl, hC _ _ (by assumption), oldF s2 h2 (.int _)⟩
    · cases e1
  · cases e1
theorem rI0_rI {f : Value → Value → Sem Value} {h : Int → Int → V} (o : OpR X f (rI0 h)) : OpR X f (rI (fun _ _ => True) h) := fun p s σ H x y v u Q I r1 r2 ⟨i, j, e1, e2, _, q⟩ => o p s σ H x y v u Q I r1 r2 ⟨i, j, e1, e2, q⟩
theorem s_bin (o : Bop) (ha : PEm g Lo W X (.weak 1) a fa) (hb : PEm g Lo W X (.weak 1) b fb) : PEm g Lo W X (.fresh 1) (.BinOp a (opA o) b pos) (binF o fa fb) := by
  cases o with
  | add =>
    refine pe_binary (op_add.or (op_cat.or op_catA)) ha hb fun L ρ env σ H Q x y v w z S2 H2 e s2 r1 r2 e1 h2 => ?_
    have e1 : addD v w = some z := e1
    unfold addD at e1
    split at e1
    · cases e1
      cases r1.int; cases r2.int
      exact .inl ⟨_, _, rfl, rfl, oldF s2 h2 (.int _)⟩
    · split at e1
      · cases e1
        obtain ⟨p, us, rfl, h1, q1⟩ := r1.lst
        obtain ⟨p', us', rfl, h1', q1'⟩ := r2.lst
        refine .inr (.inl ⟨_, _, _, _, rfl, rfl, h1, h1', ?_, newLst s2 e h2 (q1.append q1')⟩)
        rw [q1.length, q1'.length, ← lim_eq]; assumption
      · cases e1
    · rename_i xs ys
      split at e1
      · cases e1
        have t1 := r1.tupS s2
        have t2 := r2.tupS s2
        obtain ⟨p, us, rfl, h1, q1⟩ := r1.tup
        obtain ⟨p', us', rfl, h1', q1'⟩ := r2.tup
        refine .inr (.inr ⟨_, _, _, _, rfl, rfl, .of h1, .of h1', ?_, fun z => ?_, fun _ z => ?_, fun _ _ => newTup s2 e h2 (q1.append q1')⟩)
        · rw [q1.length, q1'.length, ← lim_eq]; assumption
        · subst z
          cases q1
          exact oldF s2 h2 t2
        · subst z
          cases q1'
          rw [List.append_nil] at h2
          exact oldF s2 h2 t1
      · cases e1
    · cases e1
  | sub => exact s_intD (rI0_rI op_sub) (fun _ _ _ => True.intro) rfl ha hb
  | mul =>
    refine pe_binary (op_mul.or (op_rep.or (op_repT.or op_repT1))) ha hb fun L ρ env σ H Q x y v w z S2 H2 e s2 r1 r2 e1 h2 => ?_
    have e1 : mulD v w = some z := e1
    unfold mulD at e1
    split at e1
    · split at e1
      · cases e1
        cases r1.int; cases r2.int
        rename_i i j hm
        refine .inl ⟨_, _, rfl, rfl, ?_, oldF s2 h2 (.int _)⟩
        unfold mulOk at hm
        simp only [Bool.or_eq_true, decide_eq_true_eq] at hm
        unfold CMul
        omega
      · cases e1
    · split at e1
      · cases e1
        rename_i xs j hm
        simp only [Bool.and_eq_true, decide_eq_true_eq] at hm
        obtain ⟨p, us, rfl, h1, q1⟩ := r1.lst
        cases r2.int
        refine .inr (.inl ⟨_, _, _, rfl, rfl, h1, (smallI_63 hm.1).1, (smallI_63 hm.1).2.1, ?_, newLst s2 e h2 (q1.rep _)⟩)
        rw [q1.length, ← lim_eq]; exact hm.2
      · cases e1
    · split at e1
      · cases e1
        rename_i hm
        subst hm
        have t1 := r1.tupS s2
        obtain ⟨p, us, rfl, h1, q1⟩ := r1.tup
        cases r2.int
        exact .inr (.inr (.inr ⟨_, _, rfl, rfl, .of h1, oldF s2 h2 t1⟩))
      split at e1
      · cases e1
        rename_i xs j _ hm
        simp only [Bool.and_eq_true, decide_eq_true_eq, Bool.not_eq_true'] at hm
        obtain ⟨p, us, rfl, h1, q1⟩ := r1.tup
        cases r2.int
        refine .inr (.inr (.inl ⟨_, _, _, rfl, rfl, .of h1, ?_, hm.1.1.1, hm.1.1.2, by rw [q1.length]; exact hm.1.2, newTup s2 e h2 (q1.rep _)⟩))
        intro z
        subst z
        cases q1
        exact absurd hm.2 (by simp)
      · cases e1
    · cases e1
  | fdiv => exact s_intD op_fdiv (fun i j h => by unfold divOk at h; simp only [Bool.and_eq_true, decide_eq_true_eq] at h; exact h) rfl ha hb
  | mod => exact s_intD op_mod (fun i j h => by simpa using h) rfl ha hb
  | pow => exact s_intD op_pow (fun i j h => by unfold powOk at h; simp only [Bool.and_eq_true, decide_eq_true_eq] at h; exact ⟨h.1.1, h.1.2, h.2⟩) rfl ha hb
  | xor => exact s_intD (rI0_rI op_xor) (fun _ _ _ => True.intro) rfl ha hb
end
end BP
end

section
set_option autoImplicit false
set_option linter.all false
set_option maxRecDepth 100000
/-! BPe: tests, comparisons, isinstance. -/
namespace BP
open PySem PySem.Spec PyProof.Rows L2

section
variable {g : Gx} {L : Addr → Prop} {ρ : List Addr} {H : Hp}
mutual
theorem Rep.dp {K : PySem.W.Frag} : ∀ {v : D} {x : V} {d : PyData}, Rep g L ρ H x v → v.py = some d → Dp K H x d
  | .non, _, _, r, e => by cases r; cases e; exact .non
  | .bl b, _, _, r, e => by cases r; cases e; exact .bl b
  | .int i, _, _, r, e => by cases r; cases e; exact .int i
  | .str s, _, _, r, e => by cases r; cases e; exact .str s
  | .tup xs, _, _, r, e => by
    unfold D.py at e
    obtain ⟨ds, e1, e2⟩ := Option.map_eq_some_iff.mp e
    subst e2
    cases r with
    | tup h n r => exact .tup (.of h) (Reps.dp r e1)
  | .lst xs, _, _, r, e => by
    unfold D.py at e
    obtain ⟨ds, e1, e2⟩ := Option.map_eq_some_iff.mp e
    subst e2
    cases r with
    | lst h n r => exact .lst (.of h) (Reps.dp r e1)
  | .dct _ _, _, _, _, e => by cases e
  | .ins _ _, _, _, _, e => by cases e
  | .ref _, _, _, _, e => by cases e
  | .fn _, _, _, _, e => by cases e
  | .scr _, _, _, _, e => by cases e
theorem Reps.dp {K : PySem.W.Frag} : ∀ {vs : List D} {xs : List V} {ds : List PyData}, Reps g L ρ H xs vs → D.pys vs = some ds → DpAll K H xs ds
  | [], _, _, r, e => by cases r; cases e; exact .nil
  | v :: vs, _, _, r, e => by
    cases r with
    | cons r1 r2 =>
      unfold D.pys at e
      split at e
      · cases e
        exact .cons (Rep.dp r1 (by assumption)) (Reps.dp r2 (by assumption))
      · cases e
end
theorem all2_dp {K : PySem.W.Frag} {R : V → D → Prop} (hR : ∀ {x v d}, R x v → D.py v = some d → Dp K H x d) : ∀ {xs : List V} {vs : List D} {ds : List PyData}, All2 R xs vs → D.pys vs = some ds → DpAll K H xs ds
  | _, _, _, .nil, e => by cases e; exact .nil
  | _, _, _, .cons r1 r2, e => by
    unfold D.pys at e
    split at e
    · cases e
      exact .cons (hR r1 (by assumption)) (all2_dp hR r2 (by assumption))
    · cases e
theorem Cont.dp {K : PySem.W.Frag} {R : V → D → Prop} {ok : Addr → Prop} (hR : ∀ {x v d}, R x v → D.py v = some d → Dp K H x d) {x : V} {v : D} {d : PyData} (r : Cont R ok g H x v) (e : v.py = some d) : Dp K H x d := by
  cases r with
  | lst h _ r =>
    unfold D.py at e
    obtain ⟨ds, e1, e2⟩ := Option.map_eq_some_iff.mp e
    subst e2
    exact .lst (.of h) (all2_dp hR r e1)
  | tup h _ r =>
    unfold D.py at e
    obtain ⟨ds, e1, e2⟩ := Option.map_eq_some_iff.mp e
    subst e2
    exact .tup (.of h) (all2_dp hR r e1)
  | dK _ _ _ => cases e
  | dN _ _ _ _ => cases e
theorem RepW.dp {K : PySem.W.Frag} : ∀ {n : Nat} {x : V} {v : D} {d : PyData}, RepW g L ρ H n x v → v.py = some d → Dp K H x d
  | 0, _, _, _, r, e => Rep.dp r e
  | n + 1, _, _, _, .inl r, e => Rep.dp r e
  | n + 1, _, _, _, .inr r, e => r.dp (fun r e => RepW.dp r e) e
theorem RepR.dp {K : PySem.W.Frag} {n : Nat} {x : V} {v : D} {d : PyData} (r : RepR g L ρ H n x v) (e : v.py = some d) : Dp K H x d := by
  rcases r with r | r
  · exact r.dp e
  · exact r.dp (fun r e => RepW.dp r e) e
theorem RepR.tru {K : PySem.W.Frag} {n : Nat} {x : V} {v : D} {b : Bool} (r : RepR g L ρ H n x v) (e : BP.tru v = some b) : TruV K x H b := by
  cases v with
  | non => cases e; rcases r with r | r <;> cases r; rfl
  | bl k => cases e; cases r.bl; rfl
  | int i => cases e; cases r.int; rfl
  | tup ds =>
    cases e
    obtain ⟨a, xs, rfl, h, q⟩ := r.tup
    exact .inr (.inl ⟨xs, .of h, by rw [q.isEmpty]⟩)
  | lst ds =>
    cases e
    obtain ⟨a, xs, rfl, h, q⟩ := r.lst
    exact .inl ⟨xs, .of h, by rw [q.isEmpty]⟩
  | _ => cases e
end

/-! ### from one promise to another -/
section
variable {g : Gx} {Lo : Out} {W : WX} {X : Cx} {a b c : Expr} {pos : Pos} {fa fb fc : Env → List D → Res D}
theorem PEm.weaken {m : Mode} {n : Nat} (h : PEm g Lo W X m a fa) (hm : m.upTo n) : PEm g Lo W X (.weak n) a fa :=
  PE.sub h fun σ H Q t => by
    obtain ⟨L, ρ, env, S, s, h⟩ := tE_to t
    exact tE_of s (h.imp fun v S' H' k x r => k x (r.weaken s n hm))
theorem PEm.w {k n : Nat} (h : PEm g Lo W X (.fresh k) a fa) : PEm g Lo W X (.weak n) a fa := h.weaken True.intro
abbrev PTm (g : Gx) (Lo : Out) (W : WX) (X : Cx) (a : Expr) (f : Env → List D → Res D) : Prop := PT X a (tT g Lo W f)
/-- a test's end -/
abbrev okT (Q : Bool → Hp → Prop) : D → List D → Hp → Prop := fun v _ H' => ∀ b, v = .bl b → Q b H'
theorem tT_of {L : Addr → Prop} {ρ : List Addr} {env : Env} {S : List D} {σ : L2.St} {H : Hp} {Q : Bool → Hp → Prop} {f : Env → List D → Res D} (s : Sim g Lo L ρ env S σ H) (h : Fin g Lo W L ρ env σ (okT Q) (f env S) H) : tT g Lo W f σ H Q := by
  refine ⟨L, ρ, env, S, s, ?_⟩
  unfold Fin okT at h
  cases q : f env S with
  | ok v S' => rw [q] at h; exact fun b H' e s' r => h H' e s' b r
  | exc c fs S' => rw [q] at h; exact h
  | stuck => rw [q] at h; exact h
theorem tT_to {σ : L2.St} {H : Hp} {Q : Bool → Hp → Prop} {f : Env → List D → Res D} (h : tT g Lo W f σ H Q) : ∃ L ρ env S, Sim g Lo L ρ env S σ H ∧ Fin g Lo W L ρ env σ (okT Q) (f env S) H := by
  obtain ⟨L, ρ, env, S, s, h⟩ := h
  refine ⟨L, ρ, env, S, s, ?_⟩
  unfold Fin okT
  cases q : f env S with
  | ok v S' => rw [q] at h; exact fun H' e s' b r => h b H' e s' r
  | exc c fs S' => rw [q] at h; exact h
  | stuck => rw [q] at h; exact h
theorem partT {L : Addr → Prop} {ρ : List Addr} {env : Env} {S : List D} {σ : L2.St} {H : Hp} {β : Type} {ok : β → List D → Hp → Prop} {f : Env → List D → Res D} {k : D → List D → Res β} {R : Bool → Hp → Prop} (s : Sim g Lo L ρ env S σ H) (h : Fin g Lo W L ρ env σ ok ((f env S).bind k) H)
    (n : ∀ b S1 H1, Ev ρ H H1 → Sim g Lo L ρ env S1 σ H1 → Fin g Lo W L ρ env σ ok (k (.bl b) S1) H1 → R b H1) : tT g Lo W f σ H R :=
  tT_of s (h.bind.imp fun v S1 H1 ⟨e, s1, h1⟩ b r => by subst r; exact n b S1 H1 e s1 h1)
/-- any value as a test -/
theorem s_truth {n : Nat} (ha : PEm g Lo W X (.weak n) a fa) (he : ∀ whole, isTrue a X.env whole = (do let v ← whole; standAt a.pos; holding [v] (truthy v))) : PTm g Lo W X a (truF fa) := by
  refine (pt_truth ha he).sub fun σ H Q h => ?_
  obtain ⟨L, ρ, env, S, s, h⟩ := tT_to h
  refine part s h fun x v S1 H1 e s1 r h1 => ?_
  obtain ⟨z, e1, h1⟩ := h1.opt
  obtain ⟨b, e2, e1⟩ := Option.map_eq_some_iff.mp e1
  obtain ⟨v', e3, e2⟩ := Option.bind_eq_some_iff.mp e2
  exact ⟨b, (s1.read r e3).tru e2, h1.ok s1 b e1.symm⟩
/-- a bool as a test -/
theorem s_notT (ha : PTm g Lo W X a fa) : PTm g Lo W X (.UnaryOp .Not a pos) (notF fa) := by
  refine (pt_not ha).sub fun σ H Q h => ?_
  obtain ⟨L, ρ, env, S, s, h⟩ := tT_to h
  exact partT s h fun b S1 H1 e s1 h1 => h1.ok s1 _ rfl
theorem w_andT {rest : List Expr} (ha : PTm g Lo W X a fa) (hb : PW X (.BoolOp .And (b :: rest) pos) (tT g Lo W fb)) : PW X (.BoolOp .And (a :: b :: rest) pos) (tT g Lo W (andF fa fb)) := by
  refine (pw_and ha hb).sub fun σ H Q h => ?_
  obtain ⟨L, ρ, env, S, s, h⟩ := tT_to h
  refine partT s h fun k S1 H1 e s1 h1 => ?_
  cases k with
  | true => exact tT_of s1 h1
  | false => exact h1.ok s1 _ rfl
theorem w_orT {rest : List Expr} (ha : PTm g Lo W X a fa) (hb : PW X (.BoolOp .Or (b :: rest) pos) (tT g Lo W fb)) : PW X (.BoolOp .Or (a :: b :: rest) pos) (tT g Lo W (orF fa fb)) := by
  refine (pw_or ha hb).sub fun σ H Q h => ?_
  obtain ⟨L, ρ, env, S, s, h⟩ := tT_to h
  refine partT s h fun k S1 H1 e s1 h1 => ?_
  cases k with
  | false => exact tT_of s1 h1
  | true => exact h1.ok s1 _ rfl
theorem s_not (ha : PEm g Lo W X (.weak 0) a fa) : PEm g Lo W X (.fresh 1) (.UnaryOp .Not a pos) (notF fa) := by
  refine (pe_not ha).sub fun σ H Q h => ?_
  obtain ⟨L, ρ, env, S, s, h⟩ := tE_to h
  refine part s h fun x v S1 H1 e s1 r h1 => ?_
  cases v with
  | bl b => cases (show Rep g L ρ H1 x (.bl b) from r); exact ⟨b, rfl, oldF s1 h1 (.bl _)⟩
  | _ => exact h1.elim
theorem Fin.base {α : Type} {L : Addr → Prop} {ρ : List Addr} {env : Env} {σ : L2.St} {ok ok' : α → List D → Hp → Prop} {r : Res α} {H : Hp} {S : List D} (s : Sim g Lo L ρ env S σ H) (h : Fin g Lo W L ρ env σ ok r H) (i : ∀ v S' H', Ev ρ H H' → ok v S' H' → ok' v S' H') : Fin g Lo W L ρ env σ ok' r H := by
  cases r with
  | ok v S' => exact fun H1 e1 s1 => i _ _ _ e1 (h H1 e1 s1)
  | exc c fs S' => exact h
  | stuck => exact h
/-- the rest, begun later -/
theorem late {L : Addr → Prop} {ρ : List Addr} {env : Env} {S1 : List D} {σ : L2.St} {H H1 : Hp} {Q : VK} {m : Mode} {f : Env → List D → Res D} (e : Ev ρ H H1) (s1 : Sim g Lo L ρ env S1 σ H1) (h : Fin g Lo W L ρ env σ (okE g L ρ H m Q) (f env S1) H1) : tE g Lo W m f σ H1 Q :=
  tE_of s1 (h.base s1 fun v S' H' e' k x r => k x (by
    cases m with
    | weak n => exact r
    | fresh n =>
    obtain ⟨A, o, nd, z, cl⟩ := r
    refine ⟨A, o, nd, (fun a ha => e.none (z a ha) fun hr => ?_), cl⟩
    obtain ⟨u, q, _⟩ := s1.live a (s1.inL hr)
    rw [z a ha] at q; cases q))
theorem oldM {L : Addr → Prop} {ρ : List Addr} {env : Env} {S : List D} {σ : L2.St} {H0 H1 : Hp} {Q : VK} {m : Mode} {x : V} {v : D} (s : Sim g Lo L ρ env S σ H1) (h : Fin g Lo W L ρ env σ (okE g L ρ H0 m Q) (.ok v S) H1) (r : Rep g L ρ H1 x v) (z : v.cont = false := by exact rfl) : Q x H1 := by
  cases m with
  | weak n => exact oldW s h (.of r _)
  | fresh n => exact oldF s h r (.inr z)
theorem s_and {rest : List Expr} {m : Mode} (ha : PEm g Lo W X (.weak 0) a fa) (hb : PEm g Lo W X m (.BoolOp .And (b :: rest) pos) fb) : PEm g Lo W X m (.BoolOp .And (a :: b :: rest) pos) (andF fa fb) := by
  refine (pe_and ha hb).sub fun σ H Q h => ?_
  obtain ⟨L, ρ, env, S, s, h⟩ := tE_to h
  refine part s h fun x v S1 H1 e s1 r h1 => ?_
  cases v with
  | bl k =>
    cases (show Rep g L ρ H1 x (.bl k) from r)
    refine ⟨k, rfl, ?_⟩
    cases k with
    | true => exact late e s1 h1
    | false => exact oldM s1 h1 (.bl _)
  | _ => exact h1.elim
theorem s_or {rest : List Expr} {m : Mode} (ha : PEm g Lo W X (.weak 0) a fa) (hb : PEm g Lo W X m (.BoolOp .Or (b :: rest) pos) fb) : PEm g Lo W X m (.BoolOp .Or (a :: b :: rest) pos) (orF fa fb) := by
  refine (pe_or ha hb).sub fun σ H Q h => ?_
  obtain ⟨L, ρ, env, S, s, h⟩ := tE_to h
  refine part s h fun x v S1 H1 e s1 r h1 => ?_
  cases v with
  | bl k =>
    cases (show Rep g L ρ H1 x (.bl k) from r)
    refine ⟨k, rfl, ?_⟩
    cases k with
    | false => exact late e s1 h1
    | true => exact oldM s1 h1 (.bl _)
  | _ => exact h1.elim
theorem s_if {m : Mode} (hc : PTm g Lo W X c fc) (ha : PEm g Lo W X m a fa) (hb : PEm g Lo W X m b fb) : PEm g Lo W X m (.IfExp c a b pos) (ifF fc fa fb) := by
  refine (pe_ifExp hc ha hb).sub fun σ H Q h => ?_
  obtain ⟨L, ρ, env, S, s, h⟩ := tE_to h
  refine partT s h fun k S1 H1 e s1 h1 => ?_
  cases k with
  | true => exact late e s1 h1
  | false => exact late e s1 h1

/-! ### names, constants -/
theorem getD_of {env : Env} {i : Nat} {s : Slot} (e : env[i]? = some s) : env.getD i .no = s := by rw [List.getD_eq_getElem?_getD, e]; rfl
theorem Sim.slot {L : Addr → Prop} {ρ : List Addr} {env : Env} {S : List D} {σ : L2.St} {H : Hp} (s : Sim g Lo L ρ env S σ H) {i : Nat} {v : D} (e : env[i]? = some (.val v)) : ∃ x, σ[i]? = some (some x) ∧ Rep g L ρ H x v := by
  obtain ⟨A, o, sl⟩ := s.own
  have h := sl i
  rw [getD_of e] at h
  obtain ⟨_, x, e1, r⟩ := h
  refine ⟨x, ?_, r⟩
  cases q : σ[i]? with
  | none => rw [q] at e1; cases e1
  | some y => rw [q] at e1; exact congrArg some e1
theorem Sim.ownSlot {L : Addr → Prop} {ρ : List Addr} {env : Env} {S : List D} {σ : L2.St} {H : Hp} (s : Sim g Lo L ρ env S σ H) {i d : Nat} {v : D} (e : env[i]? = some (.own d v)) : ∃ x, σ[i]? = some (some x) ∧ ∃ A, (∀ a ∈ A, L a ∧ (¬ Lo.lo a ∧ Lo.H0 a = none) ∧ a ∉ ρ) ∧ A.Nodup ∧ OwnR g L ρ H d A x v := by
  obtain ⟨A, o, sl⟩ := s.own
  have h := sl i
  rw [getD_of e] at h
  obtain ⟨x, e1, r⟩ := h
  refine ⟨x, ?_, A i, fun a ha => ⟨(o.inL i a ha).1, (o.inL i a ha).2, o.djr i a ha⟩, o.nd i, r⟩
  cases q : σ[i]? with
  | none => rw [q] at e1; cases e1
  | some y => rw [q] at e1; exact congrArg some e1
theorem s_var {i : Nat} {x : Str} (hN : X.N[i]? = some x) (hv : Vis X.env.scope x) (hd : (x == ("__debug__" : Str)) = false) (hcd : (x == ("__classdict__" : Str)) = false) : PEm g Lo W X (.weak 0) (.Name x pos) (varF i) := by
  refine (pe_var hN hv hd hcd).sub fun σ H Q h => ?_
  obtain ⟨L, ρ, env, S, s, h⟩ := tE_to h
  unfold varF at h
  split at h
  · rename_i v e
    obtain ⟨y, e1, r⟩ := s.slot e
    exact ⟨y, e1, oldW s h r⟩
  · exact h.elim
theorem s_peek {i d : Nat} {x : Str} (hN : X.N[i]? = some x) (hv : Vis X.env.scope x) (hd : (x == ("__debug__" : Str)) = false) (hcd : (x == ("__classdict__" : Str)) = false) : PEm g Lo W X (.weak d) (.Name x pos) (peekF i d) := by
  refine (pe_var hN hv hd hcd).sub fun σ H Q h => ?_
  obtain ⟨L, ρ, env, S, s, h⟩ := tE_to h
  unfold peekF at h
  split at h
  · rename_i v e
    obtain ⟨y, e1, r⟩ := s.slot e
    exact ⟨y, e1, oldW s h (.of r _)⟩
  · rename_i d' v e
    split at h
    · rename_i hd'
      subst hd'
      obtain ⟨y, e1, A, hA, nd, r⟩ := s.ownSlot e
      exact ⟨y, e1, oldW s h (r.weak fun a ha => (hA a ha).2.2)⟩
    · exact h.elim
  · exact h.elim
theorem s_con {x : V} {v : D} (h : PE X a (tC x)) (r : ∀ L ρ H, Rep g L ρ H x v) (z : v.cont = false) : PEm g Lo W X (.fresh 1) a (conF v) := by
  refine h.sub fun σ H Q h => ?_
  obtain ⟨L, ρ, env, S, s, h⟩ := tE_to h
  exact oldF s h (r _ _ _) (.inr z)

/-! ### comparisons -/
def cmpA : Cop → CmpOp
  | .eq => .Eq | .ne => .NotEq | .lt => .Lt | .le => .LtE | .gt => .Gt | .ge => .GtE | .is_ => .Is | .isNot => .IsNot | .in_ => .In | .notIn => .NotIn
def rC (g : Gx) (o : Cop) : R2 := fun x y H Q => ∃ L ρ n m v w b, RepR g L ρ H n x v ∧ RepR g L ρ H m y w ∧ cmpD o v w = some b ∧ Q (.bl b) H
end
end BP
end

section
set_option autoImplicit false
set_option linter.all false
set_option maxRecDepth 100000
/-! BPd: dicts with tuple keys. -/
namespace BP
open PySem PySem.Spec PyProof.Rows L2

section
variable {X : Cx} {pins : List (Addr × Obj)} {σ : L2.St} {H : Hp} {s : Shared}
/-- the object behind a key -/
theorem nk_is (I : Inv X pins σ H s) {x : V} {k : Ky} (h : NK H x k) : ∀ {u : Value}, RelV x u → NestedIs s.heap k u := by
  induction h with
  | num i => intro u r; obtain ⟨t, rfl⟩ := r; exact .int i t
  | text z => intro u r; obtain ⟨t, rfl⟩ := r; exact .text z t
  | @tup a xs ks h1 h2 h3 ih =>
    intro u r
    cases (show u = Value.ref a from r)
    obtain ⟨_, its, rv, o, ho, hc, n, hd⟩ := (show ObjOk X.prog X.w H s.heap a (.tup xs) from I.hok a _ h1)
    refine .tup ho hc hd ?_
    rw [List.toList_toArray]
    have go : ∀ (xs : List V) (ks : List Ky) (its : List Value), xs.length = ks.length → Vals xs its → (∀ (i : Nat) (x : V) (k : Ky), xs[i]? = some x → ks[i]? = some k → ∀ {u : Value}, RelV x u → NestedIs s.heap k u) → NestedAll s.heap ks its := by
      intro xs
      induction xs with
      | nil =>
        intro ks its hl rv _
        cases rv
        cases ks with
        | nil => exact .nil
        | cons _ _ => cases hl
      | cons y ys ihy =>
        intro ks its hl rv f
        cases ks with
        | nil => cases hl
        | cons k ks =>
          cases rv with
          | cons r rr => exact .cons (f 0 y k rfl rfl r) (ihy ks _ (by simpa using hl) rr fun i x k e1 e2 => f (i + 1) x k (by simpa using e1) (by simpa using e2))
    exact go xs ks its h2 rv ih
end

/-! ### values as keys -/
section
variable {g : Gx} {L : Addr → Prop} {ρ : List Addr} {H : Hp}
mutual
theorem rep_nk : ∀ (n : Nat) (v : D) (x : V) (k : Ky), Rep g L ρ H x v → D.kyd n v = some k → NK H x k ∧ k.depth ≤ n
  | n, .int i, _, _, r, e => by cases r; simp [D.kyd] at e; subst e; exact ⟨.num i, Nat.zero_le _⟩
  | n, .str s, _, _, r, e => by cases r; simp [D.kyd] at e; subst e; exact ⟨.text s, Nat.zero_le _⟩
  | 0, .tup xs, _, _, r, e => by simp [D.kyd] at e
  | n + 1, .tup xs, _, _, r, e => by
    unfold D.kyd at e
    obtain ⟨ks, e1, e2⟩ := Option.map_eq_some_iff.mp (show (D.kyds n xs).map NestedKey.tup = some _ from e)
    subst e2
    cases r with
    | tup h _ r =>
      obtain ⟨z1, z2, z3⟩ := reps_nk n xs _ ks r e1
      exact ⟨.tup h z1 z2, by unfold NestedKey.depth; omega⟩
  | _, .non, _, _, _, e => by simp [D.kyd] at e
  | _, .bl _, _, _, _, e => by simp [D.kyd] at e
  | _, .lst _, _, _, _, e => by simp [D.kyd] at e
  | _, .dct _ _, _, _, _, e => by simp [D.kyd] at e
  | _, .ins _ _, _, _, _, e => by simp [D.kyd] at e
  | _, .ref _, _, _, _, e => by simp [D.kyd] at e
  | _, .fn _, _, _, _, e => by simp [D.kyd] at e
  | _, .scr _, _, _, _, e => by simp [D.kyd] at e
theorem reps_nk : ∀ (n : Nat) (vs : List D) (xs : List V) (ks : List Ky), Reps g L ρ H xs vs → D.kyds n vs = some ks → xs.length = ks.length ∧ (∀ (i : Nat) (x : V) (k : Ky), xs[i]? = some x → ks[i]? = some k → NK H x k) ∧ NestedKey.depthAll ks ≤ n
  | n, [], _, _, r, e => by cases r; simp [D.kyds] at e; subst e; exact ⟨rfl, fun i x k e => by simp at e, Nat.zero_le _⟩
  | n, v :: vs, _, _, r, e => by
    cases r with
    | cons r1 r2 =>
      unfold D.kyds at e
      split at e
      · rename_i k ks e1 e2
        cases e
        obtain ⟨y1, y2⟩ := rep_nk n v _ k r1 e1
        obtain ⟨z1, z2, z3⟩ := reps_nk n vs _ ks r2 e2
        refine ⟨by simp [z1], fun i x k' q1 q2 => ?_, by unfold NestedKey.depthAll; omega⟩
        cases i with
        | zero => simp at q1 q2; subst q1 q2; exact y1
        | succ i => exact z2 i x k' (by simpa using q1) (by simpa using q2)
      · cases e
end
/-- a key of a dict with tuple keys -/
theorem key_nk {x : V} {v : D} {k : Ky} (r : Rep g L ρ H x v) (e : v.ky true = some k) : ∃ b, x = .ref b ∧ NK H (.ref b) k ∧ k.depth ≤ 8 := by
  unfold D.ky at e
  split at e
  · cases ‹true = false›
  · cases ‹true = false›
  · obtain ⟨ks, e1, e2⟩ := Option.map_eq_some_iff.mp e
    subst e2
    cases r with
    | tup h _ r =>
      obtain ⟨z1, z2, z3⟩ := reps_nk 7 _ _ ks r e1
      exact ⟨_, rfl, .tup h z1 z2, by unfold NestedKey.depth; omega⟩
  · cases e
/-- a key of a dict with int and text keys -/
theorem key_kv {x : V} {v : D} {k : Ky} (r : Rep g L ρ H x v) (e : v.ky false = some k) : ∃ j : Key, x = kV j ∧ k = kN j := by
  unfold D.ky at e
  split at e
  · cases e; cases r; exact ⟨.inl _, rfl, rfl⟩
  · cases e; cases r; exact ⟨.inr _, rfl, rfl⟩
  · cases ‹false = true›
  · cases e
end

/-! ### the entries -/
abbrev En := Ky × Addr × V
def eget (es : List En) (k : Ky) : Option V := (es.find? fun e => decide (e.1 = k)).map (·.2.2)
def eput (es : List En) (k : Ky) (b : Addr) (v : V) : List En := if (es.any fun e => decide (e.1 = k)) = true then es.map fun e => if e.1 = k then (e.1, e.2.1, v) else e else es ++ [(k, b, v)]
abbrev EnR : En → Ky × Addr × Value → Prop := fun p q => p.1 = q.1 ∧ p.2.1 = q.2.1 ∧ RelV p.2.2 q.2.2
theorem en_get {es : List En} {xs : List (Ky × Addr × Value)} (r : Paired EnR es xs) (k : Ky) : match eget es k with
    | some v => ∃ p, atKey xs k = some p ∧ RelV v p.2
    | none => atKey xs k = none := by
  induction r with
  | nil => rfl
  | @cons p q ps qs h t ih =>
    obtain ⟨h1, h2, h3⟩ := h
    unfold eget atKey at ih ⊢
    rw [List.find?_cons, List.find?_cons, ← h1]
    by_cases hk : p.1 = k
    · rw [decide_eq_true hk]
      exact ⟨q.2, rfl, h3⟩
    · rw [decide_eq_false hk]
      exact ih
theorem en_isSome {es : List En} {xs : List (Ky × Addr × Value)} (r : Paired EnR es xs) (k : Ky) : (atKey xs k).isSome = (eget es k).isSome := by
  have h := en_get r k
  cases q : eget es k with
  | none => rw [q] at h; rw [h]; rfl
  | some v => rw [q] at h; obtain ⟨p, e, _⟩ := h; rw [e]; rfl
theorem en_any (es : List En) (k : Ky) : (es.any fun e => decide (e.1 = k)) = (eget es k).isSome := by
  induction es with
  | nil => rfl
  | cons p ps ih =>
    unfold eget at ih ⊢
    rw [List.any_cons, List.find?_cons]
    by_cases hk : p.1 = k
    · rw [decide_eq_true hk]; rfl
    · rw [decide_eq_false hk]
      exact ih
theorem paired_map {α α' β β' : Type} {F : α → β → Prop} {G : α' → β' → Prop} {f : α → α'} {f' : β → β'} : ∀ {l : List α} {m : List β}, Paired F l m → (∀ a b, F a b → G (f a) (f' b)) → Paired G (l.map f) (m.map f')
  | _, _, .nil, _ => .nil
  | _, _, .cons r t, h => .cons (h _ _ r) (paired_map t h)
theorem paired_append {α β : Type} {F : α → β → Prop} : ∀ {l : List α} {m : List β} {l' : List α} {m' : List β}, Paired F l m → Paired F l' m' → Paired F (l ++ l') (m ++ m')
  | _, _, _, _, .nil, s => s
  | _, _, _, _, .cons r t, s => .cons r (paired_append t s)
theorem en_put {es : List En} {xs : List (Ky × Addr × Value)} (r : Paired EnR es xs) (k : Ky) (b : Addr) {v : V} {u : Value} (rv : RelV v u) : Paired EnR (eput es k b v) (storedH xs k b u) := by
  unfold eput storedH
  rw [en_any, ← en_isSome r]
  split
  · refine paired_map r fun p q ⟨h1, h2, h3⟩ => ?_
    unfold putAt
    rw [h1]
    split
    · exact ⟨rfl, h2, rv⟩
    · exact ⟨h1, h2, h3⟩
  · exact paired_append r (.cons ⟨rfl, rfl, rv⟩ .nil)
theorem length_eput (es : List En) (k : Ky) (b : Addr) (v : V) : (eput es k b v).length ≤ es.length + 1 := by
  unfold eput
  split
  · simp
  · simp
/-- the entries are those of the plain dict -/
abbrev EsR (R : V → D → Prop) (es : List En) (ds : List (Ky × D)) : Prop := All2 (fun p q => p.1 = q.1 ∧ R p.2 q.2) (es.map fun e => (e.1, e.2.2)) ds
theorem esr_get {R : V → D → Prop} : ∀ {es : List En} {ds : List (Ky × D)}, EsR R es ds → ∀ k, (eget es k).isSome = (dget ds k).isSome ∧ ∀ d, dget ds k = some d → ∃ v, eget es k = some v ∧ R v d
  | [], [], _, k => ⟨rfl, fun d e => by simp [dget] at e⟩
  | p :: ps, q :: qs, .cons ⟨h1, h2⟩ t, k => by
    have ih := esr_get (es := ps) (ds := qs) t k
    have h1 : p.1 = q.1 := h1
    unfold eget dget at ih ⊢
    rw [List.find?_cons, List.find?_cons, ← h1]
    by_cases hk : p.1 = k
    · rw [decide_eq_true hk]
      exact ⟨rfl, fun d e => by cases e; exact ⟨_, rfl, h2⟩⟩
    · rw [decide_eq_false hk]
      exact ih
theorem esr_put {R : V → D → Prop} {es : List En} {ds : List (Ky × D)} (r : EsR R es ds) (k : Ky) (b : Addr) {v : V} {d : D} (rv : R v d) : EsR R (eput es k b v) (dput ds k d) := by
  have ha : (es.any fun e => decide (e.1 = k)) = ds.any fun kv => decide (kv.1 = k) := by
    have h1 : (ds.any fun kv => decide (kv.1 = k)) = (dget ds k).isSome := by
      clear r
      induction ds with
      | nil => rfl
      | cons p ps ih =>
        unfold dget at ih ⊢
        rw [List.any_cons, List.find?_cons]
        by_cases hk : p.1 = k
        · rw [decide_eq_true hk]; rfl
        · rw [decide_eq_false hk]
          exact ih
    rw [en_any, h1, (esr_get r k).1]
  unfold eput dput
  rw [ha]
  split
  · have go : ∀ {es : List En} {ds : List (Ky × D)}, EsR R es ds → EsR R (es.map fun e => if e.1 = k then (e.1, e.2.1, v) else e) (ds.map fun kv => if kv.1 = k then (kv.1, d) else kv) := by
      intro es
      induction es with
      | nil => intro ds r; cases ds with
        | nil => exact .nil
        | cons _ _ => cases r
      | cons p ps ih => intro ds r; cases ds with
        | nil => cases r
        | cons q qs =>
          cases r with
          | cons h t =>
            obtain ⟨h1, h2⟩ := h
            have h1 : p.1 = q.1 := h1
            simp only [EsR, List.map_cons]
            refine .cons ?_ (ih t)
            rw [← h1]
            split
            · exact ⟨rfl, rv⟩
            · exact ⟨h1, h2⟩
    exact go r
  · simp only [EsR, List.map_append, List.map_cons, List.map_nil]
    exact All2.append r (.cons ⟨rfl, rv⟩ .nil)
theorem eput_keys {es : List En} {k : Ky} {b : Addr} {v : V} {P : Addr → Ky → Prop} (h : ∀ e ∈ es, P e.2.1 e.1) (hb : P b k) : ∀ e ∈ eput es k b v, P e.2.1 e.1 := by
  unfold eput
  split
  · intro e he
    obtain ⟨e', h1, h2⟩ := List.mem_map.mp he
    subst h2
    split
    · exact h e' h1
    · exact h e' h1
  · intro e he
    rcases List.mem_append.mp he with he | he
    · exact h e he
    · simp at he; subst he; exact hb

/-! ### what is done with them -/
section
variable {X : Cx} {pins : List (Addr × Obj)} {σ : L2.St} {H : Hp} {s : Shared} {a b : Addr} {es : List En} {k : Ky} {A : Around} {E : Value → Shared → Prop}
abbrev KsOk (H : Hp) (es : List En) : Prop := ∀ e ∈ es, NK H (.ref e.2.1) e.1 ∧ e.1.depth ≤ 8
theorem mem_paired {α β : Type} {F : α → β → Prop} : ∀ {l : List α} {m : List β}, Paired F l m → ∀ y ∈ m, ∃ x ∈ l, F x y
  | _, _, .nil, _, h => by cases h
  | _, _, .cons r t, y, h => by
    rcases List.mem_cons.mp h with e | h
    · subst e; exact ⟨_, List.mem_cons_self, r⟩
    · obtain ⟨x, hx, q⟩ := mem_paired t y h
      exact ⟨x, List.mem_cons_of_mem _ hx, q⟩
theorem dn_at (I : Inv X pins σ H s) (h : H a = some (dN X.prog X.w a es)) (hk : KsOk H es) : es.length ≤ sizeLine ∧ (a == sysModules) = false ∧ ∃ xs, Paired EnR es xs ∧ s.heap.DictOfH (nestedKind X.prog X.w) a xs := by
  obtain ⟨⟨z, hd, xs, r, o, ds, ep, ho, hc, hdt, he, hn⟩, _⟩ := (show ObjOk X.prog X.w H s.heap a (dN X.prog X.w a es) from I.hok a _ h)
  refine ⟨z, hd, xs, r, o, ds, ep, ho, hc, hdt, he, fun y hy => ?_, hn⟩
  obtain ⟨e, h1, h2, h3, _⟩ := mem_paired r y hy
  obtain ⟨n1, n2⟩ := hk e h1
  refine ⟨?_, by rw [← h2]; exact n2⟩
  rw [← h2, ← h3]
  exact nk_is I n1 rfl
theorem dn_new {P : Program} {w : World} {H : Hp} {h : Heap} {xs : List (Ky × Addr × Value)} (hz : es.length ≤ sizeLine) (hd : (a == sysModules) = false) (r : Paired EnR es xs) (dd : h.DictOfH (nestedKind P w) a xs) : ObjOk P w H h a (dN P w a es) := by
  obtain ⟨o, ds, ep, ho, hc, hdt, he, _, hn⟩ := dd
  refine ⟨⟨hz, hd, xs, r, o, ds, ep, ho, hc, hdt, he, hn⟩, ⟨o, ho⟩, fun h1 h2 p q => ?_⟩
  obtain ⟨y1, y2, xs', r', o', ds', ep', ho', z⟩ := p
  exact ⟨y1, y2, xs', r', o', ds', ep', q _ ho', z⟩
theorem room8 (hu : A.units + 200 < cLine) : (nestedKind X.prog X.w).room A.in1 := by
  show A.units + 1 + 8 < cLine
  omega
theorem n_getItem {v : V} {Q : Value → Shared → Prop} (hu : A.units + 200 < cLine) (I : Inv X pins σ H s) (h : H a = some (dN X.prog X.w a es)) (hk : KsOk H es) (nk : NK H (.ref b) k) (nd : k.depth ≤ 8) (hv : eget es k = some v) (q : ∀ u s', Inv X pins σ H s' → RelV v u → Q u s') :
    wpAny (model X.prog X.w) A (getItem (.ref a) (.ref b)) Q E s := by
  obtain ⟨z, hd, xs, r, dd⟩ := dn_at I h hk
  have g := en_get r k
  rw [hv] at g
  obtain ⟨p, hp, rp⟩ := g
  exact wpAny_getItem_heap (room8 hu) ⟨nk_is I nk rfl, nd⟩ dd hp (q _ _ (I.tok _) rp)
theorem n_in {Q : Value → Shared → Prop} (hu : A.units + 200 < cLine) (I : Inv X pins σ H s) (h : H a = some (dN X.prog X.w a es)) (hk : KsOk H es) (nk : NK H (.ref b) k) (nd : k.depth ≤ 8) (q : ∀ s', Inv X pins σ H s' → Q (.bool (eget es k).isSome) s') :
    wpAny (model X.prog X.w) A (compareOp .In (.ref b) (.ref a)) Q E s := by
  obtain ⟨z, hd, xs, r, dd⟩ := dn_at I h hk
  refine wpAny_in_heap (room8 hu) ⟨nk_is I nk rfl, nd⟩ hd dd ?_
  rw [en_isSome r]
  exact q _ (I.tok _)
theorem n_notIn {Q : Value → Shared → Prop} (hu : A.units + 200 < cLine) (I : Inv X pins σ H s) (h : H a = some (dN X.prog X.w a es)) (hk : KsOk H es) (nk : NK H (.ref b) k) (nd : k.depth ≤ 8) (q : ∀ s', Inv X pins σ H s' → Q (.bool (!(eget es k).isSome)) s') :
    wpAny (model X.prog X.w) A (compareOp .NotIn (.ref b) (.ref a)) Q E s := by
  obtain ⟨z, hd, xs, r, dd⟩ := dn_at I h hk
  refine wpAny_notIn_heap (room8 hu) ⟨nk_is I nk rfl, nd⟩ hd dd ?_
  rw [en_isSome r]
  exact q _ (I.tok _)
/-- the dict written -/
theorem n_write {h' : Heap} {xs : List (Ky × Addr × Value)} {t : Nat} {es' : List En} (I : Inv X pins σ H s) (h : H a = some (dN X.prog X.w a es)) (hd : (a == sysModules) = false) (hz : es'.length ≤ sizeLine) (r : Paired EnR es' xs) (dd : h'.DictOfH (nestedKind X.prog X.w) a xs) (hs : Heap.SameBut a s.heap h') :
    Inv X pins σ (upd H a (dN X.prog X.w a es')) { s with heap := h', toks := t } := by
  have he : ∃ u, h'.get? a = some u := let ⟨u, _, _, hu, _⟩ := dd; ⟨u, hu⟩
  exact I.write (by rw [h]; exact True.intro) (.inl rfl) (fun c u hc e => (hs.2 c hc).trans e) he (dn_new hz hd r dd)
theorem n_setItem {v : V} {u : Value} {Q : Unit → Shared → Prop} (hu : A.units + 200 < cLine) (I : Inv X pins σ H s) (h : H a = some (dN X.prog X.w a es)) (hk : KsOk H es) (nk : NK H (.ref b) k) (nd : k.depth ≤ 8) (hl : es.length < sizeLine) (rv : RelV v u) (q : ∀ s', Inv X pins σ (upd H a (dN X.prog X.w a (eput es k b v))) s' → Q () s') :
    wpAny (model X.prog X.w) A (setItem (.ref a) (.ref b) u) Q E s := by
  obtain ⟨z, hd, xs, r, dd⟩ := dn_at I h hk
  have hz : xs.length ≤ sizeLine := by rw [← Paired.length r]; exact z
  refine wpAny_setItem_heap (hsz := hz) (room8 hu) ⟨nk_is I nk rfl, nd⟩ dd fun h' dd' hs => q _ ?_
  have := length_eput es k b v
  exact n_write I h hd (by omega) (en_put r k b rv) dd' hs
theorem n_dictSet {v : V} {u : Value} {Q : Unit → Shared → Prop} (hu : A.units + 200 < cLine) (I : Inv X pins σ H s) (h : H a = some (dN X.prog X.w a es)) (hk : KsOk H es) (nk : NK H (.ref b) k) (nd : k.depth ≤ 8) (hl : es.length < sizeLine) (rv : RelV v u) (q : ∀ s', Inv X pins σ (upd H a (dN X.prog X.w a (eput es k b v))) s' → Q () s') :
    wpAny (model X.prog X.w) A (dictSet a (.ref b) u) Q E s := by
  obtain ⟨z, hd, xs, r, dd⟩ := dn_at I h hk
  have hz : xs.length ≤ sizeLine := by rw [← Paired.length r]; exact z
  refine wpAny_dictSet_heap (knd := nestedKind X.prog X.w) (hsz := hz) (show A.units + 8 < cLine by omega) ⟨nk_is I nk rfl, nd⟩ dd fun h' dd' hs => q _ ?_
  have := length_eput es k b v
  exact n_write I h hd (by omega) (en_put r k b rv) dd' hs
theorem n_get2 {d : V} {u : Value} {Q : Value → Shared → Prop} (hu : A.units + 200 < cLine) (I : Inv X pins σ H s) (h : H a = some (dN X.prog X.w a es)) (hk : KsOk H es) (nk : NK H (.ref b) k) (nd : k.depth ≤ 8) (rd : RelV d u) (q : ∀ w s', Inv X pins σ H s' → RelV ((eget es k).getD d) w → Q w s') :
    wpAny (model X.prog X.w) A (call (.builtin "dict.get") [.ref a, .ref b, u]) Q E s := by
  obtain ⟨z, hd, xs, r, dd⟩ := dn_at I h hk
  refine call_meetsIn PySem.F.slot_dict_get dd.typeIs PySem.F.entry_dict_get (PySem.F.args_dict_get_3 _ _ _) (meetsH_dict_get_default (nestedKind X.prog X.w) a b hd u) ⟨room8 hu, k, xs, ⟨nk_is I nk rfl, nd⟩, dd, q _ _ (I.tok _) ?_⟩
  have g := en_get r k
  cases e : eget es k with
  | none => rw [e] at g; rw [g]; exact rd
  | some y => rw [e] at g; obtain ⟨p, hp, rp⟩ := g; rw [hp]; exact rp
theorem n_len {Q : Value → Shared → Prop} (I : Inv X pins σ H s) (h : H a = some (dN X.prog X.w a es)) (hk : KsOk H es) (q : ∀ w s', Inv X pins σ H s' → RelV (.int es.length) w → Q w s') :
    wpAny (model X.prog X.w) A (call (.builtin "len") [.ref a]) Q E s := by
  obtain ⟨z, hd, xs, r, dd⟩ := dn_at I h hk
  have hl := Paired.length r
  have := sizeLine_eq
  refine call_len_dictH hd dd (by omega) (q _ _ (I.tok _) ⟨_, by rw [hl]⟩)
/-- list(d) -/
theorem n_list {Q : Value → Shared → Prop} (hh : A.handled = none) (I : Inv X pins σ H s) (h : H a = some (dN X.prog X.w a es)) (q : ∀ w p s', H p = none → Inv X pins σ (upd H p (.lst (es.map fun e => .ref e.2.1))) s' → RelV (.ref p) w → Q w s') :
    wpAny (model X.prog X.w) A (call (.type "list") [.ref a]) Q E s := by
  obtain ⟨⟨z, hd, xs, r, o, ds, ep, ho, hc, hdt, he, hn⟩, _⟩ := (show ObjOk X.prog X.w H s.heap a (dN X.prog X.w a es) from I.hok a _ h)
  have l1 : ds.size = xs.length := size_of_entries he
  have l2 : es.length = xs.length := Paired.length r
  refine PySem.W.kdl_call (kdl_raw hd hc hdt) hh ho (by omega) fun h' tk acc' c' kp e it => ?_
  have ea : acc'.toList = xs.map fun x => Value.ref x.2.1 := by
    have hl : acc'.toList.length = xs.length := by rw [Array.length_toList, it.1]; exact l1
    apply List.ext_getElem?
    intro j
    rw [List.getElem?_map]
    cases hj : acc'.toList[j]? with
    | none =>
      have h1 := List.getElem?_eq_none_iff.mp hj
      rw [List.getElem?_eq_none (by omega)]
      rfl
    | some v =>
      obtain ⟨en, hen, hv⟩ := it.2 j v (by rw [← Array.getElem?_toList]; exact hj)
      have qe := entry_at he j
      rw [hen] at qe
      cases hb : xs[j]? with
      | none => rw [hb] at qe; exact nomatch (show some en = none from qe)
      | some b =>
        rw [hb] at qe
        have e2 := Option.some.inj qe
        rw [hv, e2]
        rfl
  have rv : Vals (es.map fun e => V.ref e.2.1) acc'.toList := by
    rw [ea]
    exact paired_map r fun p q h => show Value.ref q.2.1 = Value.ref p.2.1 by rw [h.2.1]
  have hz : (es.map fun e => V.ref e.2.1).length ≤ sizeLine := by rw [List.length_map]; exact z
  exact q _ s.heap.objs.size _ (I.hok.fresh (Nat.le_refl _)) (I.laid (t' := tk) (o := .lst (es.map fun e => .ref e.2.1)) kp (Nat.le_refl _) ⟨hz, acc'.toList, c', rv, by rw [Array.toArray_toList]; exact e⟩) rfl
theorem pe_dnewN {pos : Pos} : PE X (.Dict [] [] pos) (fun _ H Q => ∀ p, H p = none → Q (.ref p) (upd H p (dN X.prog X.w p []))) := ⟨fun pins s σ H Q I h =>
  wpAny_Dict_empty ⟨.ref s.heap.objs.size, _, I.laid (a := s.heap.objs.size) (o := dN X.prog X.w s.heap.objs.size []) (t' := s.toks) (fun _ _ q => Heap.get?_push_of_some _ q) (Nat.le_refl _)
    (dn_new (Nat.zero_le _) (beq_eq_false_iff_ne.mpr (Ne.symm (Nat.ne_of_lt I.big))) .nil (Heap.DictOfH.new s.heap)), rfl, h _ (I.hok.fresh (Nat.le_refl _))⟩⟩
end
end BP
end

section
set_option autoImplicit false
set_option linter.all false
set_option maxRecDepth 100000
/-! BPc: comparisons, isinstance, subscripts, slices, fields. -/
namespace BP
open PySem PySem.Spec PyProof.Rows L2

section
variable {g : Gx} {L : Addr → Prop} {ρ : List Addr} {H : Hp}
theorem all2_nk {R : V → D → Prop} {n : Nat} (hR : ∀ x v k, R x v → D.kyd n v = some k → NK H x k ∧ k.depth ≤ n) : ∀ {xs : List V} {vs : List D} {ks : List Ky}, All2 R xs vs → D.kyds n vs = some ks → xs.length = ks.length ∧ (∀ (i : Nat) (x : V) (k : Ky), xs[i]? = some x → ks[i]? = some k → NK H x k) ∧ NestedKey.depthAll ks ≤ n
  | _, _, _, .nil, e => by simp [D.kyds] at e; subst e; exact ⟨rfl, fun i x k e => by simp at e, Nat.zero_le _⟩
  | _, _, _, .cons r1 r2, e => by
    unfold D.kyds at e
    split at e
    · rename_i k ks e1 e2
      cases e
      obtain ⟨y1, y2⟩ := hR _ _ _ r1 e1
      obtain ⟨z1, z2, z3⟩ := all2_nk hR r2 e2
      refine ⟨by simp [z1], fun i x k' q1 q2 => ?_, by unfold NestedKey.depthAll; omega⟩
      cases i with
      | zero => simp at q1 q2; subst q1 q2; exact y1
      | succ i => exact z2 i x k' (by simpa using q1) (by simpa using q2)
    · cases e
theorem repw_nk : ∀ (m n : Nat) (x : V) (v : D) (k : Ky), RepW g L ρ H m x v → D.kyd n v = some k → NK H x k ∧ k.depth ≤ n
  | 0, n, x, v, k, r, e => rep_nk n v x k r e
  | m + 1, n, x, v, k, .inl r, e => rep_nk n v x k r e
  | m + 1, n, x, v, k, .inr r, e => by
    cases r with
    | tup h _ q =>
      cases n with
      | zero => simp [D.kyd] at e
      | succ n =>
        unfold D.kyd at e
        obtain ⟨ks, e1, e2⟩ := Option.map_eq_some_iff.mp (show (D.kyds n _).map NestedKey.tup = some _ from e)
        subst e2
        obtain ⟨z1, z2, z3⟩ := all2_nk (fun x v k r e => repw_nk m n x v k r e) q e1
        exact ⟨.tup h z1 z2, by unfold NestedKey.depth; omega⟩
    | lst _ _ _ => simp [D.kyd] at e
    | dK _ _ _ => simp [D.kyd] at e
    | dN _ _ _ _ => simp [D.kyd] at e
theorem cont_nk {m n : Nat} {ok : Addr → Prop} {x : V} {v : D} {k : Ky} (r : Cont (RepW g L ρ H m) ok g H x v) (e : D.kyd n v = some k) : NK H x k ∧ k.depth ≤ n := by
  cases r with
  | tup h _ q =>
    cases n with
    | zero => simp [D.kyd] at e
    | succ n =>
      unfold D.kyd at e
      obtain ⟨ks, e1, e2⟩ := Option.map_eq_some_iff.mp (show (D.kyds n _).map NestedKey.tup = some _ from e)
      subst e2
      obtain ⟨z1, z2, z3⟩ := all2_nk (fun x v k r e => repw_nk m n x v k r e) q e1
      exact ⟨.tup h z1 z2, by unfold NestedKey.depth; omega⟩
  | lst _ _ _ => simp [D.kyd] at e
  | dK _ _ _ => simp [D.kyd] at e
  | dN _ _ _ _ => simp [D.kyd] at e
theorem repr_nk {m n : Nat} {x : V} {v : D} {k : Ky} (r : RepR g L ρ H m x v) (e : D.kyd n v = some k) : NK H x k ∧ k.depth ≤ n := by
  rcases r with r | r
  · exact rep_nk n v x k r e
  · exact cont_nk r e
/-- a key of a dict with tuple keys -/
theorem repr_key {m : Nat} {x : V} {v : D} {k : Ky} (r : RepR g L ρ H m x v) (e : v.ky true = some k) : ∃ b, x = .ref b ∧ NK H (.ref b) k ∧ k.depth ≤ 8 := by
  have e8 : D.kyd 8 v = some k := by
    unfold D.ky at e
    split at e
    · cases ‹true = false›
    · cases ‹true = false›
    · exact e
    · cases e
  obtain ⟨z1, z2⟩ := repr_nk r e8
  have hr : ∃ b, x = .ref b := by
    unfold D.ky at e
    split at e
    · cases ‹true = false›
    · cases ‹true = false›
    · obtain ⟨a, xs, h, _⟩ := r.tup; exact ⟨a, h⟩
    · cases e
  obtain ⟨b, rfl⟩ := hr
  exact ⟨b, rfl, z1, z2⟩
theorem RepR.str {n : Nat} {x : V} {i : Str} (h : RepR g L ρ H n x (.str i)) : x = .str i := by
  rcases h with h | h
  · cases h; rfl
  · cases h
theorem RepR.non {n : Nat} {x : V} (h : RepR g L ρ H n x .non) : x = .non := by
  rcases h with h | h
  · cases h; rfl
  · cases h
theorem repr_keyK {m : Nat} {x : V} {v : D} {k : Ky} (r : RepR g L ρ H m x v) (e : v.ky false = some k) : ∃ j : Key, x = kV j ∧ k = kN j := by
  unfold D.ky at e
  split at e
  · cases e; cases r.int; exact ⟨.inl _, rfl, rfl⟩
  · cases e; cases r.str; exact ⟨.inr _, rfl, rfl⟩
  · cases ‹false = true›
  · cases e
theorem RepR.ref {n : Nat} {x : V} {v : D} (h : RepR g L ρ H n x v) (hv : ∀ a, v ≠ .bl a) (h1 : ∀ a, v ≠ .int a) (h2 : ∀ a, v ≠ .str a) (h3 : v ≠ .non) : ∃ a, x = .ref a := by
  rcases h with h | h
  · cases h with
    | non => exact absurd rfl h3
    | bl b => exact absurd rfl (hv b)
    | int b => exact absurd rfl (h1 b)
    | str b => exact absurd rfl (h2 b)
    | _ => exact ⟨_, rfl⟩
  · cases h <;> exact ⟨_, rfl⟩
/-! ### dicts with int and text keys -/
theorem kN_inj {a b : Key} (h : kN a = kN b) : a = b := by
  cases a <;> cases b <;> simp [kN] at h <;> subst h <;> rfl
theorem dk_find {R : V → D → Prop} : ∀ {kvs : List (Key × V)} {ds : List (Ky × D)}, All2 (fun p q => p.1 = q.1 ∧ R p.2 q.2) (kvs.map fun p => (kN p.1, p.2)) ds → ∀ j : Key, (valV kvs j).isSome = (dget ds (kN j)).isSome ∧ ∀ d, dget ds (kN j) = some d → ∃ v, valV kvs j = some v ∧ R v d
  | [], [], _, j => ⟨rfl, fun d e => by simp [dget] at e⟩
  | p :: ps, q :: qs, .cons ⟨h1, h2⟩ t, j => by
    have ih := dk_find (kvs := ps) (ds := qs) t j
    have h1 : kN p.1 = q.1 := h1
    unfold valV dget at ih ⊢
    rw [List.find?_cons, List.find?_cons, ← h1]
    by_cases hk : p.1 = j
    · subst hk
      rw [decide_eq_true rfl, decide_eq_true rfl]
      exact ⟨rfl, fun d e => by cases e; exact ⟨_, rfl, h2⟩⟩
    · rw [decide_eq_false hk, decide_eq_false fun e => hk (kN_inj e)]
      exact ih
end

section
variable {g : Gx} {X : Cx}
/-- X is the place of a text of g -/
structure Xg (g : Gx) (X : Cx) : Prop where
  prog : X.prog = g.P
  w : X.w = g.w
  K : X.K = g.K
  calm : X.calm = true
  hu : X.A.units + 200 < cLine
theorem Cok.xg {N : List Str} {sc : Scope} {k : Nat} {W : WX} (c : Cok g X N sc k W) : Xg g X := ⟨c.prog, c.w, c.K, c.calm, c.hu⟩
theorem isD_ref {v w : D} {b : Bool} (e : isD v w = some b) : (v = .non ∧ w = .non ∧ b = true) ∨ (∃ p q : Bool, v = .bl p ∧ w = .bl q ∧ b = (p == q)) ∨ (w = .non ∧ b = false ∧ v ≠ .non ∧ (∀ n, v ≠ .ref n)) := by
  unfold isD at e
  split at e <;> first | (cases e; exact .inl ⟨rfl, rfl, rfl⟩) | (cases e; exact .inr (.inl ⟨_, _, rfl, rfl, rfl⟩)) | (cases e; exact .inr (.inr ⟨rfl, rfl, by simp, by simp⟩)) | cases e
theorem rep_ne_non {L : Addr → Prop} {ρ : List Addr} {H : Hp} {n : Nat} {x : V} {v : D} (r : RepR g L ρ H n x v) (h : v ≠ .non) : x ≠ .non := by
  rcases r with r | r
  · cases r with
    | non => exact absurd rfl h
    | _ => intro q; cases q
  · cases r <;> (intro q; cases q)
theorem lt_ii {d e : D} {b : Bool} (h : cmpD .lt d e = some b) : ∃ i j : Int, d = .int i ∧ e = .int j ∧ b = decide (i < j) := by
  cases d <;> cases e <;> simp [cmpD] at h <;> exact ⟨_, _, rfl, rfl, by simp [h]⟩
theorem le_ii {d e : D} {b : Bool} (h : cmpD .le d e = some b) : ∃ i j : Int, d = .int i ∧ e = .int j ∧ b = decide (i ≤ j) := by
  cases d <;> cases e <;> simp [cmpD] at h <;> exact ⟨_, _, rfl, rfl, by simp [h]⟩
theorem gt_ii {d e : D} {b : Bool} (h : cmpD .gt d e = some b) : ∃ i j : Int, d = .int i ∧ e = .int j ∧ b = decide (j < i) := by
  cases d <;> cases e <;> simp [cmpD] at h <;> exact ⟨_, _, rfl, rfl, by simp [h]⟩
theorem ge_ii {d e : D} {b : Bool} (h : cmpD .ge d e = some b) : ∃ i j : Int, d = .int i ∧ e = .int j ∧ b = decide (j ≤ i) := by
  cases d <;> cases e <;> simp [cmpD] at h <;> exact ⟨_, _, rfl, rfl, by simp [h]⟩
theorem op_C (xg : Xg g X) (o : Cop) : OpR X (compareOp (cmpA o)) (rC g o) := by
  intro pins s σ H x y v u Q I rx ry h
  obtain ⟨L, ρ, n, m, d, e, b, r1, r2, hb, q⟩ := h
  have hP := xg.prog; have hw := xg.w; have hK := xg.K; have hu := xg.hu; have hc := xg.calm
  have int2 : ∀ {f : Int → Int → Bool} {op : CmpOp}, OpR X (compareOp op) (rI0 fun i j => .bl (f i j)) → (∃ i j, d = .int i ∧ e = .int j ∧ b = f i j) → wpAny (model X.prog X.w) X.A (compareOp op v u) (EP X pins σ Q) X.xe s := by
    intro f op ho hh
    obtain ⟨i, j, rfl, rfl, rfl⟩ := hh
    cases r1.int; cases r2.int
    exact ho pins s σ H _ _ v u Q I rx ry ⟨i, j, rfl, rfl, q⟩
  have eqd : ∀ {c : Bool}, eqD d e = some c → ∃ p q, Dp X.K H x p ∧ Dp X.K H y q ∧ SeqAt.shaped p = true ∧ SeqAt.shaped q = true ∧ c = PyData.eqv p q := by
    intro c hh
    unfold eqD at hh
    split at hh
    · rename_i p q e1 e2
      split at hh
      · rename_i hs
        cases hh
        rw [Bool.and_eq_true] at hs
        exact ⟨p, q, r1.dp e1, r2.dp e2, hs.1, hs.2, rfl⟩
      · cases hh
    · cases hh
  have ind : ∀ {c : Bool} (neg : Bool), inD d e = some c → (∀ H' s', L2.Inv X pins σ H s' → H' = H → EP X pins σ Q (.bool (if neg then !c else c)) s') → wpAny (model X.prog X.w) X.A (compareOp (if neg then .NotIn else .In) v u) (EP X pins σ Q) X.xe s := by
    intro c neg hh k
    unfold inD at hh
    split at hh
    · split at hh
      · rename_i xs p ys e1 e2
        split at hh
        · rename_i hs
          cases hh
          rw [Bool.and_eq_true] at hs
          obtain ⟨as, R1⟩ := Dp.reads I p x v (r1.dp e1) rx
          obtain ⟨bs, R2⟩ := Dp.reads I (.list ys) y u (r2.dp e2) ry
          cases neg with
          | false => exact SeqAt.in_list_reads R2 R1 (SeqAt.canLay_of_shaped hs.2) (SeqAt.canLay_of_shaped hs.1) (room_in_shaped hs.1 (by omega)) (k H s I rfl)
          | true => exact SeqAt.notIn_list_reads R2 R1 (SeqAt.canLay_of_shaped hs.2) (SeqAt.canLay_of_shaped hs.1) (room_in_shaped hs.1 (by omega)) (k H s I rfl)
        · cases hh
      · cases hh
    · split at hh
      · rename_i xs p ys e1 e2
        split at hh
        · rename_i hs
          cases hh
          rw [Bool.and_eq_true] at hs
          obtain ⟨as, R1⟩ := Dp.reads I p x v (r1.dp e1) rx
          obtain ⟨bs, R2⟩ := Dp.reads I (.tuple ys) y u (r2.dp e2) ry
          cases neg with
          | false => exact SeqAt.in_tuple_reads R2 R1 (SeqAt.canLay_of_shaped hs.2) (SeqAt.canLay_of_shaped hs.1) (room_in_shaped hs.1 (by omega)) (k H s I rfl)
          | true => exact SeqAt.notIn_tuple_reads R2 R1 (SeqAt.canLay_of_shaped hs.2) (SeqAt.canLay_of_shaped hs.1) (room_in_shaped hs.1 (by omega)) (k H s I rfl)
        · cases hh
      · cases hh
    · rename_i nk kvs
      split at hh
      · rename_i kk ek
        cases hh
        cases nk with
        | false =>
          obtain ⟨a, kv, rfl, h1, q1⟩ := r2.dK
          obtain ⟨j, rfl, rfl⟩ := repr_keyK r1 ek
          have g := (dk_find q1 j).1
          obtain rfl : u = Value.ref a := ry
          cases neg with
          | false => exact d_in (by omega) I (DGet.k h1) rx fun s' I' => by rw [g]; exact k H s' I' rfl
          | true => exact d_notIn (by omega) I (DGet.k h1) rx fun s' I' => by rw [g]; exact k H s' I' rfl
        | true =>
          obtain ⟨a, es, rfl, h1, hk, q1⟩ := r2.dN
          obtain ⟨bb, rfl, n1, n2⟩ := repr_key r1 ek
          have g := (esr_get q1 kk).1
          obtain rfl : u = Value.ref a := ry
          obtain rfl : v = Value.ref bb := rx
          rw [← hP, ← hw] at h1
          cases neg with
          | false => exact n_in (by omega) I h1 hk n1 n2 fun s' I' => by rw [g]; exact k H s' I' rfl
          | true => exact n_notIn (by omega) I h1 hk n1 n2 fun s' I' => by rw [g]; exact k H s' I' rfl
      · cases hh
    · cases hh
  cases o with
  | eq =>
    obtain ⟨p, q', h1, h2, h3, h4, rfl⟩ := eqd hb
    exact op_eqD (by omega) pins s σ H x y v u Q I rx ry ⟨p, q', h1, h2, h3, h4, q⟩
  | ne =>
    obtain ⟨c, hc, e'⟩ := Option.map_eq_some_iff.mp hb
    obtain ⟨p, q', h1, h2, h3, h4, rfl⟩ := eqd hc
    subst e'
    exact op_neD (by omega) pins s σ H x y v u Q I rx ry ⟨p, q', h1, h2, h3, h4, q⟩
  | lt => exact int2 (f := fun i j => decide (i < j)) op_lt (lt_ii hb)
  | le => exact int2 (f := fun i j => decide (i ≤ j)) op_le (le_ii hb)
  | gt => exact int2 (f := fun i j => decide (j < i)) op_gt (gt_ii hb)
  | ge => exact int2 (f := fun i j => decide (j ≤ i)) op_ge (ge_ii hb)
  | is_ =>
    rcases isD_ref hb with ⟨rfl, rfl, rfl⟩ | ⟨p, q', rfl, rfl, rfl⟩ | ⟨rfl, rfl, h1, _⟩
    · cases r1.non; cases r2.non
      exact op_isN pins s σ H _ _ v u Q I rx ry ⟨rfl, q⟩
    · cases r1.bl; cases r2.bl
      exact op_isBl pins s σ H _ _ v u Q I rx ry ⟨p, q', rfl, rfl, by rw [← Bool.beq_eq_decide_eq]; exact q⟩
    · cases r2.non
      exact op_isN pins s σ H _ _ v u Q I rx ry ⟨rfl, by rw [decide_eq_false (rep_ne_non r1 h1)]; exact q⟩
  | isNot =>
    obtain ⟨c, hc, e'⟩ := Option.map_eq_some_iff.mp hb
    subst e'
    rcases isD_ref hc with ⟨rfl, rfl, rfl⟩ | ⟨p, q', rfl, rfl, rfl⟩ | ⟨rfl, rfl, h1, _⟩
    · cases r1.non; cases r2.non
      exact op_notN pins s σ H _ _ v u Q I rx ry ⟨rfl, q⟩
    · cases r1.bl; cases r2.bl
      exact op_notBl pins s σ H _ _ v u Q I rx ry ⟨p, q', rfl, rfl, by rw [← Bool.beq_eq_decide_eq]; exact q⟩
    · cases r2.non
      exact op_notN pins s σ H _ _ v u Q I rx ry ⟨rfl, by rw [decide_eq_false (rep_ne_non r1 h1)]; exact q⟩
  | in_ => exact ind false hb fun H' s' I' _ => ⟨.bl b, H, I', rfl, q⟩
  | notIn =>
    obtain ⟨c, hc, e'⟩ := Option.map_eq_some_iff.mp hb
    subst e'
    exact ind true hc fun H' s' I' _ => ⟨.bl (!c), H, I', rfl, q⟩
end

section
variable {g : Gx} {Lo : Out} {W : WX} {X : Cx} {a b c : Expr} {pos : Pos} {fa fb fc : Env → List D → Res D}
theorem cmp_two {L : Addr → Prop} {ρ : List Addr} {env : Env} {S : List D} {σ : L2.St} {H : Hp} {o : Cop} {ok : D → List D → Hp → Prop} {Q : V → Hp → Prop} (s : Sim g Lo L ρ env S σ H) (h : Fin g Lo W L ρ env σ ok (cmpF o fa fb env S) H)
    (n : ∀ b S2 H2, Ev ρ H H2 → Sim g Lo L ρ env S2 σ H2 → Fin g Lo W L ρ env σ ok (.ok (.bl b) S2) H2 → Q (.bl b) H2) : tOp (rC g o) (tE g Lo W (.weak 2) fa) (tE g Lo W (.weak 2) fb) σ H Q :=
  two s h fun x y v w S2 H2 e s2 r1 r2 h2 => by
    obtain ⟨z, e1, h2⟩ := h2.opt
    obtain ⟨v', e2, e1⟩ := Option.bind_eq_some_iff.mp e1
    obtain ⟨w', e3, e1⟩ := Option.bind_eq_some_iff.mp e1
    obtain ⟨b, e4, e1⟩ := Option.map_eq_some_iff.mp e1
    subst e1
    exact ⟨L, ρ, 1, 1, v', w', b, s2.read r1 e2, s2.read r2 e3, e4, n b S2 H2 e s2 h2⟩
theorem s_cmp (xg : Xg g X) {o : Cop} (ha : PEm g Lo W X (.weak 2) a fa) (hb : PEm g Lo W X (.weak 2) b fb) (hm : behindInMarks (cmpA o) b = false) : PEm g Lo W X (.fresh 1) (.Compare a [cmpA o] [b] pos) (cmpF o fa fb) := by
  refine (pe_cmpR (op_C xg o) ha hb hm).sub fun σ H Q h => ?_
  obtain ⟨L, ρ, env, S, s, h⟩ := tE_to h
  exact cmp_two s h fun b S2 H2 e s2 h2 => oldF s2 h2 (.bl b)
theorem s_cmpT (xg : Xg g X) {o : Cop} (ha : PEm g Lo W X (.weak 2) a fa) (hb : PEm g Lo W X (.weak 2) b fb) (hm : behindInMarks (cmpA o) b = false) : PTm g Lo W X (.Compare a [cmpA o] [b] pos) (cmpF o fa fb) := by
  refine (pt_cmpR (op_C xg o) ha hb hm).sub fun σ H Q h => ?_
  obtain ⟨L, ρ, env, S, s, h⟩ := tT_to h
  exact cmp_two s h fun b S2 H2 e s2 h2 => ⟨b, rfl, h2.ok s2 b rfl⟩
theorem chain_three {L : Addr → Prop} {ρ : List Addr} {env : Env} {S : List D} {σ : L2.St} {H : Hp} {o o' : Cop} {ok : D → List D → Hp → Prop} {Q : V → Hp → Prop} (s : Sim g Lo L ρ env S σ H) (h : Fin g Lo W L ρ env σ ok (chainF o o' fa fb fc env S) H)
    (n : ∀ b S2 H2, Ev ρ H H2 → Sim g Lo L ρ env S2 σ H2 → Fin g Lo W L ρ env σ ok (.ok (.bl b) S2) H2 → Q (.bl b) H2) : tChain (rC g o) (rC g o') (tE g Lo W (.weak 0) fa) (tE g Lo W (.weak 0) fb) (tE g Lo W (.weak 0) fc) σ H Q :=
  two s h fun x y v w S2 H2 e s2 r1 r2 h2 => by
    split at h2
    · rename_i e1
      refine ⟨L, ρ, 0, 0, v, w, true, .inl r1, .inl r2, e1, true, rfl, ?_⟩
      refine part s2 h2 fun z u S3 H3 e3 s3 r3 h3 => ?_
      obtain ⟨q, e4, h3⟩ := h3.opt
      obtain ⟨b, e5, e4⟩ := Option.map_eq_some_iff.mp e4
      subst e4
      exact ⟨L, ρ, 0, 0, w, u, b, .inl (e3.rep s2 r2), .inl r3, e5, n b S3 H3 (e.trans e3) s3 h3⟩
    · rename_i e1
      exact ⟨L, ρ, 0, 0, v, w, false, .inl r1, .inl r2, e1, false, rfl, n false S2 H2 e s2 h2⟩
    · exact h2.elim
theorem s_chain (xg : Xg g X) {o o' : Cop} (ha : PEm g Lo W X (.weak 0) a fa) (hb : PEm g Lo W X (.weak 0) b fb) (hc : PEm g Lo W X (.weak 0) c fc) (hm : lastMarks [cmpA o, cmpA o'] [b, c] = false) : PEm g Lo W X (.fresh 1) (.Compare a [cmpA o, cmpA o'] [b, c] pos) (chainF o o' fa fb fc) := by
  refine (pe_chain (op_C xg o) (op_C xg o') ha hb hc hm).sub fun σ H Q h => ?_
  obtain ⟨L, ρ, env, S, s, h⟩ := tE_to h
  exact chain_three s h fun b S2 H2 e s2 h2 => oldF s2 h2 (.bl b)
theorem s_chainT (xg : Xg g X) {o o' : Cop} (ha : PEm g Lo W X (.weak 0) a fa) (hb : PEm g Lo W X (.weak 0) b fb) (hc : PEm g Lo W X (.weak 0) c fc) (hm : lastMarks [cmpA o, cmpA o'] [b, c] = false) : PTm g Lo W X (.Compare a [cmpA o, cmpA o'] [b, c] pos) (chainF o o' fa fb fc) := by
  refine (pt_chain (op_C xg o) (op_C xg o') ha hb hc hm).sub fun σ H Q h => ?_
  obtain ⟨L, ρ, env, S, s, h⟩ := tT_to h
  exact chain_three s h fun b S2 H2 e s2 h2 => ⟨b, rfl, h2.ok s2 b rfl⟩
end
end BP
end

section
set_option autoImplicit false
set_option linter.all false
set_option maxRecDepth 100000
/-! BPb: subscripts, slices, fields, displays, builtins, isinstance. -/
namespace BP
open PySem PySem.Spec PyProof.Rows L2

section
variable {g : Gx} {Lo : Out} {W : WX} {X : Cx} {a b c : Expr} {pos : Pos} {fa fb fc : Env → List D → Res D}

/-! ### subscripts -/
theorem atD_eq {R : V → D → Prop} {xs : List V} {ds : List D} {i : Int} {d : D} (r : All2 R xs ds) (e : atD ds i = some d) : ∃ x, atI xs i = some x ∧ R x d := by
  unfold atD at e
  obtain ⟨j, e1, e2⟩ := Option.bind_eq_some_iff.mp e
  obtain ⟨x, e3, q⟩ := r.get e2
  refine ⟨x, ?_, q⟩
  unfold atI
  have : ixN xs.length i = some j := by rw [r.length]; exact e1
  rw [this]
  exact e3
def rX (g : Gx) : R2 := fun x y H Q => ∃ L ρ n v w d, RepR g L ρ H n x v ∧ RepR g L ρ H 0 y w ∧ idxD v w = some d ∧ ∀ z, RepW g L ρ H n z d → Q z H
theorem ix_X (xg : Xg g X) : IxR X (rX g) := by
  intro value slice pins s σ H x y v u Q I rx ry h hs
  obtain ⟨L, ρ, n, d, e, w, r1, r2, hb, q⟩ := h
  have hP := xg.prog; have hw := xg.w; have hK := xg.K; have hu := xg.hu
  unfold idxD at hb
  split at hb
  · cases r2.int
    obtain ⟨a, xs, rfl, h1, q1⟩ := r1.lst
    obtain ⟨z, e1, q2⟩ := atD_eq q1 hb
    exact ix_list value slice pins s σ H _ _ v u Q I rx ry ⟨a, xs, _, z, rfl, rfl, .of h1, e1, q z q2⟩ hs
  · cases r2.int
    obtain ⟨a, xs, rfl, h1, q1⟩ := r1.tup
    obtain ⟨z, e1, q2⟩ := atD_eq q1 hb
    exact ix_tup value slice pins s σ H _ _ v u Q I rx ry ⟨a, xs, _, z, rfl, rfl, .of h1, e1, q z q2⟩ hs
  · rename_i nk kvs
    obtain ⟨k, e1, e2⟩ := Option.bind_eq_some_iff.mp hb
    cases nk with
    | false =>
      obtain ⟨a, kv, rfl, h1, q1⟩ := r1.dK
      obtain ⟨j, rfl, rfl⟩ := repr_keyK r2 e1
      obtain ⟨z, e3, q2⟩ := (dk_find q1 j).2 _ e2
      obtain rfl : v = Value.ref a := rx
      exact tail_any (dict_typeIs I (DGet.k (k := j) h1)) PySem.F.slot_dict_getitem.lookup (d_getItem (by omega) I (by have := DGet.k (k := j) h1; rw [e3] at this; exact this) ry fun w' s3 I3 rw' => ⟨z, H, I3, rw', q z q2⟩) hs
    | true =>
      obtain ⟨a, es, rfl, h1, hk, q1⟩ := r1.dN
      obtain ⟨bb, rfl, n1, n2⟩ := repr_key r2 e1
      obtain ⟨z, e3, q2⟩ := (esr_get q1 k).2 _ e2
      obtain rfl : v = Value.ref a := rx
      obtain rfl : u = Value.ref bb := ry
      rw [← hP, ← hw] at h1
      obtain ⟨_, _, xs, _, dd⟩ := dn_at I h1 hk
      exact tail_any dd.typeIs PySem.F.slot_dict_getitem.lookup (n_getItem (by omega) I h1 hk n1 n2 e3 fun w' s3 I3 rw' => ⟨z, H, I3, rw', q z q2⟩) hs
  · cases hb
theorem s_idx (xg : Xg g X) {n : Nat} (ha : PEm g Lo W X (.weak (n + 1)) a fa) (hb : PEm g Lo W X (.weak 0) b fb) (hs : PlainIx b) : PEm g Lo W X (.weak n) (.Subscript a b pos) (idxF fa fb) := by
  refine (pe_ix (ix_X xg) ha hb hs).sub fun σ H Q h => ?_
  obtain ⟨L, ρ, env, S, s, h⟩ := tE_to h
  exact two s h fun x y v w S2 H2 e s2 r1 r2 h2 => by
    obtain ⟨z, e1, h2⟩ := h2.opt
    obtain ⟨v', e2, e1⟩ := Option.bind_eq_some_iff.mp e1
    exact ⟨L, ρ, n, v', w, z, s2.read r1 e2, .inl r2, e1, fun p r => oldW s2 h2 r⟩
theorem Fin.impS {α : Type} {L : Addr → Prop} {ρ : List Addr} {env : Env} {σ : L2.St} {ok ok' : α → List D → Hp → Prop} {r : Res α} {H : Hp} (h : Fin g Lo W L ρ env σ ok r H) (i : ∀ v S' H', Ev ρ H H' → Sim g Lo L ρ env S' σ H' → ok v S' H' → ok' v S' H') : Fin g Lo W L ρ env σ ok' r H := by
  cases r with
  | ok v S' => exact fun H1 e1 s1 => i _ _ _ e1 s1 (h H1 e1 s1)
  | exc c fs S' => exact h
  | stuck => exact h
/-- what is a value is one's own -/
theorem PEm.ofRep (h : PEm g Lo W X (.weak 0) a fa) : PEm g Lo W X (.fresh 0) a fa := PE.sub h fun σ H Q t => by
  obtain ⟨L, ρ, env, S, s, h⟩ := tE_to t
  exact tE_of s (h.impS fun v S' H' _ s' k x r => k x ⟨[], .imm0 r (.inl rfl), by simp, (fun a ha => by cases ha), CellsR.nil s'.cells⟩)

/-! ### slices -/
theorem sIx_clip (n d : Nat) (o : Option Int) : HT.sIx n d o = clipI n d o := by
  cases o with
  | none => rfl
  | some i =>
    unfold HT.sIx clipI
    simp only
    split
    · omega
    · omega
theorem all2_cut {R : V → D → Prop} {xs : List V} {ds : List D} (r : All2 R xs ds) (lo hi : Option Int) : All2 R (cutV xs lo hi) (cutL ds lo hi) := by
  unfold cutV cutL
  rw [sIx_clip, sIx_clip, r.length]
  exact (r.drop _).take _
theorem cutL_length (ds : List D) (lo hi : Option Int) : (cutL ds lo hi).length ≤ ds.length := by
  unfold cutL
  rw [List.length_take, List.length_drop]
  omega
def rS (g : Gx) (Lo : Out) (W : WX) : V → Option Int → Option Int → Hp → VK → Prop := fun x lo hi H Q => ∃ L ρ env S σ v d, Sim g Lo L ρ env S σ H ∧ RepR g L ρ H 0 x v ∧ sliceD v lo hi = some d ∧ Fin g Lo W L ρ env σ (okE g L ρ H (.fresh 1) Q) (.ok d S) H
theorem all2_ints {L : Addr → Prop} {ρ : List Addr} {H : Hp} : ∀ ns : List Int, All2 (Rep g L ρ H) (ns.map V.int) (ns.map D.int)
  | [] => .nil
  | n :: ns => .cons (.int n) (all2_ints ns)
theorem sl_S (xg : Xg g X) : SlR X (rS g Lo W) := by
  intro pins s σ H x v vl vu lo hi sl Q I rx hs pl pu h
  obtain ⟨L, ρ, env, S, τ, d, w, sm, r1, hb, h2⟩ := h
  have hK := xg.K
  unfold sliceD at hb
  split at hb
  · cases hb
    obtain ⟨a, xs, rfl, h1, q1⟩ := r1.lst
    exact sl_list pins s σ H _ v vl vu lo hi sl Q I rx hs pl pu ⟨a, xs, rfl, .of h1, newLst sm (.refl _ _) h2 (all2_cut q1 lo hi)⟩
  · cases hb
    have t1 := r1.tupS sm
    obtain ⟨a, xs, rfl, h1, q1⟩ := r1.tup
    refine sl_tupA pins s σ H _ v vl vu lo hi sl Q I rx hs pl pu ⟨a, xs, rfl, .of h1, fun hw => ?_, fun _ => newTup sm (.refl _ _) h2 (all2_cut q1 lo hi)⟩
    rw [sIx_clip, sIx_clip, q1.length] at hw
    refine oldF sm h2 ?_
    have hc : ∀ ds : List D, clipI ds.length 0 lo = 0 ∧ clipI ds.length ds.length hi = ds.length → cutL ds lo hi = ds := fun ds hw => by
      unfold cutL
      rw [hw.1, hw.2]
      simp
    rw [hc _ hw]
    exact t1
  · cases hb
    rename_i ns
    have hq : ∃ a, x = .ref a ∧ SqL X.K H a (ns.map V.int) := by
      rcases r1 with r1 | r1
      · cases r1 with
        | scr hh =>
          rcases hh with ⟨o, ho, _⟩ | hh
          · exact ⟨_, rfl, .inl (.inr ⟨o, ho⟩)⟩
          · exact ⟨_, rfl, by rw [hK]; exact hh H⟩
      · cases r1
    obtain ⟨a, rfl, hq⟩ := hq
    exact sl_list pins s σ H _ v vl vu lo hi sl Q I rx hs pl pu ⟨a, _, rfl, hq, newLst sm (.refl _ _) h2 (all2_cut (all2_ints ns) lo hi)⟩
  · cases hb
abbrev tOx (g : Gx) (Lo : Out) (W : WX) (f : Env → List D → Res (Option Int)) : TO := fun σ H Q => ∃ L ρ env S, Sim g Lo L ρ env S σ H ∧ Fin g Lo W L ρ env σ (fun v _ H' => Q v H') (f env S) H
abbrev POm (g : Gx) (Lo : Out) (W : WX) (X : Cx) (e : Option Expr) (f : Env → List D → Res (Option Int)) : Prop := PO X e (tOx g Lo W f)
theorem s_oxNone : POm g Lo W X none fun _ S => .ok none S := ⟨fun pins s σ H Q I ⟨L, ρ, env, S, sm, h⟩ => po_none.run pins s σ H Q I (h.ok sm)⟩
theorem s_oxSome (ha : PEm g Lo W X (.weak 0) a fa) : POm g Lo W X (some a) (oxF fa) := ⟨fun pins s σ H Q I ⟨L, ρ, env, S, sm, h⟩ => (po_some ha).run pins s σ H Q I (part sm h fun x v S1 H1 e s1 r h1 => by
    cases v with
    | int i => cases (show Rep g L ρ H1 x (.int i) from r); exact ⟨i, rfl, h1.ok s1⟩
    | _ => exact h1.elim)⟩
/-- the end is measured later -/
theorem Fin.later {L : Addr → Prop} {ρ : List Addr} {env : Env} {S1 : List D} {σ : L2.St} {H H1 : Hp} {Q : VK} {n : Nat} {r : Res D} (e : Ev ρ H H1) (s1 : Sim g Lo L ρ env S1 σ H1) (h : Fin g Lo W L ρ env σ (okE g L ρ H (.fresh n) Q) r H1) : Fin g Lo W L ρ env σ (okE g L ρ H1 (.fresh n) Q) r H1 :=
  h.base s1 fun v S' H' e' k x r => k x (by
    obtain ⟨A, o, nd, z, cl⟩ := r
    refine ⟨A, o, nd, (fun a ha => e.none (z a ha) fun hr => ?_), cl⟩
    obtain ⟨u, q, _⟩ := s1.live a (s1.inL hr)
    rw [z a ha] at q; cases q)
theorem s_slice (xg : Xg g X) {lo hi : Option Expr} {fl fh : Env → List D → Res (Option Int)} {p2 : Pos} (ha : PEm g Lo W X (.weak 1) a fa) (hl : POm g Lo W X lo fl) (hh : POm g Lo W X hi fh) : PEm g Lo W X (.fresh 1) (.Subscript a (.Slice lo hi none p2) pos) (sliceF fa fl fh) := by
  refine (pe_slice (sl_S (Lo := Lo) (W := W) xg) ha hl hh).sub fun σ H Q h => ?_
  obtain ⟨L, ρ, env, S, s, h⟩ := tE_to h
  refine part s h fun x v S1 H1 e1 s1 r h1 => ⟨L, ρ, env, S1, s1, h1.bind.imp fun l S2 H2 ⟨e2, s2, h2⟩ => ⟨L, ρ, env, S2, s2, h2.bind.imp fun u S3 H3 ⟨e3, s3, h3⟩ => ?_⟩⟩
  obtain ⟨z, q1, h3⟩ := h3.opt
  obtain ⟨v', q2, q1⟩ := Option.bind_eq_some_iff.mp q1
  exact ⟨L, ρ, env, S3, σ, v', z, s3, s3.read (RepW.ev s2 e3 (RepW.ev s1 e2 r)) q2, q1, h3.later ((e1.trans e2).trans e3) s3⟩
theorem s_rev {k : Nat} {p1 p2 p3 : Pos} (ha : PEm g Lo W X (.weak 1) a fa) : PEm g Lo W X (.fresh 1) (.Subscript a (.Slice none none (some (.UnaryOp .USub (.Constant (.int 1) k p1) p2)) p3) pos) (revF fa) := by
  refine (pe_revL ha).sub fun σ H Q h => ?_
  obtain ⟨L, ρ, env, S, s, h⟩ := tE_to h
  refine part s h fun x v S1 H1 e1 s1 r h1 => ?_
  obtain ⟨z, q1, h1⟩ := h1.opt
  cases v with
  | lst ds =>
    cases q1
    have r' : RepR g L ρ H1 0 x (.lst ds) := s1.read (v' := .lst ds) r rfl
    obtain ⟨a, xs, rfl, h2, q⟩ := r'.lst
    exact ⟨a, xs, rfl, .of h2, newLst s1 e1 h1 q.reverse⟩
  | _ => cases q1

/-! ### fields -/
/-- what the written part says of the classes -/
structure ClsOk (g : Gx) : Prop where
  cls : ∀ (c n : Nat) (f : Str), (g.flds c)[n]? = some f → Cls g.K (g.ca c) ∧ NoAttr g.K (g.ca c) f
  nd : ∀ c, (g.flds c).Nodup
theorem lookup_at {fs : List (Str × V)} {names : List Str} {i : Nat} {f : Str} {x : V} (h : fs.map (·.1) = names) (nd : names.Nodup) (e1 : names[i]? = some f) (e2 : (fs.map (·.2))[i]? = some x) : fs.lookup f = some x := by
  subst h
  induction fs generalizing i with
  | nil => simp at e1
  | cons p ps ih =>
    obtain ⟨k, v⟩ := p
    rw [List.lookup_cons]
    rw [List.map_cons, List.nodup_cons] at nd
    cases i with
    | zero =>
      simp at e1 e2
      subst e1 e2
      simp
    | succ i =>
      simp only [List.map_cons, List.getElem?_cons_succ] at e1 e2
      have : (f == k) = false := by
        rw [beq_eq_false_iff_ne]
        rintro rfl
        exact nd.1 (List.mem_of_getElem? e1)
      rw [this]
      first | exact ih e2 nd.2 e1 | exact ih e2 e1 nd.2
theorem s_fld (xg : Xg g X) (ck : ClsOk g) {ci fi : Nat} {f : Str} (ha : PEm g Lo W X (.weak 0) a fa) (hf : (g.flds ci)[fi]? = some f) (hb : attributeBase a f X.env (eval a X.env) = eval a X.env) : PEm g Lo W X (.fresh 0) (.Attribute a f pos) (fldF ci fi fa) := by
  refine (pe_fld ha hb).sub fun σ H Q h => ?_
  obtain ⟨L, ρ, env, S, s, h⟩ := tE_to h
  refine part s h fun x v S1 H1 e1 s1 r h1 => ?_
  cases v with
  | ins c' ds =>
    have h1' : Fin g Lo W L ρ env σ (okE g L ρ H (.fresh 0) Q) (if c' = ci then Res.opt ds[fi]? S1 else .stuck) H1 := h1
    clear h1
    have h1 := h1'
    split at h1
    · rename_i hc
      subst hc
      obtain ⟨d, e2, h1⟩ := h1.opt
      cases (show Rep g L ρ H1 x (.ins c' ds) from r) with
      | @ins a dx c fs ds h2 n rs e4 =>
        obtain ⟨z, e5, q⟩ := rs.all2.get e2
        obtain ⟨k1, k2⟩ := ck.cls c' fi f hf
        rw [← xg.K] at k1 k2
        have hlt : fi < ds.length := (List.getElem?_eq_some_iff.mp e2).1
        refine ⟨a, _, dx, fs, z, rfl, h2, k1, k2, lookup_at e4 ((ck.nd c').sublist (List.take_sublist _ _)) ?_ e5, oldF s1 h1 q (.inl rfl)⟩
        rw [List.getElem?_take_of_lt hlt]
        exact hf
    · exact h1.elim
  | _ => exact h1.elim

/-! ### argument lists, displays -/
abbrev PAm (g : Gx) (Lo : Out) (W : WX) (X : Cx) (n : Nat) (es : List Expr) (f : Env → List D → Res (List D)) : Prop := PA X es (tA g Lo W n f)
abbrev okA (g : Gx) (L : Addr → Prop) (ρ : List Addr) (n : Nat) (Q : List V → Hp → Prop) : List D → List D → Hp → Prop := fun vs _ H' => ∀ xs, All2 (RepW g L ρ H' n) xs vs → Q xs H'
theorem tA_of {L : Addr → Prop} {ρ : List Addr} {env : Env} {S : List D} {σ : L2.St} {H : Hp} {n : Nat} {Q : List V → Hp → Prop} {f : Env → List D → Res (List D)} (s : Sim g Lo L ρ env S σ H) (h : Fin g Lo W L ρ env σ (okA g L ρ n Q) (f env S) H) : tA g Lo W n f σ H Q := by
  refine ⟨L, ρ, env, S, s, ?_⟩
  unfold Fin okA at h
  cases q : f env S with
  | ok v S' => rw [q] at h; exact fun x H' e s' r => h H' e s' x r
  | exc c fs S' => rw [q] at h; exact h
  | stuck => rw [q] at h; exact h
theorem tA_to {σ : L2.St} {H : Hp} {n : Nat} {Q : List V → Hp → Prop} {f : Env → List D → Res (List D)} (h : tA g Lo W n f σ H Q) : ∃ L ρ env S, Sim g Lo L ρ env S σ H ∧ Fin g Lo W L ρ env σ (okA g L ρ n Q) (f env S) H := by
  obtain ⟨L, ρ, env, S, s, h⟩ := h
  refine ⟨L, ρ, env, S, s, ?_⟩
  unfold Fin okA
  cases q : f env S with
  | ok v S' => rw [q] at h; exact fun H' e s' x r => h x H' e s' r
  | exc c fs S' => rw [q] at h; exact h
  | stuck => rw [q] at h; exact h
theorem partA {L : Addr → Prop} {ρ : List Addr} {env : Env} {S : List D} {σ : L2.St} {H : Hp} {n : Nat} {β : Type} {ok : β → List D → Hp → Prop} {f : Env → List D → Res (List D)} {k : List D → List D → Res β} {R : List V → Hp → Prop} (s : Sim g Lo L ρ env S σ H) (h : Fin g Lo W L ρ env σ ok ((f env S).bind k) H)
    (q : ∀ xs vs S1 H1, Ev ρ H H1 → Sim g Lo L ρ env S1 σ H1 → All2 (RepW g L ρ H1 n) xs vs → Fin g Lo W L ρ env σ ok (k vs S1) H1 → R xs H1) : tA g Lo W n f σ H R :=
  tA_of s (h.bind.imp fun v S1 H1 ⟨e, s1, h1⟩ x r => q x v S1 H1 e s1 r h1)
theorem a_nil {n : Nat} : PAm g Lo W X n [] nilF := ⟨fun po p s σ H Q I h => by
  obtain ⟨L, ρ, env, S, sm, h⟩ := tA_to h
  exact pa_nil.run po p s σ H Q I (h.ok sm [] .nil)⟩
theorem a_cons {n : Nat} {es : List Expr} {fr : Env → List D → Res (List D)} (ha : PEm g Lo W X (.weak n) a fa) (hr : PAm g Lo W X n es fr) (hs : starEach (a :: es) X.env = (false, eval a X.env) :: starEach es X.env) : PAm g Lo W X n (a :: es) (consF fa fr) := by
  refine PA.sub (pa_cons ha hr hs) fun σ H Q h => ?_
  obtain ⟨L, ρ, env, S, s, h⟩ := tA_to h
  refine part s h fun x v S1 H1 e1 s1 r h1 => ?_
  refine partA s1 h1 fun xs vs S2 H2 e2 s2 rs h2 => ?_
  exact h2.ok s2 (x :: xs) (.cons (RepW.ev s1 e2 r) rs)
theorem s_tup {es : List Expr} {fr : Env → List D → Res (List D)} {x1 : Nat} (hr : PAm g Lo W X 0 es fr) : PEm g Lo W X (.fresh 1) (.Tuple es x1 pos) (tupF fr) := by
  refine PE.sub (pe_tup hr) fun σ H Q h => ?_
  obtain ⟨L, ρ, env, S, s, h⟩ := tE_to h
  refine partA s h fun xs vs S1 H1 e1 s1 rs h1 => ?_
  split at h1
  · exact ⟨by rw [rs.length, ← lim_eq]; assumption, newTup s1 e1 h1 rs⟩
  · exact h1.elim
theorem s_lst {es : List Expr} {fr : Env → List D → Res (List D)} (hr : PAm g Lo W X 0 es fr) : PEm g Lo W X (.fresh 1) (.List es pos) (lstF fr) := by
  refine PE.sub (pe_lst hr) fun σ H Q h => ?_
  obtain ⟨L, ρ, env, S, s, h⟩ := tE_to h
  refine partA s h fun xs vs S1 H1 e1 s1 rs h1 => ?_
  split at h1
  · exact ⟨by rw [rs.length, ← lim_eq]; assumption, newLst s1 e1 h1 rs⟩
  · exact h1.elim
end
end BP
end

section
set_option autoImplicit false
set_option linter.all false
set_option maxRecDepth 100000
/-! BPf: builtins. -/
namespace BP
open PySem PySem.Spec PyProof.Rows L2

section
variable {g : Gx} {L : Addr → Prop} {ρ : List Addr} {H : Hp}
/-- a list or a tuple, read -/
theorem RepR.seq {n : Nat} {x : V} {v : D} {ds : List D} (h : RepR g L ρ H n x v) (e : seqD v = some ds) : ∃ a xs, x = .ref a ∧ (H a = some (.lst xs) ∨ H a = some (.tup xs)) ∧ All2 (RepW g L ρ H n) xs ds := by
  unfold seqD at e
  split at e
  · cases e
    obtain ⟨a, xs, h1, h2, h3⟩ := h.lst
    exact ⟨a, xs, h1, .inl h2, h3⟩
  · cases e
    obtain ⟨a, xs, h1, h2, h3⟩ := h.tup
    exact ⟨a, xs, h1, .inr h2, h3⟩
  · cases e
theorem repw0_int {n : Nat} {x : V} {i : Int} (h : RepW g L ρ H n x (.int i)) : x = .int i := by
  cases n with
  | zero => cases (show Rep g L ρ H x (.int i) from h); rfl
  | succ n =>
    rcases h with h | h
    · cases h; rfl
    · cases h
theorem repw0_bl {n : Nat} {x : V} {i : Bool} (h : RepW g L ρ H n x (.bl i)) : x = .bl i := by
  cases n with
  | zero => cases (show Rep g L ρ H x (.bl i) from h); rfl
  | succ n =>
    rcases h with h | h
    · cases h; rfl
    · cases h
theorem ints_rep {n : Nat} : ∀ {xs : List V} {ds : List D} {ns : List Int}, All2 (RepW g L ρ H n) xs ds → intsD ds = some ns → xs = ns.map V.int
  | _, _, _, .nil, e => by cases e; rfl
  | _, d :: _, _, .cons r t, e => by
    cases d with
    | int i =>
      obtain ⟨ms, e1, e2⟩ := Option.map_eq_some_iff.mp e
      subst e2
      rw [repw0_int r, ints_rep t e1]
      rfl
    | _ => cases e
/-- the truth of bools and ints -/
theorem trus_at {n : Nat} : ∀ {xs : List V} {ds : List D} {bs : List Bool} {its : List Value}, All2 (RepW g L ρ H n) xs ds → trusD ds = some bs → Vals xs its → ∀ (i : Nat) (u : Value), its[i]? = some u → ∃ b, bs[i]? = some b ∧ ((u = .bool b) ∨ ∃ k t, u = .int k t ∧ b = (k != 0))
  | _, _, _, _, .nil, e, rv, i, u, h => by cases rv; simp at h
  | _, d :: ds, bs, _, .cons r t, e, rv, i, u, h => by
    unfold trusD at e
    split at e
    · rename_i b bs' e1 e2
      cases e
      cases rv with
      | cons r1 r2 =>
        cases i with
        | zero =>
          simp at h
          subst h
          refine ⟨b, rfl, ?_⟩
          cases d with
          | bl k => cases e1; rw [repw0_bl r] at r1; exact .inl r1
          | int k => cases e1; rw [repw0_int r] at r1; obtain ⟨tk, q⟩ := r1; exact .inr ⟨k, tk, q, rfl⟩
          | _ => cases e1
        | succ i => exact trus_at t e2 r2 i u (by simpa using h)
    · cases e
theorem trusD_length : ∀ {ds : List D} {bs : List Bool}, trusD ds = some bs → ds.length = bs.length
  | [], _, e => by cases e; rfl
  | d :: ds, _, e => by
    unfold trusD at e
    split at e
    · cases e; simp [trusD_length (by assumption)]
    · cases e
theorem maxI_is : ∀ {ns : List Int} {m : Int}, maxI ns = some m → m ∈ ns ∧ ∀ y ∈ ns, y ≤ m
  | [], _, e => by cases e
  | [i], m, e => by cases e; simp
  | i :: j :: r, m, e => by
    obtain ⟨k, e1, e2⟩ := Option.map_eq_some_iff.mp (show (maxI (j :: r)).map (fun j => if j > i then j else i) = some m from e)
    obtain ⟨h1, h2⟩ := maxI_is e1
    subst e2
    split
    · refine ⟨List.mem_cons_of_mem _ h1, fun y hy => ?_⟩
      rcases List.mem_cons.mp hy with rfl | hy
      · omega
      · exact h2 y hy
    · refine ⟨List.mem_cons_self, fun y hy => ?_⟩
      rcases List.mem_cons.mp hy with rfl | hy
      · omega
      · have := h2 y hy; omega
theorem minI_is : ∀ {ns : List Int} {m : Int}, minI ns = some m → m ∈ ns ∧ ∀ y ∈ ns, m ≤ y
  | [], _, e => by cases e
  | [i], m, e => by cases e; simp
  | i :: j :: r, m, e => by
    obtain ⟨k, e1, e2⟩ := Option.map_eq_some_iff.mp (show (minI (j :: r)).map (fun j => if j < i then j else i) = some m from e)
    obtain ⟨h1, h2⟩ := minI_is e1
    subst e2
    split
    · refine ⟨List.mem_cons_of_mem _ h1, fun y hy => ?_⟩
      rcases List.mem_cons.mp hy with rfl | hy
      · omega
      · exact h2 y hy
    · refine ⟨List.mem_cons_self, fun y hy => ?_⟩
      rcases List.mem_cons.mp hy with rfl | hy
      · omega
      · have := h2 y hy; omega
/-- a key as a value -/
theorem nk_rep (nt : ∀ a xs, H a = some (.tup xs) → ¬ L a) {x : V} {k : Ky} (h : NK H x k) : Rep g L ρ H x (kyD k) := by
  induction h with
  | num i => exact .int i
  | text s => exact .str s
  | @tup a xs ks h1 h2 h3 ih =>
    refine .tup h1 (nt a xs h1) (Reps.of ?_)
    have go : ∀ (xs : List V) (ks : List Ky), xs.length = ks.length → (∀ (i : Nat) (x : V) (k : Ky), xs[i]? = some x → ks[i]? = some k → Rep g L ρ H x (kyD k)) → All2 (Rep g L ρ H) xs (kyDs ks) := by
      intro xs
      induction xs with
      | nil => intro ks hl _; cases ks with
        | nil => exact .nil
        | cons _ _ => cases hl
      | cons y ys ihy => intro ks hl f; cases ks with
        | nil => cases hl
        | cons k ks => exact .cons (f 0 y k rfl rfl) (ihy ks (by simpa using hl) fun i x k e1 e2 => f (i + 1) x k (by simpa using e1) (by simpa using e2))
    exact go xs ks h2 ih
theorem rep_kV (j : Key) : Rep g L ρ H (kV j) (kyD (kN j)) := by
  cases j with
  | inl i => exact .int i
  | inr s => exact .str s
end

section
variable {g : Gx} {Lo : Out} {W : WX} {X : Cx} {a b c : Expr} {pos : Pos} {fa fb fc : Env → List D → Res D}
theorem keys_rep {R : V → D → Prop} {L : Addr → Prop} {ρ : List Addr} {H : Hp} : ∀ {kvs : List (Key × V)} {ds : List (Ky × D)}, All2 (fun p q => p.1 = q.1 ∧ R p.2 q.2) (kvs.map fun p => (kN p.1, p.2)) ds → All2 (Rep g L ρ H) (kvs.map fun kv => kV kv.1) (keysD ds)
  | [], [], _ => .nil
  | p :: ps, q :: qs, .cons h t => .cons (by
      have h1 : kN p.1 = q.1 := h.1
      show Rep g L ρ H (kV p.1) (kyD q.1)
      rw [← h1]; exact rep_kV p.1) (keys_rep t)
theorem keysN_rep {R : V → D → Prop} {L : Addr → Prop} {ρ : List Addr} {H : Hp} (nt : ∀ a xs, H a = some (.tup xs) → ¬ L a) : ∀ {es : List En} {ds : List (Ky × D)}, KsOk H es → EsR R es ds → All2 (Rep g L ρ H) (es.map fun e => V.ref e.2.1) (keysD ds)
  | [], [], _, _ => .nil
  | p :: ps, q :: qs, hk, .cons h t => .cons (by
      have h1 : p.1 = q.1 := h.1
      show Rep g L ρ H (.ref p.2.1) (kyD q.1)
      rw [← h1]; exact nk_rep nt (hk p List.mem_cons_self).1) (keysN_rep nt (fun e he => hk e (List.mem_cons_of_mem _ he)) t)
def rB (g : Gx) (Lo : Out) (W : WX) (b : Bi) (n : Nat) : List V → Hp → VK → Prop := fun xs H Q => ∃ L ρ env S σ vs v, Sim g Lo L ρ env S σ H ∧ All2 (RepR g L ρ H n) xs vs ∧ biD b vs = some v ∧ Fin g Lo W L ρ env σ (okE g L ρ H (.fresh 1) Q) (.ok v S) H
theorem all2_one {R : V → D → Prop} {xs : List V} {v : D} (h : All2 R xs [v]) : ∃ x, xs = [x] ∧ R x v := by
  cases h with
  | cons r t => cases t; exact ⟨_, rfl, r⟩
theorem all2_two {R : V → D → Prop} {xs : List V} {v w : D} (h : All2 R xs [v, w]) : ∃ x y, xs = [x, y] ∧ R x v ∧ R y w := by
  cases h with
  | cons r t => cases t with
    | cons r' t => cases t; exact ⟨_, _, rfl, r, r'⟩
/-- what a builtin of one argument wants -/
theorem bi_one {vs : List D} {v : D} {f : D → Option D} (e : arg1 f vs = some v) : ∃ x, vs = [x] ∧ f x = some v := by
  match vs, e with
  | [x], e => exact ⟨x, rfl, e⟩
  | [], e => cases e
  | _ :: _ :: _, e => cases e
theorem bi_two {vs : List D} {v : D} {f : D → D → Option D} (e : arg2 f vs = some v) : ∃ x y, vs = [x, y] ∧ f x y = some v := by
  match vs, e with
  | [x, y], e => exact ⟨x, y, rfl, e⟩
  | [], e => cases e
  | [_], e => cases e
  | _ :: _ :: _ :: _, e => cases e
theorem c_len (xg : Xg g X) : CallR X (.builtin "len") (rB g Lo W .len 1) := by
  intro pins s σ H xs us Q I r h
  obtain ⟨L, ρ, env, S, τ, vs, v, sm, rs, e, h⟩ := h
  obtain ⟨w, rfl, e⟩ := bi_one e
  obtain ⟨x, rfl, rx⟩ := all2_one rs
  obtain ⟨ds, e1, e2⟩ := Option.map_eq_some_iff.mp e
  subst e2
  have hP := xg.prog; have hw := xg.w; have hu := xg.hu
  cases w with
  | lst ds =>
    cases e1
    obtain ⟨a, ys, rfl, h1, q⟩ := rx.lst
    exact call_len_seq pins s σ H _ us Q I r ⟨a, ys, rfl, .inl (.of h1), by rw [q.length]; exact oldF sm h (.int _)⟩
  | tup ds =>
    cases e1
    obtain ⟨a, ys, rfl, h1, q⟩ := rx.tup
    exact call_len_seq pins s σ H _ us Q I r ⟨a, ys, rfl, .inr (.of h1), by rw [q.length]; exact oldF sm h (.int _)⟩
  | dct nk kvs =>
    cases e1
    have hl : (keysD kvs).length = kvs.length := by simp [keysD]
    cases nk with
    | false =>
      obtain ⟨a, ys, rfl, h1, q⟩ := rx.dK
      have hq := q.length
      rw [List.length_map] at hq
      exact call_lenD pins s σ H _ us Q I r ⟨a, ys, rfl, h1, by rw [hq, ← hl]; exact oldF sm h (.int _)⟩
    | true =>
      obtain ⟨a, es, rfl, h1, hk, q⟩ := rx.dN
      obtain ⟨u, rfl, ru⟩ := vals1 r
      obtain rfl : u = Value.ref a := ru
      rw [← hP, ← hw] at h1
      have hq := q.length
      rw [List.length_map] at hq
      exact n_len I h1 hk fun w s' I' rw' => ⟨_, H, I', rw', by rw [hq, ← hl]; exact oldF sm h (.int _)⟩
  | _ => cases e1
theorem c_list (xg : Xg g X) : CallR X (.type "list") (rB g Lo W .list 0) := by
  intro pins s σ H xs us Q I r h
  obtain ⟨L, ρ, env, S, τ, vs, v, sm, rs, e, h⟩ := h
  obtain ⟨w, rfl, e⟩ := bi_one e
  obtain ⟨x, rfl, rx⟩ := all2_one rs
  obtain ⟨ds, e1, e2⟩ := Option.map_eq_some_iff.mp e
  subst e2
  have hP := xg.prog; have hw := xg.w; have hu := xg.hu; have hc := xg.calm
  cases w with
  | lst ds =>
    cases e1
    obtain ⟨a, ys, rfl, h1, q⟩ := rx.lst
    exact call_list_of pins s σ H _ us Q I r ⟨a, ys, rfl, .inl (.of h1), newLst sm (.refl _ _) h q⟩
  | tup ds =>
    cases e1
    obtain ⟨a, ys, rfl, h1, q⟩ := rx.tup
    exact call_list_of pins s σ H _ us Q I r ⟨a, ys, rfl, .inr (.of h1), newLst sm (.refl _ _) h q⟩
  | dct nk kvs =>
    cases e1
    cases nk with
    | false =>
      obtain ⟨a, ys, rfl, h1, q⟩ := rx.dK
      exact call_list_dK hc pins s σ H _ us Q I r ⟨a, ys, rfl, h1, newLst sm (.refl _ _) h (keys_rep q)⟩
    | true =>
      obtain ⟨a, es, rfl, h1, hk, q⟩ := rx.dN
      obtain ⟨u, rfl, ru⟩ := vals1 r
      obtain rfl : u = Value.ref a := ru
      rw [← hP, ← hw] at h1
      exact n_list (I.ok.hd hc) I h1 fun w p s' hp I' rw' => ⟨_, _, I', rw', newLst sm (.refl _ _) h (keysN_rep (fun a xs z => sm.ntup z) hk q) p hp⟩
  | _ => cases e1
theorem c_tuple (xg : Xg g X) : CallR X (.type "tuple") (rB g Lo W .tuple 0) := by
  intro pins s σ H xs us Q I r h
  obtain ⟨L, ρ, env, S, τ, vs, v, sm, rs, e, h⟩ := h
  obtain ⟨w, rfl, e⟩ := bi_one e
  obtain ⟨x, rfl, rx⟩ := all2_one rs
  cases w with
  | lst ds =>
    cases e
    obtain ⟨a, ys, rfl, h1, q⟩ := rx.lst
    exact call_tuple_of pins s σ H _ us Q I r ⟨a, ys, rfl, .inl ⟨.of h1, newTup sm (.refl _ _) h q⟩⟩
  | tup ds =>
    cases e
    have t1 := rx.tupS sm
    obtain ⟨a, ys, rfl, h1, q⟩ := rx.tup
    exact call_tuple_of pins s σ H _ us Q I r ⟨a, ys, rfl, .inr ⟨.of h1, oldF sm h t1⟩⟩
  | _ => cases e
theorem c_int : CallR X (.type "int") (rB g Lo W .int 0) := by
  intro pins s σ H xs us Q I r h
  obtain ⟨L, ρ, env, S, τ, vs, v, sm, rs, e, h⟩ := h
  obtain ⟨w, rfl, e⟩ := bi_one e
  obtain ⟨x, rfl, rx⟩ := all2_one rs
  cases w with
  | int i => cases e; cases rx.int; exact call_int1 pins s σ H _ us Q I r (.inl ⟨i, rfl, oldF sm h (.int i)⟩)
  | bl i => cases e; cases rx.bl; exact call_int1 pins s σ H _ us Q I r (.inr ⟨i, rfl, oldF sm h (.int _)⟩)
  | _ => cases e
theorem c_abs : CallR X (.builtin "abs") (rB g Lo W .abs 0) := by
  intro pins s σ H xs us Q I r h
  obtain ⟨L, ρ, env, S, τ, vs, v, sm, rs, e, h⟩ := h
  obtain ⟨w, rfl, e⟩ := bi_one e
  obtain ⟨x, rfl, rx⟩ := all2_one rs
  cases w with
  | int i => cases e; cases rx.int; exact call_abs pins s σ H _ us Q I r ⟨i, rfl, oldF sm h (.int _)⟩
  | _ => cases e
theorem c_max2 (xg : Xg g X) : CallR X (.builtin "max") (rB g Lo W .max2 0) := by
  intro pins s σ H xs us Q I r h
  obtain ⟨L, ρ, env, S, τ, vs, v, sm, rs, e, h⟩ := h
  obtain ⟨w, w', rfl, e⟩ := bi_two e
  obtain ⟨x, y, rfl, r1, r2⟩ := all2_two rs
  cases w with
  | int i => cases w' with
    | int j => cases e; cases r1.int; cases r2.int; exact call_max2 xg.calm pins s σ H _ us Q I r ⟨_, _, rfl, oldF sm h (.int _)⟩
    | _ => cases e
  | _ => cases e
theorem c_min2 (xg : Xg g X) : CallR X (.builtin "min") (rB g Lo W .min2 0) := by
  intro pins s σ H xs us Q I r h
  obtain ⟨L, ρ, env, S, τ, vs, v, sm, rs, e, h⟩ := h
  obtain ⟨w, w', rfl, e⟩ := bi_two e
  obtain ⟨x, y, rfl, r1, r2⟩ := all2_two rs
  cases w with
  | int i => cases w' with
    | int j => cases e; cases r1.int; cases r2.int; exact call_min2 xg.calm pins s σ H _ us Q I r ⟨_, _, rfl, oldF sm h (.int _)⟩
    | _ => cases e
  | _ => cases e
theorem pos_of_mem {ns : List Int} {m : Int} (h : m ∈ ns) : 0 < ns.length := List.length_pos_of_mem h
theorem c_maxL (xg : Xg g X) : CallR X (.builtin "max") (rB g Lo W .maxL 0) := by
  intro pins s σ H xs us Q I r h
  obtain ⟨L, ρ, env, S, τ, vs, v, sm, rs, e, h⟩ := h
  obtain ⟨w, rfl, e⟩ := bi_one e
  obtain ⟨x, rfl, rx⟩ := all2_one rs
  cases w with
  | lst ds =>
    obtain ⟨m, e1, e2⟩ := Option.map_eq_some_iff.mp (show ((intsD ds).bind maxI).map D.int = some v from e)
    subst e2
    obtain ⟨ns, e3, e4⟩ := Option.bind_eq_some_iff.mp e1
    obtain ⟨a, ys, rfl, h1, q⟩ := rx.lst
    have q' := ints_rep q e3
    subst q'
    obtain ⟨m1, m2⟩ := maxI_is e4
    refine cr_max xg.calm pins s σ H _ us Q I r ⟨a, ns, rfl, .of h1, pos_of_mem m1, fun m' p1 p2 => ?_⟩
    have : m' = m := Int.le_antisymm (m2 _ p1) (p2 _ m1)
    subst this
    exact oldF sm h (.int _)
  | _ => cases e
theorem c_minL (xg : Xg g X) : CallR X (.builtin "min") (rB g Lo W .minL 0) := by
  intro pins s σ H xs us Q I r h
  obtain ⟨L, ρ, env, S, τ, vs, v, sm, rs, e, h⟩ := h
  obtain ⟨w, rfl, e⟩ := bi_one e
  obtain ⟨x, rfl, rx⟩ := all2_one rs
  cases w with
  | lst ds =>
    obtain ⟨m, e1, e2⟩ := Option.map_eq_some_iff.mp (show ((intsD ds).bind minI).map D.int = some v from e)
    subst e2
    obtain ⟨ns, e3, e4⟩ := Option.bind_eq_some_iff.mp e1
    obtain ⟨a, ys, rfl, h1, q⟩ := rx.lst
    have q' := ints_rep q e3
    subst q'
    obtain ⟨m1, m2⟩ := minI_is e4
    refine cr_min xg.calm pins s σ H _ us Q I r ⟨a, ns, rfl, .of h1, pos_of_mem m1, fun m' p1 p2 => ?_⟩
    have : m' = m := Int.le_antisymm (p2 _ m1) (m2 _ p1)
    subst this
    exact oldF sm h (.int _)
  | _ => cases e
/-! ### sum, any, all: lists and tuples -/
section
variable {prog : Program} {w : World} {A : Around} {E : Value → Shared → Prop} {s : Shared}
theorem iter_tupl {l : Addr} {items : Array Value} {Q : Value → Shared → Prop} (hl : s.heap.IsTuple l items)
    (h : ∀ s₂ : Shared, s₂ = { s with heap := s.heap.push { cls := .type "tuple_iterator", data := .fields #[.ref l, .int 0 0] } } →
      (s₂.heap.IsTupleIter s.heap.objs.size l 0 ∧ s₂.heap.IsTuple l items) → l ≠ s.heap.objs.size → Q (.ref s.heap.objs.size) s₂) : wpAny (model prog w) A (pyIter (.ref l)) Q E s := by
  have hlt : l < s.heap.objs.size := by obtain ⟨_, e, _⟩ := hl; exact Heap.lt_size e
  exact wpAny_pyIter_tuple hl (h _ rfl ⟨⟨_, Heap.get?_push_size _ rfl, rfl, rfl⟩, hl.at fun o e => Heap.get?_push_of_some _ e⟩ (Nat.ne_of_lt hlt))
theorem preSum_ints {ns : List Int} : preSum (fun i => ns.getD i 0) ns.length = ns.sum := by
  have key : ∀ (ns more : List Int), preSum (fun i => (ns ++ more).getD i 0) ns.length = ns.sum := by
    intro ns
    have go : ∀ (k : Nat) (more : List Int), k ≤ ns.length → preSum (fun i => (ns ++ more).getD i 0) k = (ns.take k).sum := by
      intro k more
      induction k with
      | zero => intro _; rfl
      | succ k ih =>
        intro hk
        show preSum _ k + (ns ++ more).getD k 0 = _
        rw [ih (by omega), List.getD_eq_getElem?_getD, List.getElem?_append_left (by omega), List.getElem?_eq_getElem (by omega)]
        show _ + ns[k] = _
        rw [← List.take_append_getElem (by omega), List.sum_append]
        simp
    intro more
    rw [go ns.length more (Nat.le_refl _), List.take_length]
  have := key ns []
  simpa using this
theorem ints_at {ns : List Int} {us : List Value} (r : Vals (ns.map V.int) us) : ∀ (i : Nat) (v : Value), us.toArray[i]? = some v → ∃ t, v = .int (ns.getD i 0) t := by
  intro i v h
  have h : us[i]? = some v := by simpa using h
  have hl := r.length
  rw [List.length_map] at hl
  have hi : i < ns.length := by rw [hl]; exact (List.getElem?_eq_some_iff.mp h).1
  obtain ⟨u, e1, q⟩ := r.get (i := i) (x := .int ns[i]) (by rw [List.getElem?_map, List.getElem?_eq_getElem hi]; rfl)
  rw [h] at e1
  cases e1
  obtain ⟨t, rfl⟩ := q
  exact ⟨t, by rw [List.getD_eq_getElem?_getD, List.getElem?_eq_getElem hi]; rfl⟩
end
theorem c_sum (xg : Xg g X) : CallR X (.builtin "sum") (rB g Lo W .sum 0) := by
  intro pins s σ H xs us Q I r h
  obtain ⟨L, ρ, env, S, τ, vs, v, sm, rs, e, h⟩ := h
  obtain ⟨w, rfl, e⟩ := bi_one e
  obtain ⟨x, rfl, rx⟩ := all2_one rs
  obtain ⟨ns, e1, e2⟩ := Option.map_eq_some_iff.mp e
  subst e2
  obtain ⟨ds, e3, e4⟩ := Option.bind_eq_some_iff.mp e1
  obtain ⟨a, ys, rfl, h1, q⟩ := rx.seq e3
  have q' := ints_rep q e4
  subst q'
  rcases h1 with h1 | h1
  · exact cr_sum xg.calm pins s σ H _ us Q I r ⟨a, ns, rfl, .of h1, oldF sm h (.int _)⟩
  · obtain ⟨its, rv, hl, _⟩ := I.tuple (.of h1)
    rw [Vals.ref1 r]
    refine call_sum_walkG (iter_tupl hl fun s₂ e2 st hne => ?_)
    subst e2
    have hn : its.toArray.size = ns.length := by rw [List.size_toArray, ← rv.length, List.length_map]
    refine ⟨_, _, _, _, _, _, fun i => ns.getD i 0, rfl, Walks.tuple (A := X.A.in1) (I.ok.hd xg.calm) _ a hne its.toArray, st, fun b hb => ?_, ints_at rv, fun h' tk t' hk => ?_⟩
    · have hlt : a < s.heap.objs.size := by obtain ⟨_, e, _⟩ := hl; exact Heap.lt_size e
      show b < (s.heap.push _).objs.size
      rw [Heap.size_push]
      rcases List.mem_cons.mp hb with e | hb
      · rw [e]; exact Nat.lt_succ_self _
      · have e : b = a := by simpa using hb
        rw [e]; exact Nat.lt_succ_of_lt hlt
    · refine ⟨.int ns.sum, H, I.kept fun b o eo => hk b o (fun hmem => ?_) (Heap.get?_push_of_some _ eo), ⟨t', ?_⟩, oldF sm h (.int _)⟩
      · rcases List.mem_cons.mp hmem with e1 | hmem
        · exact absurd (e1 ▸ Heap.lt_size eo) (Nat.lt_irrefl _)
        · cases hmem
      · rw [hn, preSum_ints]
theorem tru_of {prog : Program} {w : World} {A : Around} {bs : List Bool} {us : List Value} (h : ∀ (i : Nat) (u : Value), us[i]? = some u → ∃ b, bs[i]? = some b ∧ ((u = .bool b) ∨ ∃ k t, u = .int k t ∧ b = (k != 0))) :
    TruthOf prog w A (fun i v => us.toArray[i]? = some v) (fun i => bs.getD i false) := fun i v s Q E hv hq => by
  obtain ⟨b, e1, e2⟩ := h i v (by simpa using hv)
  have hg : bs.getD i false = b := by rw [List.getD_eq_getElem?_getD, e1]; rfl
  have hq' : Q (bs.getD i false) s := hq
  rw [hg] at hq'
  rcases e2 with rfl | ⟨k, t, rfl, rfl⟩
  · exact wpAny_truthy_bool hq'
  · exact truthy_int hq'
theorem c_any (xg : Xg g X) : CallR X (.builtin "any") (rB g Lo W .any 0) := by
  intro pins s σ H xs us Q I r h
  obtain ⟨L, ρ, env, S, τ, vs, v, sm, rs, e, h⟩ := h
  obtain ⟨w, rfl, e⟩ := bi_one e
  obtain ⟨x, rfl, rx⟩ := all2_one rs
  obtain ⟨bs, e1, e2⟩ := Option.map_eq_some_iff.mp e
  subst e2
  obtain ⟨ds, e3, e4⟩ := Option.bind_eq_some_iff.mp e1
  obtain ⟨a, ys, rfl, h1, q⟩ := rx.seq e3
  rw [Vals.ref1 r]
  have kp : ∀ {h' : Heap} {b : Addr} {o : Obj} {oi : Obj}, (∀ b o, b ∉ [s.heap.objs.size] → (s.heap.push oi).get? b = some o → h'.get? b = some o) → s.heap.get? b = some o → h'.get? b = some o := fun {h' b o oi} hk eo => hk b o (fun hmem => by
    rcases List.mem_cons.mp hmem with e1 | hmem
    · exact absurd (e1 ▸ Heap.lt_size eo) (Nat.lt_irrefl _)
    · cases hmem) (Heap.get?_push_of_some _ eo)
  rcases h1 with h1 | h1
  · obtain ⟨its, rv, hl, _⟩ := I.list (.of h1)
    have hn : its.toArray.size = bs.length := by rw [List.size_toArray, ← rv.length, q.length, trusD_length e4]
    refine call_any_walk (iter_any hl.isList fun s₂ e2 st hne => ?_)
    subst e2
    refine ⟨_, _, _, _, _, _, _, rfl, Walks.list (A := X.A.in1) (I.ok.hd xg.calm) _ a hne its.toArray, st, tru_of (trus_at q e4 rv), fun h' tk hk => ?_⟩
    refine ⟨.bl (bs.any id), H, I.kept fun b o eo => kp hk eo, ?_, oldF sm h (.bl _)⟩
    show Value.bool _ = Value.bool _
    rw [hn, L2.any_range]
  · obtain ⟨its, rv, hl, _⟩ := I.tuple (.of h1)
    have hn : its.toArray.size = bs.length := by rw [List.size_toArray, ← rv.length, q.length, trusD_length e4]
    refine call_any_walk (iter_tupl hl fun s₂ e2 st hne => ?_)
    subst e2
    refine ⟨_, _, _, _, _, _, _, rfl, Walks.tuple (A := X.A.in1) (I.ok.hd xg.calm) _ a hne its.toArray, st, tru_of (trus_at q e4 rv), fun h' tk hk => ?_⟩
    refine ⟨.bl (bs.any id), H, I.kept fun b o eo => kp hk eo, ?_, oldF sm h (.bl _)⟩
    show Value.bool _ = Value.bool _
    rw [hn, L2.any_range]
theorem c_all (xg : Xg g X) : CallR X (.builtin "all") (rB g Lo W .all 0) := by
  intro pins s σ H xs us Q I r h
  obtain ⟨L, ρ, env, S, τ, vs, v, sm, rs, e, h⟩ := h
  obtain ⟨w, rfl, e⟩ := bi_one e
  obtain ⟨x, rfl, rx⟩ := all2_one rs
  obtain ⟨bs, e1, e2⟩ := Option.map_eq_some_iff.mp e
  subst e2
  obtain ⟨ds, e3, e4⟩ := Option.bind_eq_some_iff.mp e1
  obtain ⟨a, ys, rfl, h1, q⟩ := rx.seq e3
  rw [Vals.ref1 r]
  have kp : ∀ {h' : Heap} {b : Addr} {o : Obj} {oi : Obj}, (∀ b o, b ∉ [s.heap.objs.size] → (s.heap.push oi).get? b = some o → h'.get? b = some o) → s.heap.get? b = some o → h'.get? b = some o := fun {h' b o oi} hk eo => hk b o (fun hmem => by
    rcases List.mem_cons.mp hmem with e1 | hmem
    · exact absurd (e1 ▸ Heap.lt_size eo) (Nat.lt_irrefl _)
    · cases hmem) (Heap.get?_push_of_some _ eo)
  rcases h1 with h1 | h1
  · obtain ⟨its, rv, hl, _⟩ := I.list (.of h1)
    have hn : its.toArray.size = bs.length := by rw [List.size_toArray, ← rv.length, q.length, trusD_length e4]
    refine call_all_walk (iter_any hl.isList fun s₂ e2 st hne => ?_)
    subst e2
    refine ⟨_, _, _, _, _, _, _, rfl, Walks.list (A := X.A.in1) (I.ok.hd xg.calm) _ a hne its.toArray, st, tru_of (trus_at q e4 rv), fun h' tk hk => ?_⟩
    refine ⟨.bl (bs.all id), H, I.kept fun b o eo => kp hk eo, ?_, oldF sm h (.bl _)⟩
    show Value.bool _ = Value.bool _
    rw [hn, L2.all_range]
  · obtain ⟨its, rv, hl, _⟩ := I.tuple (.of h1)
    have hn : its.toArray.size = bs.length := by rw [List.size_toArray, ← rv.length, q.length, trusD_length e4]
    refine call_all_walk (iter_tupl hl fun s₂ e2 st hne => ?_)
    subst e2
    refine ⟨_, _, _, _, _, _, _, rfl, Walks.tuple (A := X.A.in1) (I.ok.hd xg.calm) _ a hne its.toArray, st, tru_of (trus_at q e4 rv), fun h' tk hk => ?_⟩
    refine ⟨.bl (bs.all id), H, I.kept fun b o eo => kp hk eo, ?_, oldF sm h (.bl _)⟩
    show Value.bool _ = Value.bool _
    rw [hn, L2.all_range]
end
end BP
end

section
set_option autoImplicit false
set_option linter.all false
set_option maxRecDepth 100000
/-! BPS1: tuples, some of them empty, can be sorted. -/
namespace BPS
open PySem PySem.W PySem.Calls PyProof.Rows PySem.SeqAt

section
variable {prog : Program} {w : World} {A : Around} {E : Value → Shared → Prop} {s : Shared}
/-- the call of tuple's own __lt__, as sorting makes it -/
theorem call_tup_lt {Q : Value → Shared → Prop} {l b : Addr} {items items2 : Array Value} {e r : Nat → Bool} (hl : s.heap.IsTuple l items) (hb : s.heap.IsTuple b items2)
    (he : ∀ j (h1 : j < items.size) (h2 : j < items2.size), EqAt A.in1 s items[j] items2[j] (e j)) (hr : ∀ j (h1 : j < items.size) (h2 : j < items2.size), e j = false → RcLt A.in1 s items[j] items2[j] (r j))
    (h : Q (.bool (firstLt e r (decide (items.size < items2.size)) (List.range (min items.size items2.size)))) s) : wpAny (model prog w) A (call (.builtin "tuple.__lt__") [.ref l, .ref b]) Q E s := by
  obtain ⟨⟨cls, dd, data, sl⟩, ho, hc, n, hd⟩ := id hl
  obtain ⟨⟨cls2, dd2, data2, sl2⟩, ho2, hc2, n2, hd2⟩ := id hb
  simp only at hc hd hc2 hd2
  subst hc hd hc2 hd2
  exact call_meets F.slot_tuple_lt ⟨_, ho, rfl⟩ F.entry_tuple_lt (F.args_tuple_lt_2 _ _) (tuple_ltAt l b items items2 n n2 dd dd2 sl sl2 e r) ⟨ho, ho2, he, hr, h⟩
/-- a tuple against another -/
theorem oneLt_tup {xs ys : List PyData} {a b : Value} {as bs : List Addr} {Q : Bool → Shared → Prop} (ra : Reads s.heap a (.tuple xs) as) (rb : Reads s.heap b (.tuple ys) bs) (h : alike (.tuple xs) (.tuple ys) = true)
    (hu : A.units + min (PyData.tuple xs).depth (PyData.tuple ys).depth < cLine) (hq : Q (dataLt (.tuple xs) (.tuple ys)) s) : wpAny (model prog w) A (oneLt' true a b) Q E s := by
  have hal : alikeAll xs ys = true := by simpa [alike] using h
  cases ra with
  | @tuple l o vs n _ as₁ h1 h2 h3 h4 =>
    cases rb with
    | @tuple l' o' vs' n' _ bs₁ k1 k2 k3 k4 =>
      have n1 : vs.size = xs.length := by simpa using SeqAt.ReadsAll.length _ _ _ h4
      have n2 : vs'.size = ys.length := by simpa using SeqAt.ReadsAll.length _ _ _ k4
      rw [dataLt_tuple, ← firstLt_toks xs ys hal, ← n1, ← n2] at hq
      rw [oneLt'_eq]
      simp only [if_true]
      refine wpAny_bind (wpAny_cRoomFor (SeqAt.room_here hu) ?_)
      refine wpAny_bind (wpAny_callSpecialIfBound?_slot (T := "tuple") ⟨_, h1, h2⟩ F.slot_tuple_lt (call_tup_lt (e := pairEq xs ys) (r := fun j => dataLt (xs.getD j .none) (ys.getD j .none)) ⟨_, h1, h2, _, h3⟩ ⟨_, k1, k2, _, k3⟩ (fun j j1 j2 => ?_) (fun j j1 j2 hj => ?_) ?_))
      · have := eqAt_alikeAll xs ys A.in1 s vs.toList vs'.toList _ _ h4 k4 hal (SeqAt.room_in hu) j (by simpa using j1) (by simpa using j2)
        simpa using this
      · have := rcLt_alikeAll xs ys A.in1 s vs.toList vs'.toList _ _ h4 k4 hal (SeqAt.room_in hu) j (by simpa using j1) (by simpa using j2) hj
        simpa using this
      · exact wpAny_truthy_bool hq
/-- tuples, their first items -/
def Tups (h : Heap) : List Value → List (Option Value) → Prop
  | [], [] => True
  | v :: vs, f :: fs => (∃ a o xs n, v = .ref a ∧ h.get? a = some o ∧ o.cls = .type "tuple" ∧ o.data = .seq xs n ∧ xs[0]? = f) ∧ Tups h vs fs
  | _, _ => False
theorem tups_firsts {M : Model} : ∀ (vs : List Value) (fs : List (Option Value)) {Q : List (Option Value) → Shared → Prop}, Tups s.heap vs fs → Q fs s → wpAny M A (vs.mapM firstOfTuple') Q E s
  | [], [], _, _, h => by rw [List.mapM_nil]; exact wpAny_pure h
  | [], _ :: _, _, t, _ => t.elim
  | _ :: _, [], _, t, _ => t.elim
  | v :: vs, f :: fs, Q, t, h => by
    obtain ⟨⟨a, o, xs, n, rfl, ho, hc, hd, hf⟩, t⟩ := t
    rw [List.mapM_cons]
    refine wpAny_bind ?_
    rw [kas_first_eq]
    refine wpAny_bind (Looks.here (show Looks M s.heap (typeOf (.ref a)) o.cls from (Looks.ld ho).andThen .now) ?_)
    rw [hc, if_neg (by first | decide | simp)]
    refine wpAny_bind (listItems_at ho hd (wpAny_pure ?_))
    rw [hf]
    exact wpAny_bind (tups_firsts vs fs (Q := fun bs s' => wpAny M A (pure (f :: bs)) Q E s') t (wpAny_pure h))
theorem tups_types {h : Heap} : ∀ {vs : List Value} {fs : List (Option Value)}, Tups h vs fs → ∀ v ∈ vs, ∃ a o, v = .ref a ∧ h.get? a = some o ∧ o.cls = .type "tuple"
  | [], [], _, v, hv => by cases hv
  | [], _ :: _, t, _, _ => t.elim
  | _ :: _, [], t, _, _ => t.elim
  | v :: vs, f :: fs, ⟨⟨a, o, xs, n, e, ho, hc, _⟩, t⟩, u, hu => by
    rcases List.mem_cons.mp hu with rfl | hu
    · exact ⟨a, o, e, ho, hc⟩
    · exact tups_types t u hu
theorem tups_kind {M : Model} {vs : List Value} {fs : List (Option Value)} {Q : SortKind → Shared → Prop} (t : Tups s.heap vs fs) (h2 : 2 ≤ vs.length) (hne : fs.all (·.isSome) = false) (h : Q (if (fs[0]?.bind id).isSome = true then general' else oneType') s) :
    wpAny M A (keyKind' vs.toArray) Q E s := by
  rw [kat_kind_eq, List.mapM_toArray, map_eq_pure_bind]
  refine wpAny_bind (wpAny_bind (tups_firsts vs fs t (wpAny_pure ?_)))
  have hall : ¬ (fs.toArray.all fun x => x.isSome) = true := by
    rw [List.all_toArray, hne]; exact Bool.false_ne_true
  rw [if_neg hall]
  have e0 : fs.toArray[0]? = fs[0]? := by simp
  rw [e0]
  by_cases hf : (fs[0]?.bind id).isSome = true
  · rw [if_pos hf] at h ⊢
    exact wpAny_pure h
  · rw [if_neg hf] at h ⊢
    rw [oneTypeOnly'_eq, List.mapM_toArray, map_eq_pure_bind]
    refine wpAny_bind (wpAny_bind (wpAny_bind (kas_mapM (r := Value.type "tuple") _ (fun v hv Q' hq => ?_) (wpAny_pure ?_))))
    · obtain ⟨a, o, rfl, ho, hc⟩ := tups_types t v hv
      exact Looks.here (show Looks M s.heap (typeOf (.ref a)) (Value.type "tuple") from hc ▸ (Looks.ld ho).andThen .now) hq
    · have hall2 : ((List.map (fun _ => Value.type "tuple") vs).toArray.all fun x => x == Value.type "tuple") = true := by
        simp only [List.all_toArray, List.all_map, List.all_eq_true]
        intro _ _
        exact beq_self_eq_true _
      have h0 : (List.map (fun _ => Value.type "tuple") vs).toArray[0]? = some (Value.type "tuple") := by
        match vs, h2 with
        | v :: vs, _ => simp
      rw [h0]
      simp only [hall2, if_true]
      exact wpAny_pure (wpAny_pure h)
theorem each_tups {h : Heap} : ∀ {vs : List Value} {ds : List PyData}, EachIs (fun v d => ∃ as, Reads h v d as) vs ds → (∀ d, d ∈ ds → ∃ xs, d = .tuple xs) → ∃ fs, Tups h vs fs ∧ fs.length = vs.length ∧ (fs.all (·.isSome) = true → ∀ d, d ∈ ds → ∃ x r, d = .tuple (x :: r))
  | _, _, .nil, _ => ⟨[], trivial, rfl, fun _ d hd => by cases hd⟩
  | _, _, .cons (b := d) ⟨as, r⟩ t, ht => by
    obtain ⟨fs, h1, h2, h3⟩ := each_tups t fun d hd => ht d (List.mem_cons_of_mem _ hd)
    obtain ⟨xs, rfl⟩ := ht d (List.mem_cons_self ..)
    cases r with
    | @tuple a o vs n _ _ ho hc hd hr =>
      refine ⟨vs[0]? :: fs, ⟨⟨a, o, vs, n, rfl, ho, hc, hd, rfl⟩, h1⟩, by rw [List.length_cons, List.length_cons, h2], fun hall d hdm => ?_⟩
      rw [List.all_cons, Bool.and_eq_true] at hall
      rcases List.mem_cons.mp hdm with rfl | hdm
      · cases xs with
        | nil =>
          have hl : vs.size = 0 := by simpa using SeqAt.ReadsAll.length _ _ _ hr
          have : vs[0]? = none := by simp [hl]
          rw [this] at hall
          exact absurd hall.1 (by simp)
        | cons x r => exact ⟨x, r, rfl⟩
      · exact h3 hall.2 d hdm
/-- tuples, any -/
theorem sorts_tups {vs : List Value} {ds : List PyData} (e : EachIs (fun v d => ∃ as, Reads s.heap v d as) vs ds) (hal : AllAlike ds) (ht : ∀ d, d ∈ ds → ∃ xs, d = .tuple xs) (hu : ∀ d, d ∈ ds → A.units + d.depth < cLine) : SortsAt prog w A s (dataKind s.heap ds) vs := by
  obtain ⟨fs, t, hl, hall⟩ := each_tups e ht
  by_cases hne : fs.all (·.isSome) = true
  · exact SortsAt.data e hal (.inl (hall hne)) hu
  · have hne : fs.all (·.isSome) = false := by simpa using hne
    have room : ∀ {d d' : PyData}, d ∈ ds → A.units + min d.depth d'.depth < cLine := fun {d d'} hd => Nat.lt_of_le_of_lt (Nat.add_le_add_left (Nat.min_le_left _ _) _) (hu d hd)
    refine ⟨fun v hv => ?_, if (fs[0]?.bind id).isSome = true then general' else oneType', fun E x y a b Q ha hb hq => ?_, fun h2 E Q hq => tups_kind t h2 hne hq⟩
    · obtain ⟨d, hd, as, r⟩ := e.left v hv
      exact ⟨_, dataKind_some hal hd r⟩
    · obtain ⟨d, as, hd, ra, rfl⟩ := dataKind_inv ha
      obtain ⟨d', as', hd', rb, rfl⟩ := dataKind_inv hb
      have hdd := hal d hd d' hd'
      have hroom := room (d' := d') hd
      obtain ⟨xs, rfl⟩ := ht d hd
      obtain ⟨ys, rfl⟩ := ht d' hd'
      by_cases hf : (fs[0]?.bind id).isSome = true
      · rw [if_pos hf]
        exact oneLt_alike (f := false) (fun h => by cases h) ra rb hdd (by simp) hroom hq
      · rw [if_neg hf]
        rw [keyLt'_oneType]
        exact oneLt_tup ra rb hdd hroom hq
end
end BPS
end

section
set_option autoImplicit false
set_option linter.all false
set_option maxRecDepth 100000
/-! BPS2: sorted(x), x a list or a dict. -/
namespace BP
open PySem PySem.Spec PyProof.Rows L2

abbrev encB : V × D → PyData := fun b => (D.py b.2).getD .none
theorem pys_map : ∀ {ds : List D} {ps : List PyData}, D.pys ds = some ps → ∀ {ys : List V}, ys.length = ds.length → (ys.zip ds).map encB = ps ∧ ∀ d ∈ ds, ∃ p, d.py = some p
  | [], ps, e, ys, h => by
    unfold D.pys at e
    cases e
    cases ys with
    | nil => exact ⟨rfl, fun d hd => by cases hd⟩
    | cons _ _ => cases h
  | d :: ds, ps, e, ys, h => by
    unfold D.pys at e
    split at e
    · rename_i p qs e1 e2
      cases e
      cases ys with
      | nil => cases h
      | cons y ys =>
        obtain ⟨h1, h2⟩ := pys_map e2 (ys := ys) (by simpa using h)
        refine ⟨?_, fun z hz => ?_⟩
        · show encB (y, d) :: (ys.zip ds).map encB = _
          rw [h1]
          show (D.py d).getD .none :: qs = _
          rw [e1]
          rfl
        · rcases List.mem_cons.mp hz with rfl | hz
          · exact ⟨p, e1⟩
          · exact h2 z hz
    · cases e
theorem each_zip {X : Cx} {pins : List (Addr × Obj)} {σ : L2.St} {H : Hp} {s : Shared} (I : L2.Inv X pins σ H s) {R : V → D → Prop} (hR : ∀ x d p, R x d → d.py = some p → Dp X.K H x p) : ∀ {vs : List Value} {ys : List V} {ds : List D}, Vals ys vs → All2 R ys ds → (∀ d ∈ ds, ∃ p, d.py = some p) →
    PySem.W.EachIs (fun v b => RelV b.1 v) vs (ys.zip ds) ∧ PySem.W.EachIs (fun v b => ∃ as, Reads s.heap v (encB b) as) vs (ys.zip ds)
  | _, _, _, .nil, .nil, _ => ⟨.nil, .nil⟩
  | _, _, _, .cons (a := y) (b := v) h t, .cons (b := d) r t', hp => by
    obtain ⟨h1, h2⟩ := each_zip I hR t t' fun d hd => hp d (List.mem_cons_of_mem _ hd)
    obtain ⟨p, e⟩ := hp d List.mem_cons_self
    refine ⟨.cons h h1, .cons ?_ h2⟩
    show ∃ as, Reads s.heap v ((D.py d).getD .none) as
    rw [e]
    exact Dp.reads I p y v (hR _ _ _ r e) h
theorem sortOk_ok {ps : List PyData} (h : sortOk ps = true) : PySem.W.AllAlike ps ∧ ((∀ d ∈ ps, ∃ xs, d = .tuple xs) ∨ (∀ d ∈ ps, d ≠ .none ∧ ∀ xs, d ≠ .tuple xs)) ∧ ∀ d ∈ ps, d.depth ≤ 60 := by
  unfold sortOk at h
  rw [Bool.and_eq_true, Bool.and_eq_true, Bool.or_eq_true] at h
  obtain ⟨⟨h1, h2⟩, h3⟩ := h
  refine ⟨fun d hd d' hd' => ?_, ?_, fun d hd => ?_⟩
  · exact List.all_eq_true.mp (List.all_eq_true.mp h1 d hd) d' hd'
  · rcases h2 with h2 | h2
    · refine .inl fun d hd => ?_
      have := List.all_eq_true.mp h2 d hd
      cases d with
      | tuple xs => exact ⟨xs, rfl⟩
      | _ => cases this
    · refine .inr fun d hd => ?_
      have := List.all_eq_true.mp h2 d hd
      cases d with
      | none => cases this
      | tuple xs => cases this
      | _ => exact ⟨by simp, by simp⟩
  · exact of_decide_eq_true (List.all_eq_true.mp h3 d hd)
section
variable {g : Gx} {Lo : Out} {W : WX} {X : Cx}
/-- it can be sorted -/
theorem sorts_any {prog : Program} {w : World} {A : Around} {s : Shared} {vs : List Value} {ps : List PyData} (ok : sortOk ps = true) (e : PySem.W.EachIs (fun v d => ∃ as, Reads s.heap v d as) vs ps) (hu : A.units + 60 < cLine) :
    PySem.W.SortsAt prog w A s (PySem.W.dataKind s.heap ps) vs := by
  obtain ⟨h1, h2, h3⟩ := sortOk_ok ok
  have hb : ∀ d, d ∈ ps → A.units + d.depth < cLine := fun d hd => by have := h3 d hd; omega
  rcases h2 with h2 | h2
  · exact BPS.sorts_tups e h1 h2 hb
  · exact PySem.W.SortsAt.data e h1 (.inr h2) hb
/-- what comes of it -/
theorem sort_out2 {L : Addr → Prop} {ρ : List Addr} {H : Hp} {h' : Heap} {vs : List Value} {ys : List V} {ds : List D} {ps : List PyData} (rs : All2 (Rep g L ρ H) ys ds) (e1 : D.pys ds = some ps) (ok : sortOk ps = true)
    (E1 : PySem.W.EachIs (fun v b => RelV b.1 v) vs (ys.zip ds)) (E2 : PySem.W.EachIs (fun v b => ∃ as, Reads h' v (encB b) as) vs (ys.zip ds)) :
    ∃ zs, Vals zs (PySem.W.sortVals (PySem.W.dataKind h' ps) false vs vs) ∧ All2 (Rep g L ρ H) zs (ds.mergeSort leD) := by
  obtain ⟨h1, h2⟩ := pys_map e1 rs.length
  have hal : PySem.W.AllAlike ((ys.zip ds).map encB) := by rw [h1]; exact (sortOk_ok ok).1
  have out := PySem.W.sortVals_data (R := fun (v : Value) (b : V × D) => RelV b.1 v) (enc := encB) false E1 E2 hal
  rw [h1] at out
  have hm : ((ys.zip ds).mergeSort (PySem.W.dataLe false encB)).map Prod.snd = ds.mergeSort leD := by
    have hz : (ys.zip ds).map Prod.snd = ds := by
      rw [List.map_snd_zip]
      rw [rs.length]; exact Nat.le_refl _
    have := List.map_mergeSort (r := PySem.W.dataLe false encB) (s := leD) (f := Prod.snd) (l := ys.zip ds) fun a ha b hb => by
      rw [PySem.W.dataLe_eq]
      obtain ⟨p, ep⟩ := h2 a.2 (List.of_mem_zip ha).2
      obtain ⟨q, eq⟩ := h2 b.2 (List.of_mem_zip hb).2
      have ea : encB a = p := by unfold encB; rw [ep]; rfl
      have eb : encB b = q := by unfold encB; rw [eq]; rfl
      show (bif false then !PySem.W.dataLt (encB a) (encB b) else !PySem.W.dataLt (encB b) (encB a)) = leD a.2 b.2
      unfold leD
      rw [ep, eq, ea, eb]
      rfl
    rw [hz] at this
    exact this
  have hp : All2 (Rep g L ρ H) (((ys.zip ds).mergeSort (PySem.W.dataLe false encB)).map Prod.fst) (((ys.zip ds).mergeSort (PySem.W.dataLe false encB)).map Prod.snd) := by
    have key : ∀ l : List (V × D), (∀ b ∈ l, Rep g L ρ H b.1 b.2) → All2 (Rep g L ρ H) (l.map Prod.fst) (l.map Prod.snd) := by
      intro l
      induction l with
      | nil => intro _; exact .nil
      | cons b l ih => intro h; exact .cons (h b List.mem_cons_self) (ih fun c hc => h c (List.mem_cons_of_mem _ hc))
    refine key _ fun b hb => ?_
    have hb := (List.mergeSort_perm _ _).mem_iff.mp hb
    obtain ⟨i, hi, e⟩ := List.getElem_of_mem hb
    have e3 := List.getElem?_eq_getElem hi
    rw [e] at e3
    obtain ⟨e4, e5⟩ := List.getElem?_zip_eq_some.mp e3
    obtain ⟨d, e6, r⟩ := rs.getL e4
    rw [e5] at e6
    cases e6
    exact r
  rw [hm] at hp
  refine ⟨_, ?_, hp⟩
  have key : ∀ (l : List (V × D)) (o : List Value), PySem.W.EachIs (fun (v : Value) (b : V × D) => RelV b.1 v) o l → Vals (l.map Prod.fst) o := by
    intro l o h
    induction h with
    | nil => exact .nil
    | cons r _ ih => exact .cons r ih
  exact key _ _ out
theorem each_enc {h : Heap} : ∀ {vs : List Value} {bs : List (V × D)}, PySem.W.EachIs (fun v b => ∃ as, Reads h v (encB b) as) vs bs → PySem.W.EachIs (fun v d => ∃ as, Reads h v d as) vs (bs.map encB)
  | _, _, .nil => .nil
  | _, _, .cons r t => .cons r (each_enc t)
/-- .. behind the collecting of a dict's keys -/
theorem sort_keys {pins : List (Addr × Obj)} {σ : L2.St} {H : Hp} {s : Shared} {Q : VK} {A : Around} {E : Value → Shared → Prop} {L : Addr → Prop} {ρ : List Addr} {acc : List Value} {ys : List V} {ds : List D} {ps : List PyData} (hK : X.K = g.K) (I : L2.Inv X pins σ H s) (rv : Vals ys acc) (rs : All2 (Rep g L ρ H) ys ds) (e1 : D.pys ds = some ps) (ok : sortOk ps = true)
    (hl : acc.length ≤ sizeLine) (hu : A.units + 62 < cLine)
    (q : ∀ zs p, All2 (Rep g L ρ H) zs (ds.mergeSort leD) → H p = none → Q (.ref p) (upd H p (.lst zs))) :
    wpAny (model X.prog X.w) A (Bind.bind (PySem.newList acc) fun l => Bind.bind (holding [l] (PySem.call (.builtin "list.sort") [l] [])) fun _ => PySem.ret l) (fun fin s' => ∃ v, fin = PySem.Fin.done (Flow.ret v) ∧ EP X pins σ Q v s') E s := by
  obtain ⟨h1, h2⟩ := pys_map e1 rs.length
  obtain ⟨E1, E2⟩ := each_zip I (fun x d p (r : Rep g L ρ H x d) e => r.dp e) rv rs h2
  refine wpAny_bind (wpAny_newList ?_ hl)
  have hoL : (s.heap.push (seqObj "list" acc.toArray 0)).get? s.heap.objs.size = some (seqObj "list" acc.toArray 0) := Heap.get?_push_size _ rfl
  show wpAny _ _ _ _ _ { s with heap := s.heap.push (seqObj "list" acc.toArray 0) }
  have keep : ∀ b u, s.heap.get? b = some u → (PySem.W.sortingHeap (s.heap.push (seqObj "list" acc.toArray 0)) s.heap.objs.size acc).get? b = some u := fun b u e => PySem.W.sortingHeap_old (Nat.ne_of_lt (Heap.lt_size e)) (Heap.get?_push_of_some _ e)
  have E3 : PySem.W.EachIs (fun v b => ∃ as, Reads (PySem.W.sortingHeap (s.heap.push (seqObj "list" acc.toArray 0)) s.heap.objs.size acc) v (encB b) as) acc (ys.zip ds) := E2.mono fun _ _ ⟨as, r⟩ => ⟨as, PyProof.Rows.Reads.keeps keep r⟩
  have E4 := each_enc E3
  rw [h1] at E4
  obtain ⟨zs, v1, v2⟩ := sort_out2 rs e1 ok E1 E3
  refine wpAny_bind (wpAny_holding (wpAny_call_entry PyProof.Rows.slot_list_sort ⟨_, hoL, rfl⟩ PyProof.Rows.entry_list_sort
    (PySem.W.list_sort_vals (s := { s with heap := s.heap.push (seqObj "list" acc.toArray 0) }) hoL (sorts_any (s := { s with heap := PySem.W.sortingHeap (s.heap.push (seqObj "list" acc.toArray 0)) s.heap.objs.size acc }) ok E4 (by show A.units + 1 + 60 < cLine; omega)) hl ⟨_, rfl, ?_⟩) (PyProof.Rows.args_list_sort _)))
  obtain ⟨e', he'⟩ := PyProof.Rows.sortedHeap_at (vs := acc) (out := (PySem.W.sortVals (PySem.W.dataKind (PySem.W.sortingHeap (s.heap.push (seqObj "list" acc.toArray 0)) s.heap.objs.size acc) ps) false acc acc).toArray) hoL
  have hlz : zs.length ≤ sizeLine := by
    rw [v2.length, List.length_mergeSort, ← rs.length]
    have := rv.length
    omega
  refine wpAny_pure ⟨_, rfl, .ref s.heap.objs.size, upd H s.heap.objs.size (.lst zs), I.laid (t' := s.toks) (fun b u e => ?_) (Nat.le_refl _)
    (show ObjOk X.prog X.w _ _ _ (.lst zs) from ⟨hlz, _, e', v1, he'⟩), rfl, q zs _ v2 (I.hok.fresh (Nat.le_refl _))⟩
  have hb : b < s.heap.objs.size := Heap.lt_size e
  rw [PyProof.Rows.sortedHeap_old (Nat.ne_of_lt hb) (by rw [size_push']; exact Nat.lt_succ_of_lt hb)]
  exact Heap.get?_push_of_some _ e
theorem c_sorted (xg : Xg g X) : CallR X (.builtin "sorted") (rB g Lo W .sorted 0) := by
  intro pins s σ H xs us Q I r h
  obtain ⟨L, ρ, env, S, τ, vs, v, sm, rs, e, h⟩ := h
  obtain ⟨w, rfl, e⟩ := bi_one e
  obtain ⟨x, rfl, rx⟩ := all2_one rs
  obtain ⟨zs, e0, e2⟩ := Option.map_eq_some_iff.mp e
  subst e2
  obtain ⟨ds, e1, e2⟩ := Option.bind_eq_some_iff.mp e0
  clear e e0
  unfold sortD at e2
  split at e2
  · rename_i ps ep
    split at e2
    · rename_i ok
      cases e2
      have hP := xg.prog; have hw := xg.w; have hu := xg.hu; have hc := xg.calm
      have fin : ∀ zs p, All2 (Rep g L ρ H) zs (ds.mergeSort leD) → H p = none → Q (.ref p) (upd H p (.lst zs)) := fun zs p hz hp => newLst sm (.refl _ _) h hz p hp
      unfold srcD at e1
      split at e1
      · cases e1
        obtain ⟨a, ys, rfl, h1, q⟩ := rx.lst
        have q : All2 (Rep g L ρ H) ys ds := q
        obtain ⟨its, rv, hl, hz⟩ := I.list (.of h1)
        rw [Vals.ref1 r]
        obtain ⟨h2, h3⟩ := pys_map ep q.length
        obtain ⟨E1, E2⟩ := each_zip I (fun x d p (r : Rep g L ρ H x d) e => r.dp e) rv q h3
        have keep : ∀ b u, s.heap.get? b = some u → (PySem.W.sortingHeap (PySem.W.copyHeap s.heap its) (s.heap.objs.size + 1) its).get? b = some u := fun b u e => PySem.W.sorting_copy_old e
        have E3 : PySem.W.EachIs (fun v b => ∃ as, Reads (PySem.W.sortingHeap (PySem.W.copyHeap s.heap its) (s.heap.objs.size + 1) its) v (encB b) as) its (ys.zip ds) := E2.mono fun _ _ ⟨as, r⟩ => ⟨as, PyProof.Rows.Reads.keeps keep r⟩
        have E4 := each_enc E3
        rw [h2] at E4
        obtain ⟨zs, v1, v2⟩ := sort_out2 q ep ok E1 E3
        have hli : its.length ≤ sizeLine := by rw [← rv.length]; exact hz
        refine PySem.W.sorted_vals hl.isList (sorts_any (s := { s with heap := PySem.W.sortingHeap (PySem.W.copyHeap s.heap its) (s.heap.objs.size + 1) its }) ok E4 (by show X.A.units + 2 + 60 < cLine; omega)) hli ?_
        obtain ⟨ep', he'⟩ := PyProof.Rows.sortedAll_at s.heap its (PySem.W.sortVals (PySem.W.dataKind (PySem.W.sortingHeap (PySem.W.copyHeap s.heap its) (s.heap.objs.size + 1) its) ps) false its its).toArray
        have hlen : zs.length ≤ sizeLine := by
          rw [v2.length, List.length_mergeSort, ← q.length]
          exact hz
        exact ⟨.ref _, upd H (s.heap.objs.size + 1) (.lst zs), I.laid (t' := s.toks) (fun _ _ => PyProof.Rows.sortedAll_old) (Nat.le_succ _) ⟨hlen, _, ep', v1, he'⟩, rfl, fin zs _ v2 (I.hok.fresh (Nat.le_succ _))⟩
      · rename_i nk kvs
        cases e1
        cases nk with
        | false =>
          obtain ⟨a, ys, rfl, h1, q⟩ := rx.dK
          obtain ⟨u, rfl, ru⟩ := vals1 r
          cases ru
          obtain ⟨z, lo, vs, rk, hd⟩ := (show ObjOk X.prog X.w H s.heap a (.dK ys) from I.hok a _ h1)
          obtain ⟨ep', hat⟩ := hd.dictAt
          have hl : ys.length = vs.length := Paired.length rk
          have h16 : vs.length ≤ sizeLine := by omega
          refine Calls.call_function_entry PyProof.Rows.kind_sorted PyProof.Rows.plain_sorted PyProof.Rows.entry_sorted (PyProof.Rows.args_sorted1 _) ?_
          unfold Builtin.«sorted»
          refine wpAny_bind (m := checkCount "sorted" 1 1 _) (wpAny_pure ?_)
          refine wpAny_bind (PySem.W.kdu_collect (A := X.A.in1) (PySem.W.kdl_dict (knd := mixKind X.prog X.w) (kvs := vs) (ep := ep') lo) (I.ok.hd hc) hat h16 fun h' tk acc hk hacc => ?_)
          have I1 : L2.Inv X pins σ H { s with heap := h', toks := tk } := I.kept hk
          have hal : acc.toList.length = vs.length := by rw [Array.length_toList, hacc.1]
          have rv : Vals (ys.map fun kv => kV kv.1) acc.toList := by
            refine vals_of_at (by rw [List.length_map, hal, hl]) fun j x w h1 h2 => ?_
            obtain ⟨k, y, hky, hi⟩ := hacc.2 j w (by rw [← Array.getElem?_toList]; exact h2)
            have e1 : (ys.map (·.1))[j]? = some k := by
              rw [KV.keys rk, List.getElem?_map, hky] <;> rfl
            have e2 : (ys.map fun kv => kV kv.1)[j]? = some (kV k) := by
              have e3 : (ys.map fun kv => kV kv.1) = (ys.map (·.1)).map kV := by rw [List.map_map] <;> rfl
              rw [e3, List.getElem?_map, e1] <;> rfl
            rw [e2] at h1
            cases h1
            exact keyIs_rel hi
          exact sort_keys (g := g) (A := X.A.in1) xg.K I1 rv (keys_rep q) ep ok (by rw [hal]; exact h16) (by show X.A.units + 1 + 62 < cLine; omega) fin
        | true =>
          obtain ⟨a, es, rfl, h1, hk, q⟩ := rx.dN
          obtain ⟨u, rfl, ru⟩ := vals1 r
          obtain rfl : u = Value.ref a := ru
          rw [← hP, ← hw] at h1
          obtain ⟨⟨z, hd, xs, rr, o, dso, ep', ho, hco, hdt, he, hn⟩, _⟩ := (show ObjOk X.prog X.w H s.heap a (dN X.prog X.w a es) from I.hok a _ h1)
          have l1 : dso.size = xs.length := size_of_entries he
          have l2 : es.length = xs.length := Paired.length rr
          refine Calls.call_function_entry PyProof.Rows.kind_sorted PyProof.Rows.plain_sorted PyProof.Rows.entry_sorted (PyProof.Rows.args_sorted1 _) ?_
          unfold Builtin.«sorted»
          refine wpAny_bind (m := checkCount "sorted" 1 1 _) (wpAny_pure ?_)
          refine wpAny_bind (PySem.W.kdu_collect (A := X.A.in1) (kdl_raw hd hco hdt) (I.ok.hd hc) ho (by omega) fun h' tk acc kp it => ?_)
          have I1 : L2.Inv X pins σ H { s with heap := h', toks := tk } := I.kept kp
          have ea : acc.toList = xs.map fun x => Value.ref x.2.1 := by
            have hl : acc.toList.length = xs.length := by rw [Array.length_toList, it.1]; exact l1
            apply List.ext_getElem?
            intro j
            rw [List.getElem?_map]
            cases hj : acc.toList[j]? with
            | none =>
              have h1 := List.getElem?_eq_none_iff.mp hj
              rw [List.getElem?_eq_none (by omega)]
              rfl
            | some v =>
              obtain ⟨en, hen, hv⟩ := it.2 j v (by rw [← Array.getElem?_toList]; exact hj)
              have qe := entry_at he j
              rw [hen] at qe
              cases hb : xs[j]? with
              | none => rw [hb] at qe; exact nomatch (show some en = none from qe)
              | some b =>
                rw [hb] at qe
                have e2 := Option.some.inj qe
                rw [hv, e2]
                rfl
          have rv : Vals (es.map fun e => V.ref e.2.1) acc.toList := by
            rw [ea]
            exact paired_map rr fun p q h => show Value.ref q.2.1 = Value.ref p.2.1 by rw [h.2.1]
          exact sort_keys (g := g) (A := X.A.in1) xg.K I1 rv (keysN_rep (fun a xs z => sm.ntup z) hk q) ep ok (by rw [ea, List.length_map]; omega) (by show X.A.units + 1 + 62 < cLine; omega) fin
      · cases e1
    · cases e2
  · cases e2
end
end BP
end

section
set_option autoImplicit false
set_option linter.all false
set_option maxRecDepth 100000
/-! BPg: calls of builtins, isinstance, get, list(range(..)). -/
namespace BP
open PySem PySem.Spec PyProof.Rows L2

/-- not starred -/
def plainE : Expr → Bool
  | .Starred _ _ => false
  | _ => true
theorem star_one {e : Expr} {es : List Expr} {env : PySem.Env} (h : plainE e = true) : starEach (e :: es) env = (false, eval e env) :: starEach es env := by
  cases e <;> first | rfl | cases h
theorem star_any {pos : Pos} {env : PySem.Env} : ∀ {es : List Expr}, es.all plainE = true → (backTo pos (starEach es env)).any (·.1) = false
  | [], _ => rfl
  | e :: es, h => by
    rw [List.all_cons, Bool.and_eq_true] at h
    rw [star_one h.1]
    unfold backTo
    rw [List.map_cons, List.any_cons]
    have := star_any (pos := pos) (env := env) h.2
    unfold backTo at this
    rw [this]
    rfl
/-- a test as it is -/
def plainT : Expr → Bool
  | .UnaryOp .Not _ _ => false
  | .BoolOp _ _ _ => false
  | .IfExp _ _ _ _ => false
  | .Compare _ _ _ _ => false
  | _ => true
theorem test_plain {e : Expr} (h : plainT e = true) (env : PySem.Env) (whole : Sem Value) : isTrue e env whole = (do let v ← whole; standAt e.pos; holding [v] (truthy v)) := by
  cases e <;> first | rfl | (cases h; done) | skip
  rename_i op _ _
  cases op <;> first | rfl | (cases h; done)
def isSuperCall : Expr → Bool
  | .Call (.Name _ _) [] [] _ => true
  | _ => false
theorem attr_plain {e : Expr} {f : Str} {env : PySem.Env} (h : isSuperCall e = false) : attributeBase e f env (eval e env) = eval e env := by
  unfold attributeBase
  split
  · cases h
  · rfl
def notSlice : Expr → Bool
  | .Slice _ _ _ _ => false
  | _ => true
theorem ix_plain {e : Expr} (h : notSlice e = true) : PlainIx e := fun o i => by
  cases e <;> first | rfl | cases h

section
variable {g : Gx} {Lo : Out} {W : WX} {X : Cx} {a b c : Expr} {pos : Pos} {fa fb fc : Env → List D → Res D}

/-! ### builtins -/
def biS : Bi → Str
  | .len => "len" | .list => "list" | .tuple => "tuple" | .sorted => "sorted" | .int => "int" | .abs => "abs" | .max2 => "max" | .min2 => "min" | .maxL => "max" | .minL => "min"
  | .sum => "sum" | .any => "any" | .all => "all" | .repr => "repr" | .dictP _ => "dict"
def biV : Bi → Value
  | .len => .builtin "len" | .list => .type "list" | .tuple => .type "tuple" | .sorted => .builtin "sorted" | .int => .type "int" | .abs => .builtin "abs" | .max2 => .builtin "max" | .min2 => .builtin "min" | .maxL => .builtin "max" | .minL => .builtin "min"
  | .sum => .builtin "sum" | .any => .builtin "any" | .all => .builtin "all" | .repr => .builtin "repr" | .dictP _ => .type "dict"
def biN : Bi → Nat
  | .len => 2
  | _ => 1
theorem bi_boot (b : Bi) : bootBuiltins (biS b) = some (biV b) := by
  cases b with
  | dictP nk => cases nk <;> decide +kernel
  | _ => decide +kernel
theorem bi_name (b : Bi) : biS b ≠ "__name__" := by
  cases b with
  | dictP nk => cases nk <;> decide +kernel
  | _ => decide +kernel
theorem bi_dbg (b : Bi) : (biS b == ("__debug__" : Str)) = false := by
  cases b with
  | dictP nk => cases nk <;> decide +kernel
  | _ => decide +kernel
theorem all2_read {L : Addr → Prop} {ρ : List Addr} {env : Env} {S : List D} {σ : L2.St} {H : Hp} (s : Sim g Lo L ρ env S σ H) {n : Nat} : ∀ {xs : List V} {vs ws : List D}, All2 (RepW g L ρ H n) xs vs → vs.mapM (dr S) = some ws → All2 (RepR g L ρ H (n - 1)) xs ws
  | _, _, _, .nil, e => by rw [List.mapM_nil] at e; cases e; exact .nil
  | _, _, _, .cons r t, e => by
    rw [List.mapM_cons] at e
    obtain ⟨w, e1, e⟩ := Option.bind_eq_some_iff.mp e
    obtain ⟨ws, e2, e⟩ := Option.bind_eq_some_iff.mp e
    cases e
    exact .cons (s.read r e1) (all2_read s t e2)
/-- the builtins that are here -/
structure BiOk (g : Gx) (Lo : Out) (W : WX) (X : Cx) (b : Bi) : Prop where
  ok : CallR X (biV b) (rB g Lo W b (biN b - 1))
theorem bi_ok (xg : Xg g X) (b : Bi) (h : (match b with | .repr | .dictP _ => false | _ => true) = true) : BiOk g Lo W X b := by
  cases b with
  | len => exact ⟨c_len xg⟩
  | list => exact ⟨c_list xg⟩
  | tuple => exact ⟨c_tuple xg⟩
  | sorted => exact ⟨c_sorted xg⟩
  | int => exact ⟨c_int⟩
  | abs => exact ⟨c_abs⟩
  | max2 => exact ⟨c_max2 xg⟩
  | min2 => exact ⟨c_min2 xg⟩
  | maxL => exact ⟨c_maxL xg⟩
  | minL => exact ⟨c_minL xg⟩
  | sum => exact ⟨c_sum xg⟩
  | any => exact ⟨c_any xg⟩
  | all => exact ⟨c_all xg⟩
  | repr => cases h
  | dictP nk => cases h
theorem s_bi {b : Bi} {e : Expr} {es : List Expr} {f : Env → List D → Res (List D)} {p : Pos} (hb : BiOk g Lo W X b) (ha : PAm g Lo W X (biN b) (e :: es) f) (hg : Gl X (biS b)) (hm : X.mg (biS b) = none) (hp : (e :: es).all plainE = true) : PEm g Lo W X (.fresh 1) (.Call (.Name (biS b) p) (e :: es) [] pos) (biF b f) := by
  rw [List.all_cons, Bool.and_eq_true] at hp
  have h : PE X (.Call (.Name (biS b) p) (e :: es) [] pos) (tCB (rB g Lo W b (biN b - 1)) (tA g Lo W (biN b) f)) := by
    have hv := bi_boot b
    have ok := hb.ok
    cases hq : biV b with
    | builtin id => rw [hq] at hv ok; exact pe_callB ok hg hm hv ha (bi_name b) (bi_dbg b) (star_one hp.1) (star_any hp.2)
    | type T => rw [hq] at hv ok; exact pe_callTy ok hg hm hv ha (bi_name b) (bi_dbg b) (star_one hp.1) (star_any hp.2)
    | _ => cases b <;> cases hq
  refine h.sub fun σ H Q t => ?_
  obtain ⟨L, ρ, env, S, s, t⟩ := tE_to t
  refine partA s t fun xs vs S1 H1 e1 s1 rs h1 => ?_
  obtain ⟨z, q1, h1⟩ := h1.opt
  obtain ⟨ws, q2, q1⟩ := Option.bind_eq_some_iff.mp q1
  exact ⟨L, ρ, env, S1, σ, ws, z, s1, all2_read s1 rs q2, q1, h1.later e1 s1⟩

/-! ### - -/
theorem s_neg (ha : PEm g Lo W X (.weak 0) a fa) : PEm g Lo W X (.fresh 1) (.UnaryOp .USub a pos) (negF fa) := by
  refine (pe_un un_neg ha).sub fun σ H Q h => ?_
  obtain ⟨L, ρ, env, S, s, h⟩ := tE_to h
  refine part s h fun x v S1 H1 e1 s1 r h1 => ?_
  cases v with
  | int i => cases (show Rep g L ρ H1 x (.int i) from r); exact ⟨i, rfl, oldF s1 h1 (.int _)⟩
  | _ => exact h1.elim

/-! ### isinstance -/
def tyS : Ty → String
  | .int => "int" | .bool => "bool" | .str => "str" | .tup => "tuple" | .lst => "list" | .dct => "dict" | .cls _ => "object"
def tyB : Ty → Bool
  | .cls _ => false
  | _ => true
/-- the type's name of a value -/
def tyN : D → Option String
  | .non => some "NoneType" | .bl _ => some "bool" | .int _ => some "int" | .str _ => some "str" | .tup _ => some "tuple" | .lst _ => some "list" | .dct _ _ => some "dict"
  | _ => none
theorem ty_kit {v : D} {n : String} {t : Ty} {b : Bool} (hn : tyN v = some n) (ht : tyB t = true) (h : tyD t v = some b) : kitB n (tyS t) = some b := by
  cases v <;> cases hn <;> cases t <;> (try cases ht) <;> cases h <;> decide +kernel
theorem ty_some {v : D} {ts : List Ty} {b : Bool} (h : isiD v ts = some b) (hne : ts ≠ []) (hi : ∀ c fs, v ≠ .ins c fs) : ∃ n, tyN v = some n := by
  cases v with
  | ins c fs => exact absurd rfl (hi c fs)
  | ref n => cases ts with
    | nil => exact absurd rfl hne
    | cons t ts => cases t <;> cases h
  | fn n => cases ts with
    | nil => exact absurd rfl hne
    | cons t ts => cases t <;> cases h
  | scr n => cases ts with
    | nil => exact absurd rfl hne
    | cons t ts => cases t <;> cases h
  | _ => exact ⟨_, rfl⟩
theorem any_kit {K : PySem.W.Frag} {v : D} {n : String} (hn : tyN v = some n) : ∀ {ts : List Ty} {b : Bool}, (ts.all tyB) = true → isiD v ts = some b → PySem.W.kitAny K (.type n) (ts.map fun t => .type (tyS t)) = some b
  | [], b, _, h => by cases h; rfl
  | t :: ts, b, ha, h => by
    rw [List.all_cons, Bool.and_eq_true] at ha
    unfold isiD at h
    rw [List.map_cons]
    split at h
    · rename_i e
      cases h
      exact kitAny_cons (kit_ty (ty_kit hn ha.1 e)) (fun z => by cases z) fun _ => rfl
    · rename_i e
      exact kitAny_cons (kit_ty (ty_kit hn ha.1 e)) (fun _ => any_kit hn ha.2 h) fun z => by cases z
    · cases h
/-- the object behind a value, for isinstance -/
theorem kit_rep (xg : Xg g X) {L : Addr → Prop} {ρ : List Addr} {m : Nat} {pins : List (Addr × Obj)} {σ : L2.St} {H : Hp} {s : Shared} (I : L2.Inv X pins σ H s) {x : V} {v : D} {n : String} {u : Value} (r : RepR g L ρ H m x v) (hn : tyN v = some n) (ru : RelV x u) :
    ∃ P : Heap → Prop, PySem.W.KitX X.K u (.type n) P ∧ P s.heap ∧ u ≠ .builtin "__main__.__loader__#opaque" := by
  cases v with
  | non => cases hn; cases r.non; exact kit_of I ru (.base .non)
  | bl b => cases hn; cases r.bl; exact kit_of I ru (.base (.bl b))
  | int i => cases hn; cases r.int; exact kit_of I ru (.base (.int i))
  | str i => cases hn; cases r.str; exact kit_of I ru (.base (.str i))
  | tup ds => cases hn; obtain ⟨a, xs, rfl, h, _⟩ := r.tup; exact kit_of I ru (.base (.tup h))
  | lst ds => cases hn; obtain ⟨a, xs, rfl, h, _⟩ := r.lst; exact kit_of I ru (.base (.lst h))
  | dct nk ds =>
    cases hn
    cases nk with
    | false => obtain ⟨a, xs, rfl, h, _⟩ := r.dK; exact kit_of I ru (.base (.dK h))
    | true =>
      obtain ⟨a, es, rfl, h, hk, _⟩ := r.dN
      cases (show u = Value.ref a from ru)
      rw [← xg.prog, ← xg.w] at h
      obtain ⟨_, _, xs, _, o, es', ep, h1, h2, _⟩ := dn_at I h hk
      exact ⟨_, PySem.W.kitx_dict, ⟨o, h1, h2.1⟩, fun z => nomatch z⟩
  | _ => cases hn
/-- the classes, as names -/
def rI1 (g : Gx) (Lo : Out) (W : WX) : List V → Hp → VK → Prop := fun xs H Q => ∃ L ρ n v t b x, xs = [x, .ty (tyS t)] ∧ RepR g L ρ H n x v ∧ tyB t = true ∧ (∀ c fs, v ≠ .ins c fs) ∧ tyD t v = some b ∧ Q (.bl b) H
theorem isi_1 (xg : Xg g X) : CallR X (.builtin "isinstance") (rI1 g Lo W) := by
  intro pins s σ H xs us Q I r h
  obtain ⟨L, ρ, n, v, t, b, x, rfl, rx, ht, hi, e, q⟩ := h
  obtain ⟨u1, u2, rfl, r1, r2⟩ := vals2 r
  obtain rfl : u2 = .type (tyS t) := r2
  have e' : isiD v [t] = some b := by unfold isiD; rw [e]; cases b <;> rfl
  obtain ⟨nm, hn⟩ := ty_some e' (by simp) hi
  obtain ⟨P, Z, p, hx⟩ := kit_rep xg I rx hn r1
  exact PySem.W.kia_one Z I.kIn p (kit_ty (ty_kit hn ht e)) hx fun tk => ⟨.bl b, H, I.tok tk, rfl, q⟩
def tyVs (ts : List Ty) : List V := ts.map fun t => .ty (tyS t)
def rIT (g : Gx) : List V → Hp → VK → Prop := fun xs H Q => ∃ L ρ n v ts b x tp, xs = [x, .ref tp] ∧ H tp = some (.tup (tyVs ts)) ∧ ts ≠ [] ∧ RepR g L ρ H n x v ∧ ts.all tyB = true ∧ (∀ c fs, v ≠ .ins c fs) ∧ isiD v ts = some b ∧ Q (.bl b) H
theorem clsv_tys : ∀ ts : List Ty, Paired ClsV (tyVs ts) (ts.map fun t => Value.type (tyS t))
  | [] => .nil
  | t :: ts => .cons (.ty _) (clsv_tys ts)
theorem isi_T (xg : Xg g X) : CallR X (.builtin "isinstance") (rIT g) := by
  intro pins s σ H xs us Q I r h
  obtain ⟨L, ρ, n, v, ts, b, x, tp, rfl, hT, hne, rx, ht, hi, e, q⟩ := h
  obtain ⟨u1, u2, rfl, r1, r2⟩ := vals2 r
  obtain rfl : u2 = Value.ref tp := r2
  obtain ⟨nm, hn⟩ := ty_some e hne hi
  obtain ⟨P, Z, p, hx⟩ := kit_rep xg I rx hn r1
  obtain ⟨_, its, rv, o, h1, h2, n, h3⟩ := (show ObjOk X.prog X.w H s.heap tp (.tup (tyVs ts)) from I.hok tp _ hT)
  have e3 := ClsV.all (clsv_tys ts) rv
  subst e3
  obtain ⟨oc, od, dt, sl⟩ := o
  simp only at h2 h3
  subst h2 h3
  exact PySem.W.kia_tup Z I.kIn p h1 (any_kit hn ht e) hx fun tk => ⟨.bl b, H, I.tok tk, rfl, q⟩
/-- a type's name as an expression -/
theorem ty_name (t : Ty) (ht : tyB t = true) {p : Pos} (hg : Gl X (tyS t)) (hm : X.mg (tyS t) = none) : PE X (.Name (tyS t) p) (tC (.ty (tyS t))) := by
  refine pe_bltn (u := .type (tyS t)) hg hm ?_ rfl ?_ ?_
  · cases t <;> first | (cases ht; done) | decide +kernel
  · cases t <;> first | (cases ht; done) | decide +kernel
  · cases t <;> first | (cases ht; done) | decide +kernel
theorem isi_name : bootBuiltins "isinstance" = some (.builtin "isinstance") := by decide +kernel
theorem isi_ins {v : D} {ts : List Ty} {b : Bool} (h : isiD2 v ts = some b) : (∀ c fs, v ≠ .ins c fs) ∧ isiD v ts = some b := by
  unfold isiD2 at h
  split at h
  · cases h
  · rename_i hn
    exact ⟨fun c fs e => hn c fs e, h⟩
theorem s_isi1 (xg : Xg g X) {t : Ty} {p p2 : Pos} (ht : tyB t = true) (ha : PEm g Lo W X (.weak 1) a fa) (hg : Gl X "isinstance") (hm : X.mg "isinstance" = none) (hg2 : Gl X (tyS t)) (hm2 : X.mg (tyS t) = none) (hp : plainE a = true) :
    PEm g Lo W X (.fresh 1) (.Call (.Name "isinstance" p) [a, .Name (tyS t) p2] [] pos) (isiF [t] fa) := by
  refine PE.sub (pe_callB (isi_1 (Lo := Lo) (W := W) xg) hg hm isi_name (pa_cons ha (pa_cons (ty_name t ht hg2 hm2) pa_nil rfl) (star_one hp)) (by decide +kernel) (by decide +kernel) (star_one hp) rfl) fun σ H Q h => ?_
  obtain ⟨L, ρ, env, S, s, h⟩ := tE_to h
  refine part s h fun x v S1 H1 e1 s1 r h1 => ?_
  obtain ⟨z, q1, h1⟩ := h1.opt
  obtain ⟨v', q2, q1⟩ := Option.bind_eq_some_iff.mp q1
  obtain ⟨b, q3, q1⟩ := Option.map_eq_some_iff.mp q1
  subst q1
  obtain ⟨hi, q3⟩ := isi_ins q3
  have q4 : tyD t v' = some b := by
    unfold isiD at q3
    split at q3
    · rename_i e; cases q3; exact e
    · rename_i e; cases q3; exact e
    · cases q3
  exact ⟨L, ρ, 0, v', t, b, x, rfl, s1.read r q2, ht, hi, q4, oldF s1 h1 (.bl b)⟩
/-- the tuple of types -/
theorem pa_tys : ∀ (ts : List Ty) (es : List Expr), (es.length = ts.length) → (∀ (i : Nat) (e : Expr) (t : Ty), es[i]? = some e → ts[i]? = some t → (plainE e = true) ∧ PE X e (tC (.ty (tyS t)))) → PA X es (fun _ H Q => Q (tyVs ts) H)
  | [], [], _, _ => PA.sub pa_nil fun _ _ _ h => h
  | [], _ :: _, h, _ => by cases h
  | _ :: _, [], h, _ => by cases h
  | t :: ts, e :: es, h, f => PA.sub (pa_cons (f 0 e t rfl rfl).2 (pa_tys ts es (by simpa using h) fun i e' t' e1 e2 => f (i + 1) e' t' (by simpa using e1) (by simpa using e2)) (star_one (f 0 e t rfl rfl).1)) fun _ _ _ h => h
theorem s_isiT (xg : Xg g X) {ts : List Ty} {es : List Expr} {k : Nat} {p p2 : Pos} (hne : ts ≠ []) (hlen : ts.length ≤ 20) (ht : ts.all tyB = true) (ha : PEm g Lo W X (.weak 1) a fa) (hg : Gl X "isinstance") (hm : X.mg "isinstance" = none) (hes : PA X es (fun _ H Q => Q (tyVs ts) H)) (hp : plainE a = true) :
    PEm g Lo W X (.fresh 1) (.Call (.Name "isinstance" p) [a, .Tuple es k p2] [] pos) (isiF ts fa) := by
  refine PE.sub (pe_callB (isi_T xg) hg hm isi_name (pa_cons ha (pa_cons (pe_tup hes) pa_nil rfl) (star_one hp)) (by decide +kernel) (by decide +kernel) (star_one hp) rfl) fun σ H Q h => ?_
  obtain ⟨L, ρ, env, S, s, h⟩ := tE_to h
  refine part s h fun x v S1 H1 e1 s1 r h1 => ?_
  obtain ⟨z, q1, h1⟩ := h1.opt
  obtain ⟨v', q2, q1⟩ := Option.bind_eq_some_iff.mp q1
  obtain ⟨b, q3, q1⟩ := Option.map_eq_some_iff.mp q1
  subst q1
  obtain ⟨hi, q3⟩ := isi_ins q3
  refine ⟨by unfold tyVs; rw [List.length_map, ← lim_eq]; unfold lim; omega, fun q hq => ?_⟩
  have s2 := s1.new (o := .tup (tyVs ts)) hq
  have e2 : Ev ρ H1 (upd H1 q (.tup (tyVs ts))) := Ev.new hq
  refine ⟨L, ρ, 0, v', ts, b, x, q, rfl, upd_same, hne, s2.read (RepW.ev s1 e2 r) q2, ht, hi, q3, ?_⟩
  exact oldF s2 (h1.mono e2) (.bl b)

/-! ### list(range(..)) -/
theorem rg_ok {a b : Int} (h : rgOk a b = true) : RgOk a b := by
  unfold rgOk lim at h
  rw [smallI_iff, smallI_iff] at h
  simp only [Bool.and_eq_true, decide_eq_true_eq] at h
  exact ⟨by omega, by omega, by omega, by omega, by omega⟩
theorem rg_rep {L : Addr → Prop} {ρ : List Addr} {H : Hp} (a b : Int) : All2 (Rep g L ρ H) (rgV a b) (rgL a b) := by
  unfold rgV rgL
  generalize List.range (b - a).toNat = l
  induction l with
  | nil => exact .nil
  | cons i l ih => exact .cons (.int _) ih
theorem s_rg1 (xg : Xg g X) {p p2 pos2 : Pos} (hg : Gl X "list") (hm : X.mg "list" = none) (hg2 : Gl X "range") (hm2 : X.mg "range" = none) (ha : PEm g Lo W X (.weak 0) a fa) (hp : plainE a = true) :
    PEm g Lo W X (.fresh 1) (.Call (.Name "list" p) [.Call (.Name "range" p2) [a] [] pos2] [] pos) (rg1F fa) := by
  refine PE.sub (pe_listRg xg.calm hg hm (prg_1 hg2 hm2 ha (star_one hp)) rfl) fun σ H Q h => ?_
  obtain ⟨L, ρ, env, S, s, h⟩ := tE_to h
  refine part s h fun x v S1 H1 e1 s1 r h1 => ?_
  cases v with
  | int n =>
    cases (show Rep g L ρ H1 x (.int n) from r)
    have h2 : Fin g Lo W L ρ env σ (okE g L ρ H (.fresh 1) Q) (if rgOk 0 n then .ok (.lst (rgL 0 n)) S1 else .stuck) H1 := h1
    clear h1
    split at h2
    · exact ⟨n, rfl, rg_ok (by assumption), newLst s1 e1 h2 (rg_rep 0 n)⟩
    · exact h2.elim
  | _ => exact h1.elim
theorem s_rg2 (xg : Xg g X) {p p2 pos2 : Pos} (hg : Gl X "list") (hm : X.mg "list" = none) (hg2 : Gl X "range") (hm2 : X.mg "range" = none) (ha : PEm g Lo W X (.weak 0) a fa) (hb : PEm g Lo W X (.weak 0) b fb) (hp : plainE a = true) (hp2 : plainE b = true) :
    PEm g Lo W X (.fresh 1) (.Call (.Name "list" p) [.Call (.Name "range" p2) [a, b] [] pos2] [] pos) (rg2F fa fb) := by
  refine PE.sub (pe_listRg xg.calm hg hm (prg_2 hg2 hm2 ha hb (star_one hp) (star_one hp2) (star_any (by simp [hp2]))) rfl) fun σ H Q h => ?_
  obtain ⟨L, ρ, env, S, s, h⟩ := tE_to h
  exact two s h fun x y v w S2 H2 e s2 r1 r2 h2 => by
    cases v with
    | int m =>
      cases (show Rep g L ρ H2 x (.int m) from r1)
      cases w with
      | int n =>
        cases (show Rep g L ρ H2 y (.int n) from r2)
        have h3 : Fin g Lo W L ρ env σ (okE g L ρ H (.fresh 1) Q) (if rgOk m n then .ok (.lst (rgL m n)) S2 else .stuck) H2 := h2
        clear h2
        split at h3
        · exact ⟨m, n, rfl, rfl, rg_ok (by assumption), newLst s2 e h3 (rg_rep m n)⟩
        · exact h3.elim
      | _ => exact h2.elim
    | _ => exact h2.elim

/-! ### d.get(k, x) -/
theorem meth2_few {pos : Pos} {env : PySem.Env} {e f : Expr} (he : plainE e = true) (hf : plainE f = true) : ((backTo pos (starEach [e, f] env)).all (fun x => !x.1) && (backToKw pos (keywordEach [] env)).all (fun x => x.1.isSome)
    && decide (([e, f] : List Expr).length + ([] : List Keyword).length + (if ([] : List Keyword).isEmpty then 0 else 1) < 30)) = true := by
  rw [star_one he, star_one hf]
  rfl
theorem meth2_trees {pos : Pos} {env : PySem.Env} {e f : Expr} (he : plainE e = true) (hf : plainE f = true) : backTo pos (starEach [e, f] env) = [(false, eval e env), (false, eval f env)] := by
  rw [star_one he, star_one hf]
  rfl
end
end BP
end

section
set_option autoImplicit false
set_option linter.all false
set_option maxRecDepth 100000
/-! BPh: calls of own defs, making of instances, d.get. -/
namespace BP
open PySem PySem.Spec PyProof.Rows L2

/-- what is so when a def begins -/
structure Start (g : Gx) (L : Addr → Prop) (ρ : List Addr) (S : List D) (H : Hp) : Prop where
  live : ∀ a, L a → ∃ o, H a = some o ∧ IsMut o
  nd : ρ.Nodup
  inL : ∀ a ∈ ρ, L a
  cells : All2 (fun a v => OwnR g L ρ H 1 [a] (.ref a) v) ρ S
section
variable {g : Gx} {Lo : Out} {L : Addr → Prop} {ρ : List Addr} {env : Env} {S S' : List D} {σ : L2.St} {H H' : Hp}
theorem Sim.start (s : Sim g Lo L ρ env S σ H) : Start g L ρ S H := by
  obtain ⟨A, o, _⟩ := s.own
  exact ⟨s.live, o.ndr, fun a ha => (o.inLr a ha).1, s.cells⟩
end
/-- the promise of a def -/
def spF (g : Gx) (run : List D → List D → Res D) (np d : Nat) : Sp := fun vs H Q E => ∃ L ρ S args, Start g L ρ S H ∧ All2 (Rep g L ρ H) vs args ∧ vs.length = np ∧ match run args S with
  | .ok v S' => ∀ x H', Ev ρ H H' → Start g L ρ S' H' → RM g L ρ H H' S' (.fresh d) x v → Q x H'
  | .exc c fs S' => ∀ d H', Ev ρ H H' → Start g L ρ S' H' → XRep g L ρ H' d fs → E (.ref (g.ca c)) d H'
  | .stuck => False
/-- .. of an __init__: the instance at x is there, empty -/
def spI (g : Gx) (c : Nat) (mk : List D → List D → Res D) (np : Nat) : Sp := fun vs H Q E => ∃ L ρ S args x dx xs H0, vs = .ref x :: xs ∧ H = upd (upd H0 dx (.own x)) x (.ins (g.ca c) dx []) ∧ H0 x = none ∧ H0 dx = none ∧ dx ≠ x ∧
  Start g L ρ S H0 ∧ All2 (Rep g L ρ H0) xs args ∧ vs.length = np ∧ match mk args S with
  | .ok v S' => ∀ H', Ev ρ H0 H' → Start g L ρ S' H' → Rep g L ρ H' (.ref x) v → Q .non H'
  | .exc c fs S' => ∀ d H', Ev ρ H0 H' → Start g L ρ S' H' → XRep g L ρ H' d fs → E (.ref (g.ca c)) d H'
  | .stuck => False

section
variable {X : Cx} {CX : CXT} {k : Nat} {f C : Addr} {fd : FuncData} {ps : List Str} {sp : Sp} {E : L2.St → XK} {x m : Str} {p pos : Pos} {e o : Expr} {es : List Expr} {t : TA}
/-- f() -/
theorem pe_callS0 (F : FnOk X.prog X.w X.K X.mg X.base CX k f fd ps sp) (hr : Room k X.A) (hg : Gl X x) (hm : X.mg x = some (.ref f)) (hk : PySem.W.keepIn X.K (.ref f) = true) (hb : Binds X.K fd ps []) (hx : ∀ σ, PassesAt CX X σ (E σ))
    (hdb : (x == ("__debug__" : Str)) = false) : PE X (.Call (.Name x p) [] [] pos) (tCallS sp E tNil) := by
  refine ⟨fun pins s σ H Q I h => ?_⟩
  refine wpAny_Call_Name_kw (ld_glob I hg hm ?_ hdb)
  exact PySem.W.callWith_K0 I.kIn hk (run_fnS (us := []) F hr hb (hx σ) I .nil h)
theorem run_makeS {pins : List (Addr × Obj)} {σ : L2.St} {H : Hp} {s : Shared} {Q : VK} {us : List Value} {vs : List V} (M : Mk X.K C f) (F : FnOk X.prog X.w X.K X.mg X.base CX k f fd ps sp) (hr : Room (k + 1) X.A) (hb : Binds X.K fd ps [])
    (hx : PassesAt CX X σ (E σ)) (I : L2.Inv X pins σ H s) (r : Vals vs us)
    (h : ∀ x dx, H x = none → H dx = none → dx ≠ x → sp (.ref x :: vs) (upd (upd H dx (.own x)) x (.ins C dx [])) (fun v H2 => v = .non ∧ Q (.ref x) H2) (E σ)) :
    wpAny (model X.prog X.w) X.A (call (.ref C) us) (EP X pins σ Q) X.xe s := by
  have hq := h (s.heap.objs.size + 1) s.heap.objs.size (I.hok.fresh (Nat.le_succ _)) (I.hok.fresh (Nat.le_refl _)) (Nat.ne_of_lt (Nat.lt_succ_self _))
  have I2 := Inv.made (C := C) I
  have r2 : Vals (V.ref (s.heap.objs.size + 1) :: vs) (Value.ref (s.heap.objs.size + 1) :: us) := .cons rfl r
  have hl : (Value.ref (s.heap.objs.size + 1) :: us).length = ps.length := r2.length.symm.trans (F.len _ _ _ _ hq)
  have hb2 := hb _ (Value.ref (s.heap.objs.size + 1) :: us) I2.kIn (by rw [List.append_nil]; exact hl)
  rw [List.append_nil] at hb2
  refine wpAny_call (make_map (f := f) I.kIn M.makes M.init (beq_iff_eq.mp M.fn) (codeAny_mono (F.run _ X.stack _ _ ⟨Value.ref (s.heap.objs.size + 1) :: us, []⟩ (Value.ref (s.heap.objs.size + 1) :: us) _ _ (E σ) (hr.make C us [])
    (I2.env0.make C us []) hb2 r2 hq) fun r s' hq' => ?_))
  cases r with
  | error e => exact hx pins _ _ e s' I2 hq'
  | ok fl =>
    cases fl with
    | ret u =>
      obtain ⟨v, H', I3, rv, ev, q3⟩ := I2.after hq'
      subst ev
      exact ⟨rv, ⟨V.ref (s.heap.objs.size + 1), H', I3, rfl, q3⟩⟩
    | next => exact False.elim hq'
    | brk => exact False.elim hq'
    | cont => exact False.elim hq'
def tMakeS (C : Addr) (sp : Sp) (E : L2.St → XK) (t : TA) : TE := fun σ H Q => t σ H fun vs H1 => ∀ x dx, H1 x = none → H1 dx = none → dx ≠ x →
  sp (.ref x :: vs) (upd (upd H1 dx (.own x)) x (.ins C dx [])) (fun v H2 => v = .non ∧ Q (.ref x) H2) (E σ)
theorem pe_makeS (M : Mk X.K C f) (F : FnOk X.prog X.w X.K X.mg X.base CX k f fd ps sp) (hr : Room (k + 1) X.A) (hg : Gl X x) (hm : X.mg x = some (.ref C)) (hb : Binds X.K fd ps []) (hx : ∀ σ, PassesAt CX X σ (E σ))
    (ha : PA X (e :: es) t) (hdb : (x == ("__debug__" : Str)) = false) (he : starEach (e :: es) X.env = (false, eval e X.env) :: starEach es X.env) (hpl : (backTo pos (starEach es X.env)).any (·.1) = false) :
    PE X (.Call (.Name x p) (e :: es) [] pos) (tMakeS C sp E t) := by
  refine ⟨fun pins s σ H Q I h => ?_⟩
  refine wpAny_Call_Name_kw (ld_glob I hg hm ?_ hdb)
  refine PySem.W.callWith_K (h₀ := X.base) I.ok.mod.kin M.kp (thn (ha.run pos pins s σ H _ I h) fun us s1 ⟨vs, H1, I1, r, q⟩ => ⟨I1.kIn, ?_⟩) he hpl
  exact run_makeS M F hr hb (hx σ) I1 r q
end

section
variable {g : Gx} {Lo : Out} {W : WX} {X : Cx} {a b c : Expr} {pos p : Pos} {fa fb fc : Env → List D → Res D} {fr : Env → List D → Res (List D)} {k : Nat} {fd : FuncData} {ps : List Str} {x : Str} {e : Expr} {es : List Expr}
theorem Start.sim {L : Addr → Prop} {ρ : List Addr} {env : Env} {S S' : List D} {σ : L2.St} {H H' : Hp} (s : Sim g Lo L ρ env S σ H) (e : Ev ρ H H') (st : Start g L ρ S' H') : Sim g Lo L ρ env S' σ H' := s.ev e st.cells
/-- behind the arguments -/
theorem call_end {run : List D → List D → Res D} {L : Addr → Prop} {ρ : List Addr} {env : Env} {S1 : List D} {σ : L2.St} {H H1 : Hp} {Q : VK} {xs : List V} {vs : List D} {np d : Nat} (e : Ev ρ H H1) (s1 : Sim g Lo L ρ env S1 σ H1) (rs : All2 (RepW g L ρ H1 0) xs vs) (hn : xs.length = np)
    (h : Fin g Lo W L ρ env σ (okE g L ρ H (.fresh d) Q) (run vs S1) H1) : spF g run np d xs H1 Q (WE W σ) := by
  have h := Fin.later e s1 h
  refine ⟨L, ρ, S1, vs, s1.start, rs, hn, ?_⟩
  unfold Fin okE at h
  cases q : run vs S1 with
  | ok v S' => rw [q] at h; exact fun x H' e' st r => h H' e' (st.sim s1 e') x r
  | exc c fs S' => rw [q] at h; exact fun d H' e' st r => h d H' e' (st.sim s1 e') r
  | stuck => rw [q] at h; exact h
theorem Fin.run {α : Type} {L : Addr → Prop} {ρ : List Addr} {env : Env} {σ : L2.St} {ok : α → List D → Hp → Prop} {r : Res α} {H : Hp} (h : Fin g Lo W L ρ env σ ok r H) : r ≠ .stuck := fun e => by rw [e] at h; exact h
theorem s_call {run : List D → List D → Res D} {f : Addr} {d : Nat} (xg : Xg g X) (F : FnOk X.prog X.w X.K X.mg X.base (L2.CX X.prog X.w) k f fd ps (spF g run ps.length d)) (hr : Room k X.A) (hg : Gl X x) (hm : X.mg x = some (.ref f)) (hk : PySem.W.keepIn X.K (.ref f) = true) (hb : Binds X.K fd ps []) (tk : Takes X W)
    (ha : PAm g Lo W X 0 (e :: es) fr) (hdb : (x == ("__debug__" : Str)) = false) (hp : (e :: es).all plainE = true) (hlen : ∀ vs S, run vs S ≠ .stuck → vs.length = ps.length) : PEm g Lo W X (.fresh d) (.Call (.Name x p) (e :: es) [] pos) (callF run fr) := by
  rw [List.all_cons, Bool.and_eq_true] at hp
  refine PE.sub (pe_callS (E := WE W) F hr hg hm hk hb (fun σ => passAt tk σ) ha hdb (star_one hp.1) (star_any hp.2)) fun σ H Q h => ?_
  obtain ⟨L, ρ, env, S, s, h⟩ := tE_to h
  exact partA s h fun xs vs S1 H1 e1 s1 rs h1 => call_end e1 s1 rs (by rw [rs.length]; exact hlen _ _ h1.run) h1
theorem s_call0 {run : List D → List D → Res D} {f : Addr} {d : Nat} (xg : Xg g X) (F : FnOk X.prog X.w X.K X.mg X.base (L2.CX X.prog X.w) k f fd ps (spF g run ps.length d)) (hr : Room k X.A) (hg : Gl X x) (hm : X.mg x = some (.ref f)) (hk : PySem.W.keepIn X.K (.ref f) = true) (hb : Binds X.K fd ps []) (tk : Takes X W)
    (hl : ps.length = 0) (hdb : (x == ("__debug__" : Str)) = false) : PEm g Lo W X (.fresh d) (.Call (.Name x p) [] [] pos) (callF run nilF) := by
  refine PE.sub (pe_callS0 (E := WE W) F hr hg hm hk hb (fun σ => passAt tk σ) hdb) fun σ H Q h => ?_
  obtain ⟨L, ρ, env, S, s, h⟩ := tE_to h
  exact call_end (.refl _ _) s .nil hl.symm h
/-- the heap with an empty instance -/
theorem Ev.made {ρ : List Addr} {H : Hp} {x dx C : Addr} (hx : H x = Option.none) (hd : H dx = Option.none) : Ev ρ H (upd (upd H dx (.own x)) x (.ins C dx [])) := fun a o h _ => by
  rw [upd_ne (ne_of_none h hx), upd_ne (ne_of_none h hd)]; exact h
theorem s_make {mk : List D → List D → Res D} {C f : Addr} {ci : Nat} (xg : Xg g X) (hC : C = g.ca ci) (M : Mk X.K C f) (F : FnOk X.prog X.w X.K X.mg X.base (L2.CX X.prog X.w) k f fd ps (spI g ci mk ps.length)) (hr : Room (k + 1) X.A) (hg : Gl X x) (hm : X.mg x = some (.ref C)) (hb : Binds X.K fd ps []) (tk : Takes X W)
    (ha : PAm g Lo W X 0 (e :: es) fr) (hdb : (x == ("__debug__" : Str)) = false) (hp : (e :: es).all plainE = true) (hlen : ∀ vs S, mk vs S ≠ .stuck → vs.length + 1 = ps.length) (hz : ∀ vs S v S', mk vs S = .ok v S' → v.cont = false) : PEm g Lo W X (.fresh 1) (.Call (.Name x p) (e :: es) [] pos) (callF mk fr) := by
  rw [List.all_cons, Bool.and_eq_true] at hp
  refine PE.sub (pe_makeS (E := WE W) M F hr hg hm hb (fun σ => passAt tk σ) ha hdb (star_one hp.1) (star_any hp.2)) fun σ H Q h => ?_
  obtain ⟨L, ρ, env, S, s, h⟩ := tE_to h
  refine partA s h fun xs vs S1 H1 e1 s1 rs h1 => ?_
  have h2 := Fin.later e1 s1 h1
  intro i dx hi hd hne
  refine ⟨L, ρ, S1, vs, i, dx, xs, H1, rfl, by rw [hC], hi, hd, hne, s1.start, rs, by rw [List.length_cons, rs.length]; exact hlen _ _ h1.run, ?_⟩
  unfold Fin okE at h2
  cases q2 : mk vs S1 with
  | ok v S' => rw [q2] at h2; exact fun H' e' st r => ⟨rfl, h2 H' e' (st.sim s1 e') _ ⟨[], .imm0 r (.inr (hz _ _ _ _ q2)), by simp, (fun a ha => by cases ha), CellsR.nil st.cells⟩⟩
  | exc c fs S' => rw [q2] at h2; exact fun d H' e' st r => h2 d H' e' (st.sim s1 e') r
  | stuck => rw [q2] at h2; exact h2

/-! ### d.get(k, y) -/
theorem s_get (xg : Xg g X) {apos : Pos} (hs : isSuperCall a = false) (hline : (apos.endLine == pos.line) = true) (hpb : plainE b = true) (hpc : plainE c = true) (ha : PEm g Lo W X (.weak 1) a fa) (hb : PEm g Lo W X (.weak 0) b fb) (hc : PEm g Lo W X (.weak 0) c fc) :
    PEm g Lo W X (.fresh 0) (.Call (.Attribute a "get" apos) [b, c] [] pos) (getF fa fb fc) := by
  refine ⟨fun pins s σ H Q I t => ?_⟩
  obtain ⟨L, ρ, env, S, sm, h⟩ := tE_to t
  have hu := xg.hu; have hP := xg.prog; have hw := xg.w
  refine wpAny_Call_method (attr_plain hs) (meth2_few hpb hpc) hline PySem.F.plainAttrs_dict PySem.F.slot_dict_get PySem.F.type_dict_get
    (thn (ha.run pins s σ H (fun x H1 => ∃ S1 nk kvs, Ev ρ H H1 ∧ Sim g Lo L ρ env S1 σ H1 ∧ RepW g L ρ H1 1 x (.dct nk kvs) ∧
      Fin g Lo W L ρ env σ (okE g L ρ H (.fresh 0) Q) ((fb env S1).bind fun k S => (fc env S).bind fun y S => Res.opt ((k.ky nk).map fun k => (dget kvs k).getD y) S) H1) I (part sm h fun x v S1 H1 e1 s1 r1 h1 => ?_))
      fun u s1 ⟨x, H1, I1, rx, S1, nk, kvs, e1, sm1, r1, h1⟩ => ?_)
  · cases v with
    | dct nk kvs => exact ⟨S1, nk, kvs, e1, s1, r1, h1⟩
    | _ => exact h1.elim
  have r2 : RepR g L ρ H1 0 x (.dct nk kvs) := sm1.read (v' := .dct nk kvs) r1 rfl
  rw [meth2_trees hpb hpc]
  have rest : ∀ (G : Value → Shared → Prop), (∀ (k d : D) (y z : V) (S3 : List D) (H3 : Hp) (iv fv : Value) (s3 : Shared), L2.Inv X pins σ H3 s3 → Ev ρ H1 H3 → Sim g Lo L ρ env S3 σ H3 → Rep g L ρ H3 y k → Rep g L ρ H3 z d → RelV y iv → RelV z fv →
      Fin g Lo W L ρ env σ (okE g L ρ H (.fresh 0) Q) (Res.opt ((k.ky nk).map fun k => (dget kvs k).getD d) S3) H3 → wpAny (model X.prog X.w) X.A (call (.builtin "dict.get") [u, iv, fv]) G X.xe s3) →
      wpAny (model X.prog X.w) X.A (callWith pos (.builtin "dict.get") [u] [(false, eval b X.env), (false, eval c X.env)] []) G X.xe s1 := fun G hG =>
    Calls.callWith_builtin rfl (Calls.evalArgs_plain (Calls.spliced_cons (thn (hb.run pins s1 σ H1 (fun y H2 => ∃ S2 k, Ev ρ H1 H2 ∧ Sim g Lo L ρ env S2 σ H2 ∧ Rep g L ρ H2 y k ∧ Fin g Lo W L ρ env σ (okE g L ρ H (.fresh 0) Q) ((fc env S2).bind fun y S => Res.opt ((k.ky nk).map fun k => (dget kvs k).getD y) S) H2) I1
      (part sm1 h1 fun y k S2 H2 e2 s2 r h2 => ⟨S2, k, e2, s2, r, h2⟩)) fun iv s2 ⟨y, H2, I2, ry, S2, k, e2, sm2, rk, h2⟩ =>
      Calls.spliced_cons (thn (hc.run pins s2 σ H2 (fun z H3 => ∃ S3 d, Ev ρ H2 H3 ∧ Sim g Lo L ρ env S3 σ H3 ∧ Rep g L ρ H3 z d ∧ Fin g Lo W L ρ env σ (okE g L ρ H (.fresh 0) Q) (Res.opt ((k.ky nk).map fun k => (dget kvs k).getD d) S3) H3) I2
        (part sm2 h2 fun z d S3 H3 e3 s3 r h3 => ⟨S3, d, e3, s3, r, h3⟩)) fun fv s3 ⟨z, H3, I3, rz, S3, d, e3, sm3, rd, h3⟩ => Calls.spliced_nil (hG k d y z S3 H3 iv fv s3 I3 (e2.trans e3) sm3 (e3.rep sm2 rk) rd ry rz h3)))))
  cases nk with
  | false =>
    obtain ⟨a, kv, rfl, h2, q1⟩ := r2.dK
    obtain rfl : u = Value.ref a := rx
    obtain ⟨t1, t2, _⟩ := isD_at I1 (.inl ⟨kv, .inl h2⟩)
    refine ⟨t1, t2, rest _ fun k d y z S3 H3 iv fv s3 I3 e3 sm3 rk rd ry rz h3 => ?_⟩
    obtain ⟨v, q2, h3⟩ := h3.opt
    obtain ⟨kk, q3, q2⟩ := Option.map_eq_some_iff.mp q2
    have r3 : RepR g L ρ H3 0 (.ref a) (.dct false kvs) := sm3.read (v' := .dct false kvs) (RepW.ev sm1 e3 r1) rfl
    obtain ⟨a', kv', ea, h4, q4⟩ := r3.dK
    cases ea
    obtain ⟨j, rfl, rfl⟩ := repr_keyK (m := 0) (.inl rk) q3
    obtain ⟨g1, g2⟩ := dk_find q4 j
    refine d_get2 (by omega) I3 (DGet.k h4) ry rz fun w' s4 I4 rw' => ⟨_, H3, I4, rw', oldF sm3 h3 ?_ (.inl rfl)⟩
    subst q2
    cases e : dget kvs (kN j) with
    | none => rw [e] at g1; cases e' : valV kv' j with
      | none => exact rd
      | some _ => rw [e'] at g1; cases g1
    | some w => obtain ⟨x, e', rx⟩ := g2 w e; rw [e']; exact rx
  | true =>
    obtain ⟨a, es, rfl, h2, hk, q1⟩ := r2.dN
    obtain rfl : u = Value.ref a := rx
    have h2' := h2
    rw [← hP, ← hw] at h2'
    obtain ⟨_, _, xs, _, dd⟩ := dn_at I1 h2' hk
    obtain ⟨o, _, _, ho, hx, _⟩ := id dd
    refine ⟨dd.typeIs, fun b e => (by cases e; exact ⟨o, ho, hx.2.1⟩), rest _ fun k d y z S3 H3 iv fv s3 I3 e3 sm3 rk rd ry rz h3 => ?_⟩
    obtain ⟨v, q2, h3⟩ := h3.opt
    obtain ⟨kk, q3, q2⟩ := Option.map_eq_some_iff.mp q2
    have r3 : RepR g L ρ H3 0 (.ref a) (.dct true kvs) := sm3.read (v' := .dct true kvs) (RepW.ev sm1 e3 r1) rfl
    obtain ⟨a', es', ea, h4, hk4, q4⟩ := r3.dN
    cases ea
    obtain ⟨bb, rfl, n1, n2⟩ := repr_key (m := 0) (.inl rk) q3
    obtain ⟨g1, g2⟩ := esr_get q4 kk
    rw [← hP, ← hw] at h4
    obtain rfl : iv = Value.ref bb := ry
    refine n_get2 (by omega) I3 h4 hk4 n1 n2 rz fun w' s4 I4 rw' => ⟨_, H3, I4, rw', oldF sm3 h3 ?_ (.inl rfl)⟩
    subst q2
    cases e : dget kvs kk with
    | none => rw [e] at g1; cases e' : eget es' kk with
      | none => exact rd
      | some _ => rw [e'] at g1; cases g1
    | some w => obtain ⟨x, e', rx⟩ := g2 w e; rw [e']; exact rx
end
end BP
end

section
set_option autoImplicit false
set_option linter.all false
set_option maxRecDepth 100000
/-! BPi: what loops walk. -/
namespace BP
open PySem PySem.Spec PyProof.Rows L2

/-- what an iterator hands out: a thing that is there, or a new pair -/
inductive YV where | one (x : V) | two (x y : V)
def YY (ys : List YV) : Nat → Hp → V → Hp → Prop := fun i H v H' => ∃ y, ys[i]? = some y ∧ match y with
  | .one x => H' = H ∧ v = x
  | .two x z => ∃ T, v = .ref T ∧ H T = none ∧ H' = upd H T (.tup [x, z])
def RepY (g : Gx) (L : Addr → Prop) (ρ : List Addr) (H : Hp) (y : YV) (d : D) : Prop := match y with
  | .one x => Rep g L ρ H x d
  | .two x z => ∃ p q, d = .tup [p, q] ∧ Rep g L ρ H x p ∧ Rep g L ρ H z q
/-- the walk J gives the plain values ds; what it walks stands at places that are ok -/
def Items (g : Gx) (L : Addr → Prop) (ρ : List Addr) (ok : Addr → Prop) (H : Hp) (J : L2.It) (ds : List D) : Prop :=
  ∃ (ys : List YV) (fp : List (Addr × HO)), (∀ p ∈ fp, H p.1 = some p.2 ∧ ok p.1) ∧ Walk J ys.length (fun H' => ∀ p ∈ fp, H' p.1 = some p.2) (YY ys) ∧ All2 (RepY g L ρ H) ys ds
/-- n = 0: it is frozen; else it is no cell's -/
def okP (n : Nat) (L : Addr → Prop) (ρ : List Addr) (a : Addr) : Prop := match n with
  | 0 => ¬ L a
  | _ + 1 => a ∉ ρ
def tI (g : Gx) (Lo : Out) (W : WX) (n : Nat) (f : Env → List D → Res (List D)) : TI := fun σ H R => ∃ L ρ env S, Sim g Lo L ρ env S σ H ∧ Fin g Lo W L ρ env σ (fun ds S' H' => ∀ J, Items g L ρ (okP n L ρ) H' J ds → R J H') (f env S) H
abbrev PIm (g : Gx) (Lo : Out) (W : WX) (X : Cx) (n : Nat) (tg e : Expr) (f : Env → List D → Res (List D)) : Prop := PI X tg e (tI g Lo W n f)

section
variable {g : Gx} {Lo : Out} {W : WX} {X : Cx} {a b c tg : Expr} {pos p : Pos} {fa fb fc : Env → List D → Res D} {n : Nat}
/-- a list or a tuple, as it is -/
theorem pi_seq {l : Expr} {tl : TE} (hl : PE X l tl) : PI X tg l (fun σ H R => tl σ H fun x H1 => ∃ a, x = .ref a ∧ ((∃ xs, H1 a = some (.lst xs) ∧ R (Itl X.K a) H1) ∨ ∃ xs, H1 a = some (.tup xs) ∧ R (Itt X.K a) H1)) := by
  refine ⟨fun pins s σ H R I h => thn (hl.run pins s σ H _ I h) fun v s1 ⟨x, H1, I1, r1, a, ex, q⟩ => ?_⟩
  subst ex
  cases r1
  have fr : ∀ b, b ∈ [s1.heap.objs.size] → FpOk X pins H1 b := fun b hb => by
    have e := List.mem_singleton.mp hb
    rw [e]
    exact I1.fpOk (Nat.le_refl _) (I1.hok.fresh (Nat.le_refl _))
  rcases q with ⟨xs, hq, q⟩ | ⟨xs, hq, q⟩
  · obtain ⟨its, rv, pl, hz⟩ := I1.list (.of hq)
    exact wpAny_pyIter_list pl.isList ⟨_, _, _, _, H1, rfl, I1.kept (t' := s1.toks) fun b o e => Heap.get?_push_of_some _ e, turn_list a _, ⟨_, Heap.get?_push_size _ rfl, rfl, rfl⟩, fr, q⟩
  · obtain ⟨its, rv, pl, hz⟩ := I1.tuple (.of hq)
    exact wpAny_pyIter_tuple (show s1.heap.IsTuple a its.toArray from pl) ⟨_, _, _, _, H1, rfl, I1.kept (t' := s1.toks) fun b o e => Heap.get?_push_of_some _ e, turn_tuple a _, ⟨_, Heap.get?_push_size _ rfl, rfl, rfl⟩, fr, q⟩
theorem walk_one {J : L2.It} {xs : List V} {G G' : Hp → Prop} (w : Walk J xs.length G (YAt xs)) (hg : ∀ H, G' H → G H) : Walk J (xs.map YV.one).length G' (YY (xs.map YV.one)) := by
  rw [List.length_map]
  exact w.mono hg fun i H x H' hi _ y => ⟨.one x, by rw [List.getElem?_map, y.2]; rfl, y.1, rfl⟩
theorem repY_one {L : Addr → Prop} {ρ : List Addr} {H : Hp} : ∀ {xs : List V} {ds : List D}, All2 (Rep g L ρ H) xs ds → All2 (RepY g L ρ H) (xs.map YV.one) ds
  | _, _, .nil => .nil
  | _, _, .cons r t => .cons r (repY_one t)
theorem items_lst {L : Addr → Prop} {ρ : List Addr} {H : Hp} {ok : Addr → Prop} {K : PySem.W.Frag} {l : Addr} {xs : List V} {ds : List D} (h : H l = some (.lst xs)) (o : ok l) (r : All2 (Rep g L ρ H) xs ds) : Items g L ρ ok H (Itl K l) ds :=
  ⟨_, [(l, .lst xs)], fun p hp => by rw [List.mem_singleton.mp hp]; exact ⟨h, o⟩, walk_one walk_list fun H' q => .of (q (l, .lst xs) List.mem_cons_self), repY_one r⟩
theorem items_tup {L : Addr → Prop} {ρ : List Addr} {H : Hp} {ok : Addr → Prop} {K : PySem.W.Frag} {l : Addr} {xs : List V} {ds : List D} (h : H l = some (.tup xs)) (o : ok l) (r : All2 (Rep g L ρ H) xs ds) : Items g L ρ ok H (Itt K l) ds :=
  ⟨_, [(l, .tup xs)], fun p hp => by rw [List.mem_singleton.mp hp]; exact ⟨h, o⟩, walk_one walk_tup fun H' q => .of (q (l, .tup xs) List.mem_cons_self), repY_one r⟩
/-- a sequence that is read for a walk -/
theorem rep_seq {L : Addr → Prop} {ρ : List Addr} {env : Env} {S : List D} {σ : L2.St} {H : Hp} (s : Sim g Lo L ρ env S σ H) (hn : n ≤ 1) {x : V} {v : D} {ds : List D} (r : RepW g L ρ H n x v) (e : seqD v = some ds) : ∃ a xs, x = .ref a ∧ ((v = .lst ds ∧ H a = some (.lst xs)) ∨ (v = .tup ds ∧ H a = some (.tup xs))) ∧ okP n L ρ a ∧ All2 (Rep g L ρ H) xs ds := by
  have frz : ∀ a, ¬ L a → okP n L ρ a := fun a na => by
    match n with
    | 0 => exact na
    | _ + 1 => exact fun hr => na (s.inL hr)
  have low : Rep g L ρ H x v → ∃ a xs, x = .ref a ∧ ((v = .lst ds ∧ H a = some (.lst xs)) ∨ (v = .tup ds ∧ H a = some (.tup xs))) ∧ okP n L ρ a ∧ All2 (Rep g L ρ H) xs ds := fun r => by
    cases v with
    | lst d => cases e; cases r with
      | lst h na q => exact ⟨_, _, rfl, .inl ⟨rfl, h⟩, frz _ na, q.all2⟩
    | tup d => cases e; cases r with
      | tup h na q => exact ⟨_, _, rfl, .inr ⟨rfl, h⟩, frz _ na, q.all2⟩
    | _ => cases e
  match n, hn, r with
  | 0, _, r => exact low r
  | 1, _, .inl r => exact low r
  | 1, _, .inr r =>
    cases v with
    | lst d => cases e; cases r with
      | lst h na q => exact ⟨_, _, rfl, .inl ⟨rfl, h⟩, na, q⟩
    | tup d => cases e; cases r with
      | tup h na q => exact ⟨_, _, rfl, .inr ⟨rfl, h⟩, na, q⟩
    | _ => cases e
theorem i_seq (xg : Xg g X) (hn : n ≤ 1) (ha : PEm g Lo W X (.weak n) a fa) : PIm g Lo W X n tg a (seqF fa) := by
  have hi := pi_seq (tg := tg) ha
  refine ⟨fun pins s σ H R I t => hi.run pins s σ H R I ?_⟩
  obtain ⟨L, ρ, env, S, sm, h⟩ := t
  refine part sm h fun x v S1 H1 e1 s1 r h1 => ?_
  cases v with
  | lst ds =>
    obtain ⟨l, xs, rfl, z, o, q⟩ := rep_seq s1 hn r (ds := ds) rfl
    rcases z with ⟨_, z⟩ | ⟨z, _⟩
    · exact ⟨l, rfl, .inl ⟨xs, z, h1.ok s1 _ (items_lst z o q)⟩⟩
    · cases z
  | tup ds =>
    obtain ⟨l, xs, rfl, z, o, q⟩ := rep_seq s1 hn r (ds := ds) rfl
    rcases z with ⟨z, _⟩ | ⟨_, z⟩
    · cases z
    · exact ⟨l, rfl, .inr ⟨xs, z, h1.ok s1 _ (items_tup z o q)⟩⟩
  | _ => exact h1.elim
/-! ### range -/
theorem rgY {L : Addr → Prop} {ρ : List Addr} {H : Hp} {ok : Addr → Prop} (a b : Int) : Items g L ρ ok H (Itr a (b - a).toNat) (rgL a b) := by
  refine ⟨(rgV a b).map .one, [], fun p hp => by simp at hp, ?_, repY_one (rg_rep a b)⟩
  rw [List.length_map, rgV_length]
  exact walk_range.mono (fun _ _ => True.intro) fun i H x H' hi _ y => ⟨.one x, by
    rw [List.getElem?_map]
    unfold rgV
    rw [List.getElem?_map, List.getElem?_eq_getElem (by simpa using hi), y.2]
    simp, y.1, rfl⟩
theorem i_rg1 (hg : Gl X "range") (hm : X.mg "range" = none) (ha : PEm g Lo W X (.weak 0) a fa) (hp : plainE a = true) : PIm g Lo W X n tg (.Call (.Name "range" p) [a] [] pos) (irg1F fa) := by
  have hi := pi_range1 (pos := pos) (p := p) (tg := tg) hg hm (pa_cons ha pa_nil (star_one hp)) (star_one hp)
  refine ⟨fun pins s σ H R I t => hi.run pins s σ H R I ?_⟩
  obtain ⟨L, ρ, env, S, sm, h⟩ := t
  refine part sm h fun x v S1 H1 e1 s1 r h1 => ?_
  cases v with
  | int i =>
    cases (show Rep g L ρ H1 x (.int i) from r)
    have h2 : Fin g Lo W L ρ env σ (fun ds S' H' => ∀ J, Items g L ρ (okP n L ρ) H' J ds → R J H') (if rgOk 0 i then .ok (rgL 0 i) S1 else .stuck) H1 := h1
    clear h1
    split at h2
    · obtain ⟨q1, q2, q3, q4, q5⟩ := rg_ok (by assumption)
      have := rgY (g := g) (L := L) (ρ := ρ) (H := H1) (ok := okP n L ρ) 0 i
      exact ⟨i, rfl, q3, q4, h2.ok s1 _ (by simpa using this)⟩
    · exact h2.elim
  | _ => exact h1.elim
theorem i_rg2 (hg : Gl X "range") (hm : X.mg "range" = none) (ha : PEm g Lo W X (.weak 0) a fa) (hb : PEm g Lo W X (.weak 0) b fb) (hp : plainE a = true) (hp2 : plainE b = true) : PIm g Lo W X n tg (.Call (.Name "range" p) [a, b] [] pos) (irg2F fa fb) := by
  have hi := pi_range2 (pos := pos) (p := p) (tg := tg) hg hm (pa_cons ha (pa_cons hb pa_nil (star_one hp2)) (star_one hp)) ((star_one hp).trans (by rw [star_one hp2]; rfl)) (star_one hp2)
  refine ⟨fun pins s σ H R I t => hi.run pins s σ H R I ?_⟩
  obtain ⟨L, ρ, env, S, sm, h⟩ := t
  exact two sm h fun x y v w S2 H2 e s2 r1 r2 h2 => by
    cases v with
    | int i => cases w with
      | int j =>
        cases (show Rep g L ρ H2 x (.int i) from r1)
        cases (show Rep g L ρ H2 y (.int j) from r2)
        have h3 : Fin g Lo W L ρ env σ (fun ds S' H' => ∀ J, Items g L ρ (okP n L ρ) H' J ds → R J H') (if rgOk i j then .ok (rgL i j) S2 else .stuck) H2 := h2
        clear h2
        split at h3
        · obtain ⟨q1, q2, q3, q4, q5⟩ := rg_ok (by assumption)
          exact ⟨i, j, rfl, ⟨q1, q2, q3, q4⟩, h3.ok s2 _ (rgY i j)⟩
        · exact h3.elim
      | _ => exact h2.elim
    | _ => exact h2.elim
/-! ### pairs -/
theorem walk_two {J : L2.It} {xs ys : List V} {G G' : Hp → Prop} {m : Nat} {fx : Nat → Option V} (w : Walk J m G (YPair fx fun i => ys[i]?)) (hm : m = (xs.zip ys).length) (hx : ∀ i y, ys[i]? = some y → i < m → fx i = xs[i]?) (hg : ∀ H, G' H → G H) : Walk J ((xs.zip ys).map fun q => YV.two q.1 q.2).length G' (YY ((xs.zip ys).map fun q => YV.two q.1 q.2)) := by
  rw [List.length_map, ← hm]
  refine w.mono hg fun i H v H' hi _ y => ?_
  obtain ⟨T, x, z, h1, h2, h3, h4, h5⟩ := y
  rw [hx i z h5 hi] at h4
  refine ⟨.two x z, ?_, T, h1, h2, h3⟩
  have e : (xs.zip ys)[i]? = some (x, z) := List.getElem?_zip_eq_some.mpr ⟨h4, h5⟩
  rw [List.getElem?_map, e]
  rfl
theorem repY_two {L : Addr → Prop} {ρ : List Addr} {H : Hp} : ∀ {xs ys : List V} {ds es : List D}, All2 (Rep g L ρ H) xs ds → All2 (Rep g L ρ H) ys es → All2 (RepY g L ρ H) ((xs.zip ys).map fun q => YV.two q.1 q.2) (zipL ds es)
  | _, _, _, _, .nil, _ => .nil
  | _, _, _, _, .cons _ _, .nil => .nil
  | _, _, _, _, .cons r t, .cons r' t' => .cons ⟨_, _, rfl, r, r'⟩ (repY_two t t')
theorem enum_zip (xs : List D) : enumL xs = zipL (rgL 0 xs.length) xs := by
  unfold enumL zipL rgL
  rw [List.zip_map_left, List.map_map]
  congr 1
  funext q
  simp
theorem i_zip {elts : List Expr} {kk : Nat} {tpos : Pos} (xg : Xg g X) (hn : n ≤ 1) (hg : Gl X "zip") (hm : X.mg "zip" = none) (ha : PEm g Lo W X (.weak n) a fa) (hb : PEm g Lo W X (.weak n) b fb) (hp : plainE a = true) (hp2 : plainE b = true) : PIm g Lo W X n (.Tuple elts kk tpos) (.Call (.Name "zip" p) [a, b] [] pos) (zipF fa fb) := by
  have hi := RZ.pi_zipA (pos := pos) (p := p) (tpos := tpos) (elts := elts) (kk := kk) hg hm (pa_cons ha (pa_cons hb pa_nil (star_one hp2)) (star_one hp)) (star_one hp) (star_any (by simp [hp2]))
  refine ⟨fun pins s σ H R I t => hi.run pins s σ H R I ?_⟩
  obtain ⟨L, ρ, env, S, sm, h⟩ := t
  exact two sm h fun x y v w S2 H2 e s2 r1 r2 h2 => by
    cases v with
    | lst ds => cases w with
      | lst es =>
        obtain ⟨l, xs, rfl, z, o, q⟩ := rep_seq s2 hn r1 (ds := ds) rfl
        obtain ⟨l', ys, rfl, z', o', q'⟩ := rep_seq s2 hn r2 (ds := es) rfl
        have z := z.resolve_right (fun z => by cases z.1)
        have z' := z'.resolve_right (fun z => by cases z.1)
        refine ⟨l, l', xs, ys, rfl, .inl ⟨.of z.2, .of z'.2, h2.ok s2 _ ⟨_, [(l, .lst xs), (l', .lst ys)], fun p hp => ?_, walk_two (walk_zip rfl) List.length_zip.symm (fun _ _ _ _ => rfl) fun H' k => ⟨.of (k (l, .lst xs) (by simp)), .of (k (l', .lst ys) (by simp))⟩, repY_two q q'⟩⟩⟩
        rcases List.mem_cons.mp hp with e | hp
        · rw [e]; exact ⟨z.2, o⟩
        · rw [List.mem_singleton.mp hp]; exact ⟨z'.2, o'⟩
      | _ => exact h2.elim
    | tup ds => cases w with
      | tup es =>
        obtain ⟨l, xs, rfl, z, o, q⟩ := rep_seq s2 hn r1 (ds := ds) rfl
        obtain ⟨l', ys, rfl, z', o', q'⟩ := rep_seq s2 hn r2 (ds := es) rfl
        have z := z.resolve_left (fun z => by cases z.1)
        have z' := z'.resolve_left (fun z => by cases z.1)
        have wz : Walk (RZ.ItzT X.K l l') (min xs.length ys.length) (fun H => SqT X.K H l xs ∧ SqT X.K H l' ys) (YPair (fun i => xs[i]?) (fun i => ys[i]?)) :=
          ⟨fun i H hi k => by
            have h1 : i < xs.length := by omega
            have h2 : i < ys.length := by omega
            exact ⟨xs, ys, xs[i], ys[i], k.1, k.2, by simp [h1], by simp [h2]⟩, fun H k => ⟨xs, ys, k.1, k.2, by omega⟩, fun i H v H' _ k y => by
            obtain ⟨T, x, z, h1, h2, h3, h4, h5⟩ := y
            exact ⟨T, x, z, h1, h2, h3, h4 xs k.1, h5 ys k.2⟩⟩
        refine ⟨l, l', xs, ys, rfl, .inr ⟨.of z.2, .of z'.2, h2.ok s2 _ ⟨_, [(l, .tup xs), (l', .tup ys)], fun p hp => ?_, walk_two wz List.length_zip.symm (fun _ _ _ _ => rfl) fun H' k => ⟨.of (k (l, .tup xs) (by simp)), .of (k (l', .tup ys) (by simp))⟩, repY_two q q'⟩⟩⟩
        rcases List.mem_cons.mp hp with e | hp
        · rw [e]; exact ⟨z.2, o⟩
        · rw [List.mem_singleton.mp hp]; exact ⟨z'.2, o'⟩
      | _ => exact h2.elim
    | _ => exact h2.elim
end
end BP
end

section
set_option autoImplicit false
set_option linter.all false
set_option maxRecDepth 100000
/-! BPn: enumerate, of a list or a tuple. -/
namespace BP
open PySem PySem.Spec PyProof.Rows L2
set_option maxHeartbeats 1000000 in
theorem meets_enum1 {v : Value} {o : Obj} {H : Heap → Prop} (B : Begins v o H) :
    Meets (Builtin.«enumerate.__new__» ⟨[.type "enumerate", v], []⟩) (fun _ R s => H s.heap ∧
      R (.ok (.ret (.ref (s.heap.push o).objs.size))) { s with heap := (s.heap.push o).push { cls := .type "enumerate", data := .fields #[.none, .bool false, .ref s.heap.objs.size, rawInt 0, .none, .none] } }) :=
  .of_wp fun prog w A R s h => by
    obtain ⟨hp, g, d, tk, os⟩ := s
    obtain ⟨h1, h⟩ := h
    have hsub := sub_enumerate
    have q1 : ∀ {A' : Around} {E : Value → Shared → Prop} {Q : Value → Shared → Prop}, Q (.ref hp.objs.size) ⟨hp.push o, g, d, tk, os⟩ → wpAny (model prog w) A' (pyIter v) Q E ⟨hp, g, d, tk, os⟩ :=
      fun q => B.iter prog w _ _ ⟨hp, g, d, tk, os⟩ _ h1 q
    wp_walk using q1
    refine wpAny_stack_any fun st => wpAny_pure ?_
    split
    · rename_i c _ _ _ _ _
      cases (c == Value.type "enumerate")
      · wp_walk using q1
        exact ⟨_, rfl, h⟩
      · wp_walk using q1
        exact ⟨_, rfl, h⟩
    · wp_walk using q1
      exact ⟨_, rfl, h⟩

section
variable {prog : Program} {w : World} {A : Around} {E : Value → Shared → Prop} {s : Shared}
theorem call_enumT {l : Addr} {items : Array Value} {Q : Value → Shared → Prop} (hL : s.heap.IsTuple l items)
    (h : ∀ h', IsEnum h' (s.heap.objs.size + 1) s.heap.objs.size 0 .none → h'.IsTupleIter s.heap.objs.size l 0 → h'.objs.size = s.heap.objs.size + 2 →
      (∀ b o, s.heap.get? b = some o → h'.get? b = some o) → Q (.ref (s.heap.objs.size + 1)) { s with heap := h' }) :
    wpAny (model prog w) A (call (.type "enumerate") [.ref l]) Q E s := by
  refine callType_new F.called_enumerate (by decide) (F.typeCall_enumerate_1 _) (F.newCall_enumerate_1 _) (fun obj => F.args_object_init_2 obj _) F.entry_enumerate_new
    (meets_enum1 (begins_tuple l items)) ⟨hL, ?_⟩
  have hz : (s.heap.push { cls := .type "tuple_iterator", data := .fields #[.ref l, .int 0 0] }).objs.size = s.heap.objs.size + 1 := Heap.size_push ..
  show _ ∧ _
  rw [hz]
  have he : IsEnum ((s.heap.push { cls := .type "tuple_iterator", data := .fields #[.ref l, .int 0 0] }).push
      { cls := .type "enumerate", data := .fields #[.none, .bool false, .ref s.heap.objs.size, rawInt 0, .none, .none] }) (s.heap.objs.size + 1) s.heap.objs.size 0 .none := by
    have z := Heap.get?_push_size (s.heap.push { cls := .type "tuple_iterator", data := .fields #[.ref l, .int 0 0] })
      (o := { cls := .type "enumerate", data := .fields #[.none, .bool false, .ref s.heap.objs.size, rawInt 0, .none, .none] }) rfl
    rw [hz] at z
    exact z
  refine ⟨⟨_, he, rfl⟩, h _ he ⟨_, Heap.get?_push_of_some _ (Heap.get?_push_size _ rfl), rfl, rfl⟩ (by rw [Heap.size_push, hz]) fun b o x => Heap.get?_push_of_some _ (Heap.get?_push_of_some _ x)⟩
end

theorem enum_endT {prog : Program} {w : World} {A : Around} {E : Value → Shared → Prop} {s : Shared} {e it l : Addr} {i : Nat} {j : Int} {items : Array Value} {old : Value} {Q : Option Value → Shared → Prop} (hh : A.handled = none)
    (he : IsEnum s.heap e it j old) (hit : s.heap.IsTupleIter it l i) (hl : s.heap.IsTuple l items) (hx : items[i]? = none) (hQ : ∀ h', Heap.ExtBut it s.heap h' → Q none { s with heap := h' }) : wpAny (model prog w) A (pyNext (.ref e)) Q E s := by
  have hT : s.TypeIs (.ref e) "enumerate" := ⟨_, he, rfl⟩
  unfold pyNext
  refine wpAny_bind (wpAny_attempt (wpAny_callSpecial?_slot (name := Str.ofString "__next__") hT F.slot_enumerate_next
    (wpAny_call_entry F.slot_enumerate_next hT F.entry_enumerate_next ?_ (F.args_enumerate_next_1 _))))
  show wpAny _ _ (field (.ref e) 2 >>= _) _ _ _
  refine wpAny_bind (wpAny_field he rfl (x := .ref it) rfl ?_)
  refine wpAny_bind (wpAny_nextOf_tuple_end hh hit hl hx fun h' x he' hx' => ?_)
  obtain ⟨o, ho, hc⟩ := hx'
  refine wpAny_bind (wpAny_isInstance (T := "StopIteration") (b := true) ⟨o, ho, hc⟩ isSubtype_stop ?_)
  exact wpAny_pure (hQ _ he')

/-- the tuple at a, each item in a new pair with its place -/
def IteT (K : PySem.W.Frag) (a : Addr) : L2.It :=
  ⟨fun i H => ∃ (xs : List V) (x : V), SqT K H a xs ∧ xs[i]? = some x, fun i H v H' => ∃ T x, v = .ref T ∧ H T = none ∧ H' = upd H T (.tup [.int (i : Nat), x]) ∧ ∀ xs, SqT K H a xs → xs[i]? = some x, fun i H => ∃ xs : List V, SqT K H a xs ∧ xs.length ≤ i⟩
theorem turn_enumT {P : Program} {w : World} {K : PySem.W.Frag} {elts : List Expr} {kk : Nat} {tpos : Pos} (a e it : Addr) (hat : a ≠ it) (hae : a ≠ e) :
    Turn P w K (.Tuple elts kk tpos) (IteT K a) [e, it] e (fun i h => (∃ old, IsEnum h e it ((i : Nat) : Int) old) ∧ h.IsTupleIter it a i ∧ e ≠ it) where
  mem := by simp
  obj := fun i h st b hb => by
    obtain ⟨⟨old, he⟩, ⟨o, ho, hc, hd⟩, _⟩ := st
    rcases List.mem_cons.mp hb with z | z
    · rw [z]; exact ⟨_, he, fun v q => nomatch q⟩
    · rw [List.mem_singleton.mp z]; exact ⟨o, ho, fun v q => by rw [hd] at q; cases q⟩
  keep := fun i h h' st k => let ⟨⟨old, he⟩, hi, hne⟩ := st; ⟨⟨old, k e (by simp) _ he⟩, hi.at fun o q => k it (by simp) o q, hne⟩
  item := by
    intro X hP hw hK hc i pins s σ H E I hf st hg
    subst hP hw hK
    obtain ⟨⟨old, he⟩, hit, hne⟩ := st
    obtain ⟨xs, x, hq, hx⟩ := hg
    obtain ⟨its, rv, p, hz⟩ := I.tuple hq
    obtain ⟨u, hu, ru⟩ := rv.get hx
    have hel : e < s.heap.objs.size := Heap.lt_size he
    have hil : it < s.heap.objs.size := by obtain ⟨_, q, _⟩ := hit; exact Heap.lt_size q
    have hi : i < its.toArray.size := by
      have := (List.getElem?_eq_some_iff.mp hu).1
      simpa using this
    have D := Draws.tuple (prog := X.prog) (w := X.w) (A := X.A.in1) (I.ok.hd hc) it a hat its.toArray
    refine wpAny_pyNext_enum_itemD D he (i := i) ⟨hit, p⟩ hi hne (fun z => ?_) fun y h' tk hy ho hit' hT hsz hk => ?_
    · rcases List.mem_cons.mp z with z | z
      · exact hne z
      · exact hae (List.mem_singleton.mp z).symm
    have ey : y = u := by
      have hy : its[i]? = some y := by simpa using hy
      rw [hu] at hy
      exact (Option.some.inj hy).symm
    subst ey
    refine ⟨_, rfl, wpAny_letOwnedTupleGo_enum (s := { s with heap := h', toks := tk + 1 }) ho fun h'' he' sb => ?_⟩
    have hT2 : h''.get? s.heap.objs.size = some { cls := .type "tuple", data := .seq #[.int i tk, y] } := (sb.2 _ (Nat.ne_of_gt hel)).trans hT
    have new : ObjOk X.prog X.w (upd H s.heap.objs.size (.tup [.int (i : Nat), x])) h'' s.heap.objs.size (.tup [.int (i : Nat), x]) :=
      ⟨by show 2 ≤ sizeLine; decide, [.int i tk, y], .cons ⟨_, rfl⟩ (.cons ru .nil), ⟨_, hT2, rfl, _, rfl⟩⟩
    have I1 : L2.Inv X pins σ (upd H s.heap.objs.size (.tup [.int (i : Nat), x])) { s with heap := h'', toks := tk + 1 } :=
      I.turnedNew (ch := [e, it]) (fun b ob hb q => (sb.2 b (fun z => hb (by simp [z]))).trans (hk b ob (fun z => hb (by simp [z])) (fun z => hb (by simp [z])) q)) hf (Nat.le_refl _) new
    refine ⟨.ref s.heap.objs.size, _, I1, rfl, ⟨_, x, rfl, I.hok.fresh (Nat.le_refl _), rfl, fun ys hy => by rw [I.tuple_inj hy hq]; exact hx⟩, ⟨⟨y, ?_⟩, hit'.1.at fun o q => (sb.2 it (Ne.symm hne)).trans q, hne⟩, fun b hb => ?_⟩
    · have e1 : ((i + 1 : Nat) : Int) = (i : Int) + 1 := by omega
      rw [e1]; exact he'
    · have hb' : b < s.heap.objs.size := by
        rcases List.mem_cons.mp hb with z | z
        · rw [z]; exact hel
        · rw [List.mem_singleton.mp z]; exact hil
      rw [upd_ne (Nat.ne_of_lt hb')]
      exact (hf b hb).1
  done := by
    intro X hP hw hK hc i pins s σ H E I hf st hg
    subst hP hw hK
    obtain ⟨⟨old, he⟩, hit, hne⟩ := st
    obtain ⟨xs, hq, hx⟩ := hg
    obtain ⟨its, rv, p, hz⟩ := I.tuple hq
    obtain ⟨f0, f1, f2, f3, f4, f5⟩ := hf it (by simp)
    have hl := rv.length
    refine enum_endT (I.ok.hd hc) he hit p (by simp; omega) fun h' eb => ⟨rfl, I.turned (t' := s.toks) (fun b o hb q => eb b o hb q) f0 f1 f3 f4 f5⟩
  self := fun A i s Q E st h => let ⟨⟨_, he⟩, _⟩ := st; wpAny_pyIter_enum he h

section
variable {g : Gx} {Lo : Out} {W : WX} {X : Cx} {a b c tg : Expr} {pos p : Pos} {fa fb fc : Env → List D → Res D} {n : Nat}
def iEnumA (K : PySem.W.Frag) (ta : TA) : TI := fun σ H R => ta σ H fun vs H1 => ∃ a xs, vs = [.ref a] ∧ ((H1 a = some (.lst xs) ∧ R (Ite K a) H1) ∨ (H1 a = some (.tup xs) ∧ R (IteT K a) H1))
theorem pi_enumA {e : Expr} {ta : TA} {tpos : Pos} {elts : List Expr} {kk : Nat} (hg : Gl X "enumerate") (hm : X.mg "enumerate" = none) (ha : PA X [e] ta) (hp : plainE e = true) :
    PI X (.Tuple elts kk tpos) (.Call (.Name "enumerate" p) [e] [] pos) (iEnumA X.K ta) := by
  refine ⟨fun pins s σ H R I h => Call_ (ld_blt I hg hm boot_enumerate (PyProof.Rows.callWith_type1 (thn (ha.run pos pins s σ H _ I h) fun us s1 ⟨vs, H1, I1, r1, l, xs, ex, q⟩ => ?_) (star_one hp) rfl))⟩
  subst ex
  have e1 := Vals.ref1 r1
  subst e1
  rcases q with ⟨hq, q⟩ | ⟨hq, q⟩
  · obtain ⟨its, rv, p', hz⟩ := I1.list (.of hq)
    refine call_enumerate_list p'.isList fun h' he hit hsz hk => wpAny_pyIter_enum he ?_
    have I2 : L2.Inv X pins σ H1 { s1 with heap := h' } := I1.kept (t' := s1.toks) hk
    refine ⟨_, [s1.heap.objs.size + 1, s1.heap.objs.size], _, _, H1, rfl, I2, turn_enum l (s1.heap.objs.size + 1) s1.heap.objs.size, ⟨⟨.none, he⟩, hit, Nat.succ_ne_self _⟩, fun b hb => ?_, q⟩
    have hle : s1.heap.objs.size ≤ b := by
      rcases List.mem_cons.mp hb with z | z
      · rw [z]; exact Nat.le_add_right _ _
      · rw [List.mem_singleton.mp z]; exact Nat.le_refl _
    exact I1.fpOk hle (I1.hok.fresh hle)
  · obtain ⟨its, rv, p', hz⟩ := I1.tuple (.of hq)
    have hlt : l < s1.heap.objs.size := I1.hok.lt hq
    refine call_enumT (show s1.heap.IsTuple l its.toArray from p') fun h' he hit hsz hk => wpAny_pyIter_enum he ?_
    have I2 : L2.Inv X pins σ H1 { s1 with heap := h' } := I1.kept (t' := s1.toks) hk
    refine ⟨_, [s1.heap.objs.size + 1, s1.heap.objs.size], _, _, H1, rfl, I2, turn_enumT l (s1.heap.objs.size + 1) s1.heap.objs.size (Nat.ne_of_lt hlt) (Nat.ne_of_lt (Nat.lt_succ_of_lt hlt)), ⟨⟨.none, he⟩, hit, Nat.succ_ne_self _⟩, fun b hb => ?_, q⟩
    have hle : s1.heap.objs.size ≤ b := by
      rcases List.mem_cons.mp hb with z | z
      · rw [z]; exact Nat.le_add_right _ _
      · rw [List.mem_singleton.mp z]; exact Nat.le_refl _
    exact I1.fpOk hle (I1.hok.fresh hle)
theorem zip_len (xs : List V) : xs.length = ((rgV 0 xs.length).zip xs).length := by
  rw [List.length_zip, rgV_length]
  simp
theorem fst_at (xs : List V) (i : Nat) (hi : i < xs.length) : some (V.int (i : Nat)) = (rgV 0 xs.length)[i]? := by
  unfold rgV
  rw [List.getElem?_map, List.getElem?_eq_getElem (by simpa using hi)]
  simp
theorem i_enum {elts : List Expr} {kk : Nat} {tpos : Pos} (xg : Xg g X) (hn : n ≤ 1) (hg : Gl X "enumerate") (hm : X.mg "enumerate" = none) (ha : PEm g Lo W X (.weak n) a fa) (hp : plainE a = true) : PIm g Lo W X n (.Tuple elts kk tpos) (.Call (.Name "enumerate" p) [a] [] pos) (enumF fa) := by
  have hi := pi_enumA (pos := pos) (p := p) (tpos := tpos) (elts := elts) (kk := kk) hg hm (pa_cons ha pa_nil (star_one hp)) hp
  refine ⟨fun pins s σ H R I t => hi.run pins s σ H R I ?_⟩
  obtain ⟨L, ρ, env, S, sm, h⟩ := t
  refine part sm h fun x v S1 H1 e1 s1 r h1 => ?_
  cases v with
  | lst ds =>
    obtain ⟨l, xs, rfl, z, o, q⟩ := rep_seq s1 hn r (ds := ds) rfl
    have z := z.resolve_right (fun z => by cases z.1)
    refine ⟨l, xs, rfl, .inl ⟨z.2, h1.ok s1 _ ⟨_, [(l, .lst xs)], fun p hp => (by rw [List.mem_singleton.mp hp]; exact ⟨z.2, o⟩), walk_two walk_enum (zip_len xs) (fun i _ _ hi => fst_at xs i hi) fun H' k => .of (k (l, .lst xs) List.mem_cons_self), ?_⟩⟩⟩
    rw [enum_zip, ← q.length]
    exact repY_two (rg_rep 0 _) q
  | tup ds =>
    obtain ⟨l, xs, rfl, z, o, q⟩ := rep_seq s1 hn r (ds := ds) rfl
    have z := z.resolve_left (fun z => by cases z.1)
    have we : Walk (IteT X.K l) xs.length (fun H => SqT X.K H l xs) (YPair (fun i => some (.int (i : Nat))) (fun i => xs[i]?)) :=
      ⟨fun i _ hi q => ⟨xs, xs[i], q, by simp [hi]⟩, fun _ q => ⟨xs, q, Nat.le_refl _⟩, fun i H v H' _ q y => by
        obtain ⟨T, x, h1, h2, h3, h4⟩ := y
        exact ⟨T, .int (i : Nat), x, h1, h2, h3, rfl, h4 xs q⟩⟩
    refine ⟨l, xs, rfl, .inr ⟨z.2, h1.ok s1 _ ⟨_, [(l, .tup xs)], fun p hp => (by rw [List.mem_singleton.mp hp]; exact ⟨z.2, o⟩), walk_two we (zip_len xs) (fun i _ _ hi => fst_at xs i hi) fun H' k => .of (k (l, .tup xs) List.mem_cons_self), ?_⟩⟩⟩
    rw [enum_zip, ← q.length]
    exact repY_two (rg_rep 0 _) q
  | _ => exact h1.elim
end
end BP
end

section
set_option autoImplicit false
set_option linter.all false
set_option maxRecDepth 100000
/-! BPo: slots stored, targets, comprehensions of one clause. -/
namespace BP
open PySem PySem.Spec PyProof.Rows L2

section
variable {g : Gx} {Lo : Out} {L : Addr → Prop} {ρ : List Addr} {env : Env} {S S' : List D} {σ : L2.St} {H H' : Hp}
theorem getD_set {env : Env} {i j : Nat} {s : Slot} : (env.set i s).getD j .no = if i = j ∧ i < env.length then s else env.getD j .no := by
  rw [List.getD_eq_getElem?_getD, List.getD_eq_getElem?_getD, List.getElem?_set]
  by_cases h : i = j
  · subst h
    by_cases h2 : i < env.length
    · simp [h2]
    · simp [h2]
  · simp [h]
theorem join_set {σ : L2.St} {i j : Nat} {o : Option V} : (σ.set i o)[j]?.join = if i = j ∧ i < σ.length then o else σ[j]?.join := by
  rw [List.getElem?_set]
  by_cases h : i = j
  · subst h
    by_cases h2 : i < σ.length
    · simp [h2]
    · simp [h2]
  · simp [h]
/-- a slot given up, or filled with what nobody may change -/
theorem Sim.lay (s : Sim g Lo L ρ env S σ H) (i : Nat) {sl : Slot} {o : Option V} (h : SlotR g Lo.me L ρ H sl o []) : Sim g Lo L ρ (env.set i sl) S (σ.set i o) H := by
  refine ⟨by rw [List.length_set, List.length_set]; exact s.len, s.live, ?_, s.cells, s.base, s.pre⟩
  obtain ⟨A, ow, sl'⟩ := s.own
  refine ⟨fun j => if i = j ∧ i < env.length then [] else A j, ⟨fun j => ?_, fun j k a h1 h2 => ?_, ow.ndr, fun j a h1 => ?_, fun j a h1 => ?_, ow.inLr, ow.out⟩, fun j => ?_⟩
  · show (if i = j ∧ i < env.length then [] else A j).Nodup
    split
    · exact List.nodup_nil
    · exact ow.nd j
  · split at h1
    · cases h1
    · split at h2
      · cases h2
      · exact ow.dj j k a h1 h2
  · split at h1
    · cases h1
    · exact ow.djr j a h1
  · split at h1
    · cases h1
    · exact ow.inL j a h1
  · show SlotR g Lo.me L ρ H ((env.set i sl).getD j .no) ((σ.set i o)[j]?.join) (if i = j ∧ i < env.length then [] else A j)
    rw [getD_set, join_set, ← s.len]
    split
    · exact h
    · exact sl' j
theorem Sim.setVal (s : Sim g Lo L ρ env S σ H) (i : Nat) {x : V} {v : D} (r : Rep g L ρ H x v) : Sim g Lo L ρ (env.set i (.val v)) S (σ.set i (some x)) H := s.lay i ⟨rfl, x, rfl, r⟩
theorem Sim.setNo (s : Sim g Lo L ρ env S σ H) (i : Nat) : Sim g Lo L ρ (env.set i .no) S (σ.set i none) H := s.lay i (show _ = _ from rfl)
theorem Sim.wiped (s : Sim g Lo L ρ env S σ H) : ∀ vs : List Nat, Sim g Lo L ρ (wipeE env vs) S (wipe σ vs) H
  | [] => s
  | v :: vs => (s.wiped vs).setNo v
/-- one more live thing, owned by nobody here -/
def Out.more (Lo : Out) (d : Addr) : Out := { Lo with lo := fun a => Lo.lo a ∨ a = d }
def orA (L : Addr → Prop) (d : Addr) : Addr → Prop := fun a => L a ∨ a = d
theorem keep_or {L : Addr → Prop} {H : Hp} {d : Addr} {o : HO} (n : H d = none) : Keep L (orA L d) H (upd H d o) := fun a u e na => by
  have ne := ne_of_none e n
  exact ⟨by rw [upd_ne ne]; exact e, fun h => h.elim na ne⟩
theorem tup_new {H : Hp} {d : Addr} {o : HO} (n : H d = none) : TupK H (upd H d o) := fun a xs e => by rw [upd_ne (ne_of_none e n)]; exact e
theorem Sim.begin (s : Sim g Lo L ρ env S σ H) {d : Addr} {o : HO} (n : H d = none) (m : IsMut o) : Sim g (Lo.more d) (orA L d) ρ env S σ (upd H d o) := by
  have dr : d ∉ ρ := fun hr => s.nlive n (s.inL hr)
  refine ⟨s.len, fun a ha => ?_, ?_, s.cells.imp fun a v r => r.keep (keep_or n) (tup_new n) (fun _ _ h => h) fun b hb u hu => (by rw [upd_ne (ne_of_none hu n)]; exact hu), fun a u h na => ?_, s.pre⟩
  · rcases ha with ha | rfl
    · obtain ⟨u, e, mu⟩ := s.live a ha
      exact ⟨u, by rw [upd_ne (ne_of_none e n)]; exact e, mu⟩
    · exact ⟨o, upd_same, m⟩
  · obtain ⟨A, ow, sl⟩ := s.own
    refine ⟨A, ⟨ow.nd, ow.dj, ow.ndr, ow.djr, fun i a h => ?_, fun a h => ?_, fun a h => ?_⟩, fun i => (sl i).keep (keep_or n) (tup_new n) (fun _ _ h => h) fun b hb u hu => (by rw [upd_ne (ne_of_none hu n)]; exact hu)⟩
    · obtain ⟨h1, h2, h3⟩ := ow.inL i a h
      refine ⟨.inl h1, fun q => q.elim h2 fun e => ?_, h3⟩
      subst e
      exact s.nlive n h1
    · obtain ⟨h1, h2⟩ := ow.inLr a h
      refine ⟨.inl h1, fun q => q.elim h2 fun e => ?_⟩
      subst e
      exact dr h
    · exact h.elim (fun h => .inl (ow.out a h)) .inr
  · exact (by
      have e := s.base a u h na
      rw [upd_ne (ne_of_none e n)]
      exact e)
/-- it is changed -/
theorem Sim.turn {d : Addr} {o u : HO} (s : Sim g (Lo.more d) (orA L d) ρ env S σ H) (n0 : Lo.H0 d = none) (h : H d = some u) (mu : IsMut u) (m : IsMut o) : Sim g (Lo.more d) (orA L d) ρ env S σ (upd H d o) := by
  have kp : Keep (orA L d) (orA L d) H (upd H d o) := fun a w e na => ⟨by
    have ne : a ≠ d := fun q => na (.inr q)
    rw [upd_ne ne]; exact e, na⟩
  have tk : TupK H (upd H d o) := fun a xs e => by
    have ne : a ≠ d := fun q => by subst q; rw [h] at e; cases e; exact mu
    rw [upd_ne ne]; exact e
  obtain ⟨A, ow, sl⟩ := s.own
  have dr : d ∉ ρ := fun hr => (ow.inLr d hr).2 (.inr rfl)
  have dA : ∀ i, d ∉ A i := fun i hi => (ow.inL i d hi).2.1 (.inr rfl)
  refine ⟨s.len, fun a ha => ?_, ⟨A, ow, fun i => (sl i).keep kp tk (fun _ _ h => h) fun b hb w hw => ?_⟩, ?_, fun a w h na => ?_, s.pre⟩
  · by_cases e : a = d
    · subst e; exact ⟨o, upd_same, m⟩
    · obtain ⟨w, q, mw⟩ := s.live a ha
      exact ⟨w, by rw [upd_ne e]; exact q, mw⟩
  · have ne : b ≠ d := fun q => dA i (q ▸ hb)
    rw [upd_ne ne]; exact hw
  · have go : ∀ {rs : List Addr} {vs : List D}, (∀ a ∈ rs, a ∈ ρ) → All2 (fun a v => OwnR g (orA L d) ρ H 1 [a] (.ref a) v) rs vs → All2 (fun a v => OwnR g (orA L d) ρ (upd H d o) 1 [a] (.ref a) v) rs vs := by
      intro rs vs hr q
      induction q with
      | nil => exact .nil
      | @cons a v as vs r t ih =>
        refine .cons (r.keep kp tk (fun _ _ h => h) fun b hb w hw => ?_) (ih fun c hc => hr c (List.mem_cons_of_mem _ hc))
        have ne : b ≠ d := fun q => by
          have e : b = a := by simpa using hb
          exact dr (q ▸ e ▸ hr a List.mem_cons_self)
        rw [upd_ne ne]; exact hw
    exact go (fun a h => h) s.cells
  · have ne : a ≠ d := fun q => by
      have h' : Lo.H0 a = some w := h
      rw [q, n0] at h'; cases h'
    rw [upd_ne ne]
    exact s.base a w h na
/-- .. no more live -/
theorem keep_off {L : Addr → Prop} {H : Hp} {d : Addr} : Keep (orA L d) L H H := fun a o e na => ⟨e, fun h => na (.inl h)⟩
theorem Sim.done {d : Addr} (s : Sim g (Lo.more d) (orA L d) ρ env S σ H) (inl : ∀ a, Lo.lo a → L a) (nd : ¬ L d) : Sim g Lo L ρ env S σ H := by
  obtain ⟨A, ow, sl⟩ := s.own
  refine ⟨s.len, fun a ha => s.live a (.inl ha), ⟨A, ⟨ow.nd, ow.dj, ow.ndr, ow.djr, fun i a h => ?_, fun a h => ?_, inl⟩, fun i => (sl i).keep keep_off (fun _ _ h => h) (fun _ _ h => h) fun _ _ _ h => h⟩, s.cells.imp fun a v r => r.keep keep_off (fun _ _ h => h) (fun _ _ h => h) fun _ _ _ h => h, s.base, s.pre⟩
  · obtain ⟨h1, h2, h3⟩ := ow.inL i a h
    exact ⟨h1.elim id fun e => absurd (.inr e) h2, fun q => h2 (.inl q), h3⟩
  · obtain ⟨h1, h2⟩ := ow.inLr a h
    exact ⟨h1.elim id fun e => absurd (.inr e) h2, fun q => h2 (.inl q)⟩
/-- more live things, owned by nobody here -/
def Out.mores (Lo : Out) (B : List Addr) : Out := { Lo with lo := fun a => Lo.lo a ∨ a ∈ B }
theorem orL_one {L : Addr → Prop} {d : Addr} : orA L d = orL L [d] := funext fun a => propext ⟨fun h => h.elim .inl fun e => .inr (by rw [e]; exact List.mem_singleton_self _), fun h => h.elim .inl fun e => .inr (List.mem_singleton.mp e)⟩
theorem orL_app {L : Addr → Prop} {A B : List Addr} : orL (orL L B) A = orL L (B ++ A) := funext fun a => propext ⟨fun h => h.elim (fun h => h.elim .inl fun e => .inr (List.mem_append_left _ e)) fun e => .inr (List.mem_append_right _ e), fun h => h.elim (fun h => .inl (.inl h)) fun e => (List.mem_append.mp e).elim (fun h => .inl (.inr h)) .inr⟩
theorem mores_one {Lo : Out} {d : Addr} : Lo.more d = Lo.mores [d] := by
  unfold Out.more Out.mores
  congr 1
  exact orL_one
theorem mores_app {Lo : Out} {A B : List Addr} : (Lo.mores B).mores A = Lo.mores (B ++ A) := by
  unfold Out.mores
  congr 1
  exact orL_app (L := Lo.lo)
theorem Sim.cellsOr {d : Addr} (s : Sim g (Lo.more d) (orA L d) ρ env S σ H) : CellsR g (orL L [d]) ρ H S := orL_one ▸ s.cells
/-- fresh things become live -/
theorem Sim.grow {A : List Addr} (s : Sim g Lo L ρ env S σ H) (e : Ev ρ H H') (s' : Sim g Lo L ρ env S' σ H') (c : CellsR g (orL L A) ρ H' S') (n : ∀ a ∈ A, H a = none) (m : ∀ a ∈ A, ∃ o, H' a = some o ∧ IsMut o) : Sim g (Lo.mores A) (orL L A) ρ env S' σ H' := by
  have kp : Keep L (orL L A) H H' := fun a o q nl => ⟨e a o q fun hr => nl (s.inL hr), fun h => h.elim nl fun ha => by rw [n a ha] at q; cases q⟩
  have nA : ∀ a, L a → a ∉ A := fun a l h => s.nlive (n a h) l
  obtain ⟨B, ow, sl⟩ := s.own
  refine ⟨s.len, fun a ha => ha.elim (s'.live a) (m a), ⟨B, ⟨ow.nd, ow.dj, ow.ndr, ow.djr, fun i a h => ?_, fun a h => ?_, fun a h => ?_⟩, fun i => (sl i).keep kp (e.tup s) (fun _ _ h => h) fun b hb u hu => e b u hu (ow.djr i b hb)⟩, c, s'.base, s.pre⟩
  · obtain ⟨h1, h2, h3⟩ := ow.inL i a h
    exact ⟨.inl h1, fun q => q.elim h2 (nA a h1), h3⟩
  · obtain ⟨h1, h2⟩ := ow.inLr a h
    exact ⟨.inl h1, fun q => q.elim h2 (nA a h1)⟩
  · exact h.elim (fun h => .inl (ow.out a h)) .inr
/-- a live thing of nobody here is changed -/
theorem Sim.turnL {d : Addr} {o u : HO} (s : Sim g Lo L ρ env S σ H) (hl : Lo.lo d) (n0 : Lo.H0 d = none) (h : H d = some u) (mu : IsMut u) (m : IsMut o) : Sim g Lo L ρ env S σ (upd H d o) := by
  have hL : L d := let ⟨_, ow, _⟩ := s.own; ow.out d hl
  have kp : Keep L L H (upd H d o) := fun a w e na => ⟨by
    have ne : a ≠ d := fun q => na (q ▸ hL)
    rw [upd_ne ne]; exact e, na⟩
  have tk : TupK H (upd H d o) := fun a xs e => by
    have ne : a ≠ d := fun q => by subst q; rw [h] at e; cases e; exact mu
    rw [upd_ne ne]; exact e
  obtain ⟨A, ow, sl⟩ := s.own
  have dr : d ∉ ρ := fun hr => (ow.inLr d hr).2 hl
  have dA : ∀ i, d ∉ A i := fun i hi => (ow.inL i d hi).2.1 hl
  refine ⟨s.len, fun a ha => ?_, ⟨A, ow, fun i => (sl i).keep kp tk (fun _ _ h => h) fun b hb w hw => ?_⟩, ?_, fun a w h na => ?_, s.pre⟩
  · by_cases e : a = d
    · subst e; exact ⟨o, upd_same, m⟩
    · obtain ⟨w, q, mw⟩ := s.live a ha
      exact ⟨w, by rw [upd_ne e]; exact q, mw⟩
  · have ne : b ≠ d := fun q => dA i (q ▸ hb)
    rw [upd_ne ne]; exact hw
  · have go : ∀ {rs : List Addr} {vs : List D}, (∀ a ∈ rs, a ∈ ρ) → All2 (fun a v => OwnR g L ρ H 1 [a] (.ref a) v) rs vs → All2 (fun a v => OwnR g L ρ (upd H d o) 1 [a] (.ref a) v) rs vs := by
      intro rs vs hr q
      induction q with
      | nil => exact .nil
      | @cons a v as vs r t ih =>
        refine .cons (r.keep kp tk (fun _ _ h => h) fun b hb w hw => ?_) (ih fun c hc => hr c (List.mem_cons_of_mem _ hc))
        have ne : b ≠ d := fun q => by
          have e : b = a := by simpa using hb
          exact dr (q ▸ e ▸ hr a List.mem_cons_self)
        rw [upd_ne ne]; exact hw
    exact go (fun a h => h) s.cells
  · have ne : a ≠ d := fun q => by
      have h' : Lo.H0 a = some w := h
      rw [q, n0] at h'; cases h'
    rw [upd_ne ne]
    exact s.base a w h na
/-- .. no more live -/
theorem Sim.doneL {B : List Addr} (s : Sim g (Lo.mores B) (orL L B) ρ env S σ H) (inl : ∀ a, Lo.lo a → L a) : Sim g Lo L ρ env S σ H := by
  obtain ⟨A, ow, sl⟩ := s.own
  refine ⟨s.len, fun a ha => s.live a (.inl ha), ⟨A, ⟨ow.nd, ow.dj, ow.ndr, ow.djr, fun i a h => ?_, fun a h => ?_, inl⟩, fun i => (sl i).keep keep_offL (fun _ _ h => h) (fun _ _ h => h) fun _ _ _ h => h⟩, s.cells.imp fun a v r => r.keep keep_offL (fun _ _ h => h) (fun _ _ h => h) fun _ _ _ h => h, s.base, s.pre⟩
  · obtain ⟨h1, h2, h3⟩ := ow.inL i a h
    exact ⟨h1.elim id fun e => absurd (.inr e) h2, fun q => h2 (.inl q), h3⟩
  · obtain ⟨h1, h2⟩ := ow.inLr a h
    exact ⟨h1.elim id fun e => absurd (.inr e) h2, fun q => h2 (.inl q)⟩
theorem Sim.out (s : Sim g Lo L ρ env S σ H) : ∀ a, Lo.lo a → L a := let ⟨_, ow, _⟩ := s.own; ow.out
theorem Sim.old (s : Sim g Lo L ρ env S σ H) {a : Addr} (n : H a = none) : Lo.H0 a = none := by
  cases q : Lo.H0 a with
  | none => rfl
  | some o =>
    by_cases hr : a ∈ Lo.ρ0
    · obtain ⟨r, e, _⟩ := s.pre
      obtain ⟨u, e', _⟩ := s.live a (s.inL (by rw [e]; exact List.mem_append_left _ hr))
      rw [n] at e'; cases e'
    · rw [s.base a o q hr] at n; cases n
end

/-! ### targets -/
/-- only those slots differ -/
def Out1 (is : List Nat) (σ σ' : L2.St) : Prop := σ'.length = σ.length ∧ ∀ j, j ∉ is → σ'[j]? = σ[j]?
theorem Out1.refl (is : List Nat) (σ : L2.St) : Out1 is σ σ := ⟨rfl, fun _ _ => rfl⟩
def tG (g : Gx) (Lo : Out) (tg : Tg) : TG := fun x σ H Q => ∃ L ρ env S v env', Sim g Lo L ρ env S σ H ∧ Rep g L ρ H x v ∧ tg.store v env = some env' ∧ ∀ σ', Out1 tg.names σ σ' → Sim g Lo L ρ env' S σ' H → Q σ' H
def tGs (g : Gx) (Lo : Out) (tgs : List Tg) : TGs := fun xs σ H Q => ∃ L ρ env S vs env', Sim g Lo L ρ env S σ H ∧ All2 (Rep g L ρ H) xs vs ∧ Tg.stores tgs vs env = some env' ∧ ∀ σ', Out1 (Tg.namesL tgs) σ σ' → Sim g Lo L ρ env' S σ' H → Q σ' H
mutual
/-- the checker of targets -/
def Tg.ck (N : List Str) (sc : Scope) : Tg → Expr → Bool
  | .name i, .Name x _ => N[i]? == some x && (sc.names.lookup x == some .local || sc.names.lookup x == some .cell)
  | .tup ts, .Tuple es _ _ => Tg.cks N sc ts es
  | _, _ => false
def Tg.cks (N : List Str) (sc : Scope) : List Tg → List Expr → Bool
  | [], [] => true
  | t :: ts, e :: es => t.ck N sc e && Tg.cks N sc ts es
  | _, _ => false
end
section
variable {g : Gx} {Lo : Out} {W : WX} {X : Cx} {N : List Str} {sc : Scope} {k : Nat}
theorem Cok.loc (c : Cok g X N sc k W) {x : Str} (h : sc.names.lookup x = some .local ∨ sc.names.lookup x = some .cell) : Loc X.env.scope x ∧ (X.fn x = true ∨ X.env.scope.names.lookup x = some .local) := by
  rcases h with h | h
  · have v := c.vis x _ h
    rcases v with v | ⟨v, _⟩
    · exact ⟨.inl v, .inr v⟩
    · cases v
  · have v := c.vis x _ h
    rcases v with v | ⟨v, _⟩
    · exact ⟨.inr v, .inl (c.fn x h)⟩
    · cases v
theorem tgs_each (N : List Str) (sc : Scope) (env : PySem.Env) : ∀ (ts : List Tg) (es : List Expr), Tg.cks N sc ts es = true → (assignEach es env).map (·.2) = es.map (fun e => assign e env) ∧ (assignEach es env).findIdx? (·.1) = none ∧ (assignEach es env).length = es.length ∧ es.length = ts.length
  | [], [], _ => ⟨rfl, rfl, rfl, rfl⟩
  | [], _ :: _, h => by cases h
  | _ :: _, [], h => by cases h
  | t :: ts, e :: es, h => by
    unfold Tg.cks at h
    rw [Bool.and_eq_true] at h
    obtain ⟨h1, h2, h3, h4⟩ := tgs_each N sc env ts es h.2
    have he : assignEach (e :: es) env = (false, assign e env) :: assignEach es env := by
      cases t with
      | name i =>
        cases e with
        | Name x p => rfl
        | _ => cases h.1
      | tup ts' =>
        cases e with
        | Tuple x p q => rfl
        | _ => cases h.1
    rw [he]
    refine ⟨by rw [List.map_cons, h1]; rfl, ?_, by rw [List.length_cons, h3]; rfl, by rw [List.length_cons, h4]; rfl⟩
    rw [List.findIdx?_cons, h2]
    rfl
mutual
theorem s_tg (c : Cok g X N sc k W) : ∀ (t : Tg) (e : Expr), t.ck N sc e = true → PG X e (tG g Lo t)
  | .name i, e, h => by
    cases e with
    | Name x p =>
      unfold Tg.ck at h
      simp only [Bool.and_eq_true, Bool.or_eq_true, beq_iff_eq] at h
      obtain ⟨hl, hf⟩ := c.loc h.2
      refine PG.sub (pg_name (by rw [c.nm]; exact c.nd) (by rw [c.nm]; exact h.1) hl hf) fun v σ H Q t => ?_
      obtain ⟨L, ρ, env, S, d, env', sm, r, e1, q⟩ := t
      unfold Tg.store at e1
      cases e1
      refine q _ ⟨List.length_set, fun j hj => ?_⟩ (sm.setVal i r)
      rw [List.getElem?_set_ne]
      intro e2
      exact hj (by rw [e2]; exact List.mem_cons_self)
    | _ => cases h
  | .tup ts, e, h => by
    cases e with
    | Tuple es x p =>
      unfold Tg.ck at h
      obtain ⟨h1, h2, h3, h4⟩ := tgs_each N sc X.env ts es h
      refine PG.sub (pg_tup (n := es.length) c.calm (s_tgs c ts es h) h3 h2) fun v σ H Q t => ?_
      obtain ⟨L, ρ, env, S, d, env', sm, r, e1, q⟩ := t
      cases d with
      | tup vs =>
        have e1 : Tg.stores ts vs env = some env' := e1
        cases r with
        | tup hh n rs =>
          refine ⟨_, _, rfl, .of hh, ?_, L, ρ, env, S, vs, env', sm, rs.all2, e1, q⟩
          rw [rs.all2.length, h4]
          clear h1 h2 h3 h4 h q sm rs hh
          have len : ∀ (ts : List Tg) (vs : List D) (env env' : Env), Tg.stores ts vs env = some env' → vs.length = ts.length := by
            intro ts
            induction ts with
            | nil => intro vs env env' e; cases vs with
              | nil => rfl
              | cons _ _ => simp [Tg.stores] at e
            | cons t ts ih => intro vs env env' e; cases vs with
              | nil => simp [Tg.stores] at e
              | cons v vs =>
                unfold Tg.stores at e
                obtain ⟨e1, _, e2⟩ := Option.bind_eq_some_iff.mp e
                simp [ih vs _ _ e2]
          exact len ts vs env env' e1
      | _ => simp [Tg.store] at e1
    | _ => cases h
theorem s_tgs (c : Cok g X N sc k W) : ∀ (ts : List Tg) (es : List Expr), Tg.cks N sc ts es = true → PGs X es (tGs g Lo ts)
  | [], [], h => ⟨fun pins s σ H xs us Q I r t => pgs_nil.run pins s σ H xs us Q I r (by
      obtain ⟨L, ρ, env, S, vs, env', sm, rs, e1, q⟩ := t
      cases vs with
      | nil =>
        unfold Tg.stores at e1
        cases e1
        cases rs
        exact ⟨rfl, q σ (.refl _ _) sm⟩
      | cons _ _ => simp [Tg.stores] at e1)⟩
  | [], _ :: _, h => by cases h
  | _ :: _, [], h => by cases h
  | t :: ts, e :: es, h => by
    have h' := h
    unfold Tg.cks at h'
    rw [Bool.and_eq_true] at h'
    have p1 := s_tg c t e h'.1
    have p2 := s_tgs c ts es h'.2
    obtain ⟨h1, _, _, _⟩ := tgs_each N sc X.env (t :: ts) (e :: es) h
    obtain ⟨h1', _, _, _⟩ := tgs_each N sc X.env ts es h'.2
    refine ⟨fun pins s σ H xs us Q I r t' => (pgs_cons p1 p2 (by rw [h1, h1']; rfl)).run pins s σ H xs us Q I r ?_⟩
    obtain ⟨L, ρ, env, S, vs, env', sm, rs, e1, q⟩ := t'
    cases rs with
    | nil => simp [Tg.stores] at e1
    | @cons x v xs vs r1 r2 =>
      unfold Tg.stores at e1
      obtain ⟨env1, e1, e2⟩ := Option.bind_eq_some_iff.mp e1
      refine ⟨x, xs, rfl, L, ρ, env, S, v, env1, sm, r1, e1, fun σ1 o1 sm1 => ⟨L, ρ, env1, S, vs, env', sm1, r2, e2, fun σ2 o2 sm2 => q σ2 ⟨o2.1.trans o1.1, fun j hj => ?_⟩ sm2⟩⟩
      have hj' : j ∉ t.names ∧ j ∉ Tg.namesL ts := by
        unfold Tg.namesL at hj
        simpa using hj
      rw [o2.2 j hj'.2, o1.2 j hj'.1]
end
theorem wipe_out1 {is : List Nat} {σ σ' : L2.St} (o : Out1 is σ σ') : ∀ {vs : List Nat}, (∀ i ∈ is, i ∈ vs) → wipe σ' vs = wipe σ vs := by
  intro vs h
  have key : ∀ (vs : List Nat) (τ : L2.St) (j : Nat), (wipe τ vs)[j]? = if j ∈ vs ∧ j < τ.length then some none else τ[j]? := by
    intro vs τ j
    induction vs with
    | nil => simp [wipe]
    | cons v vs ih =>
      unfold wipe
      rw [List.getElem?_set, ih, wipe_length]
      by_cases hv : v = j
      · subst hv
        by_cases hl : v < τ.length
        · simp [hl]
        · simp [hl, List.getElem?_eq_none (Nat.le_of_not_lt hl)]
      · have hv' : ¬ j = v := fun e => hv e.symm
        simp [hv, hv', List.mem_cons]
  apply List.ext_getElem?
  intro j
  rw [key, key, o.1]
  by_cases hj : j ∈ vs
  · by_cases hl : j < σ.length
    · simp [hj, hl]
    · simp [hl, List.getElem?_eq_none (Nat.le_of_not_lt hl), List.getElem?_eq_none (show σ'.length ≤ j by rw [o.1]; omega)]
  · have : j ∉ is := fun q => hj (h j q)
    simp [hj, o.2 j this]
end
end BP
end

section
set_option autoImplicit false
set_option linter.all false
set_option maxRecDepth 100000
/-! BPp: list comprehensions. -/
namespace BP
open PySem PySem.Spec PyProof.Rows L2

/-- inside a comprehension: no exception leaves -/
abbrev WF : WX := fun _ _ _ _ => False
theorem _root_.L2.PTs.sub {X : Cx} {e : List Expr} {t t' : TT} (h : PTs X e t) (i : ∀ σ H Q, t' σ H Q → t σ H Q) : PTs X e t' := ⟨fun p s σ H Q I q => h.run p s σ H Q I (i σ H Q q)⟩
theorem noX_ok {α : Type} {r : Res α} (h : noX r ≠ .stuck) : ∃ a S, r = .ok a S := by
  cases r with
  | ok a S => exact ⟨a, S, rfl⟩
  | _ => exact absurd rfl h
theorem bind_ne {α β : Type} {r : Res α} {f : α → List D → Res β} (h : r.bind f ≠ .stuck) : r ≠ .stuck := fun e => h (by rw [e]; rfl)
theorem bind_okE {α β : Type} {r : Res α} {f : α → List D → Res β} {b : β} {S' : List D} (h : r.bind f = .ok b S') : ∃ a S, r = .ok a S ∧ f a S = .ok b S' := by
  cases r with
  | ok a S => exact ⟨a, S, rfl, h⟩
  | _ => cases h
theorem loopL_ok {f : D → List D → Res (Option D)} : ∀ {items acc : List D} {S : List D}, loopL items f acc S ≠ .stuck → ∃ out S', loopL items f acc S = .ok out S' ∧ acc.length ≤ out.length
  | [], acc, S, _ => ⟨acc, S, rfl, Nat.le_refl _⟩
  | x :: r, acc, S, h => by
    unfold loopL at h ⊢
    obtain ⟨o, S1, e⟩ := noX_ok (bind_ne h)
    rw [e] at h ⊢
    cases o with
    | none => exact loopL_ok (items := r) h
    | some y =>
      obtain ⟨out, S', e1, e2⟩ := loopL_ok (items := r) (acc := acc ++ [y]) h
      exact ⟨out, S', e1, by rw [List.length_append] at e2; simp at e2; omega⟩
theorem short_ok {xs S : List D} (h : short xs S ≠ .stuck) : xs.length ≤ lim ∧ short xs S = .ok (.lst xs) S := by
  unfold short at h ⊢
  split
  · exact ⟨by assumption, rfl⟩
  · rename_i hn; rw [if_neg hn] at h; exact absurd rfl h
section
variable {g : Gx} {Lo : Out} {L : Addr → Prop} {ρ : List Addr} {env : Env} {S S' : List D} {σ : L2.St} {H H' : Hp} {D0 : Addr}
theorem out_wipe (σ : L2.St) : ∀ vs : List Nat, Out1 vs σ (wipe σ vs)
  | [] => .refl _ _
  | v :: vs => by
    obtain ⟨h1, h2⟩ := out_wipe σ vs
    refine ⟨by unfold wipe; rw [List.length_set]; exact h1, fun j hj => ?_⟩
    rw [List.mem_cons, not_or] at hj
    unfold wipe
    rw [List.getElem?_set_ne (Ne.symm hj.1)]
    exact h2 j hj.2
theorem wipe_after {is vs : List Nat} {σ σ2 : L2.St} (o : Out1 is (wipe σ vs) σ2) (h : ∀ i ∈ is, i ∈ vs) : wipe σ2 vs = wipe σ vs := by
  rw [wipe_out1 o h]
  exact wipe_out1 (out_wipe σ vs) fun i hi => hi
theorem OwnR.off {n : Nat} {A : List Addr} {x : V} {v : D} (r : OwnR g (orA L D0) ρ H n A x v) : OwnR g L ρ H n A x v := r.keep keep_off (fun _ _ h => h) (fun _ _ h => h) fun _ _ _ h => h

/-- what the list that a comprehension makes at D0 owns -/
abbrev accB (D0 : Addr) (As : List (List Addr)) : List Addr := D0 :: As.flatten
/-- the list that a comprehension makes, at D0: so far -/
structure Acc (g : Gx) (L : Addr → Prop) (ρ : List Addr) (D0 : Addr) (n : Nat) (H1 H : Hp) (accV : List V) (acc : List D) (As : List (List Addr)) : Prop where
  lst : H D0 = some (.lst accV)
  l1 : accV.length = acc.length
  l2 : As.length = acc.length
  el : ∀ (j : Nat) (x : V) (d : D) (A : List Addr), accV[j]? = some x → acc[j]? = some d → As[j]? = some A → OwnR g (orL L (accB D0 As)) ρ H n A x d
  nd : (accB D0 As).Nodup
  fr : ∀ a ∈ accB D0 As, H1 a = none
theorem Acc.ev {H1 : Hp} {n : Nat} {accV : List V} {acc : List D} {As : List (List Addr)} (c : Acc g L ρ D0 n H1 H accV acc As) (s : Sim g (Lo.mores (accB D0 As)) (orL L (accB D0 As)) ρ env S σ H) (e : Ev ρ H H') (hr : ∀ a ∈ ρ, H1 a ≠ none) : Acc g L ρ D0 n H1 H' accV acc As := by
  refine ⟨e _ _ c.lst fun h => hr _ h (c.fr _ List.mem_cons_self), c.l1, c.l2, fun j x d A h1 h2 h3 => (c.el j x d A h1 h2 h3).keep (e.keepL s) (e.tup s) (fun _ _ h => h) fun a ha o h => e a o h fun hρ => ?_, c.nd, c.fr⟩
  exact hr a hρ (c.fr a (List.mem_cons_of_mem _ (List.mem_flatten.mpr ⟨A, List.mem_of_getElem? h3, ha⟩)))
theorem accB_app {D0 : Addr} {As : List (List Addr)} {A : List Addr} : accB D0 (As ++ [A]) = accB D0 As ++ A := by
  show D0 :: (As ++ [A]).flatten = _
  rw [List.flatten_append, List.flatten_cons, List.flatten_nil, List.append_nil]
  rfl
/-- a fresh thing is not among them -/
theorem Acc.new {H1 : Hp} {n : Nat} {accV : List V} {acc : List D} {As : List (List Addr)} (c : Acc g L ρ D0 n H1 H accV acc As) {a : Addr} (h : H a = none) : a ∉ accB D0 As := by
  intro q
  rcases List.mem_cons.mp q with q | q
  · rw [q, c.lst] at h; cases h
  · obtain ⟨A, hA, ha⟩ := List.mem_flatten.mp q
    obtain ⟨j, hj, e⟩ := List.getElem_of_mem hA
    have hj' : j < acc.length := by rw [← c.l2]; exact hj
    have hv : j < accV.length := by rw [c.l1]; exact hj'
    have r := c.el j accV[j] acc[j] A (List.getElem?_eq_getElem hv) (List.getElem?_eq_getElem hj') (by rw [List.getElem?_eq_getElem hj, e])
    obtain ⟨o, e, _⟩ := r.mut a ha
    rw [h] at e; cases e
/-- one more: fresh since H5, of the heap H -/
theorem Acc.app {H1 H5 : Hp} {n : Nat} {accV : List V} {acc : List D} {As : List (List Addr)} (c : Acc g L ρ D0 n H1 H5 accV acc As) (s : Sim g (Lo.mores (accB D0 As)) (orL L (accB D0 As)) ρ env S σ H5) (e : Ev ρ H5 H) (hr : ∀ a ∈ ρ, H1 a ≠ none) {y : V} {d : D} {A : List Addr}
    (r : OwnR g (orL (orL L (accB D0 As)) A) ρ H n A y d) (nA : A.Nodup) (fA : ∀ a ∈ A, H5 a = none) (f1 : ∀ a ∈ A, H1 a = none) :
    Acc g L ρ D0 n H1 (upd H D0 (.lst (accV ++ [y]))) (accV ++ [y]) (acc ++ [d]) (As ++ [A]) := by
  rw [orL_app] at r
  have dr : D0 ∉ ρ := fun h => hr _ h (c.fr _ List.mem_cons_self)
  have hD : H D0 = some (.lst accV) := e _ _ c.lst dr
  have nd0 := List.nodup_cons.mp c.nd
  have tk : TupK H (upd H D0 (.lst (accV ++ [y]))) := fun a xs e => by
    have ne : a ≠ D0 := fun q => by subst q; rw [hD] at e; cases e
    rw [upd_ne ne]; exact e
  have kp0 : Keep (orL L (accB D0 As)) (orL L (accB D0 As ++ A)) H5 H := fun a w q na => ⟨e a w q fun h => na (s.inL h), fun h => na (h.elim .inl fun h => (List.mem_append.mp h).elim .inr fun h => by rw [fA a h] at q; cases q)⟩
  have kp1 : Keep (orL L (accB D0 As ++ A)) (orL L (accB D0 As ++ A)) H (upd H D0 (.lst (accV ++ [y]))) := fun a w q na => ⟨by
    have ne : a ≠ D0 := fun q => na (.inr (q ▸ List.mem_append_left _ List.mem_cons_self))
    rw [upd_ne ne]; exact q, na⟩
  refine ⟨upd_same, by simp [c.l1], by simp [c.l2], fun j x f B h1 h2 h3 => ?_, ?_, fun a ha => ?_⟩
  · rw [accB_app]
    by_cases hj : j < acc.length
    · rw [List.getElem?_append_left (by rw [c.l1]; exact hj)] at h1
      rw [List.getElem?_append_left hj] at h2
      rw [List.getElem?_append_left (by rw [c.l2]; exact hj)] at h3
      refine (c.el j x f B h1 h2 h3).keep (kp0.trans kp1) (fun a xs q => tk _ _ (e.tup s _ _ q)) (fun _ _ h => h) fun a ha o q => ?_
      have hB : a ∈ As.flatten := List.mem_flatten.mpr ⟨B, List.mem_of_getElem? h3, ha⟩
      have ne : a ≠ D0 := fun q => nd0.1 (q ▸ hB)
      rw [upd_ne ne]
      exact e _ _ q fun h => hr _ h (c.fr _ (List.mem_cons_of_mem _ hB))
    · have hj' : j = acc.length := by
        have := (List.getElem?_eq_some_iff.mp h2).1
        rw [List.length_append] at this
        simp at this
        omega
      subst hj'
      rw [List.getElem?_append_right (by rw [c.l1]; exact Nat.le_refl _), c.l1] at h1
      rw [List.getElem?_append_right (Nat.le_refl _)] at h2
      rw [List.getElem?_append_right (by rw [c.l2]; exact Nat.le_refl _), c.l2] at h3
      simp at h1 h2 h3
      subst h1 h2 h3
      refine r.keep kp1 tk (fun _ _ h => h) fun a ha o q => ?_
      have ne : a ≠ D0 := fun q => c.new (fA a ha) (q ▸ List.mem_cons_self)
      rw [upd_ne ne]
      exact q
  · rw [accB_app, List.nodup_append]
    exact ⟨c.nd, nA, fun a h1 b h2 e => c.new (fA b h2) (e ▸ h1)⟩
  · rw [accB_app] at ha
    exact (List.mem_append.mp ha).elim (c.fr a) (f1 a)
theorem Acc.own {H1 : Hp} {n : Nat} {accV : List V} {acc : List D} {As : List (List Addr)} (c : Acc g L ρ D0 n H1 H accV acc As) : OwnR g (orL L (accB D0 As)) ρ H (n + 1) (accB D0 As) (.ref D0) (.lst acc) :=
  .lst c.lst c.l1 c.l2 c.el
/-- the state, of the same comprehension, with one more -/
theorem Acc.grow {H1 H5 : Hp} {n : Nat} {accV : List V} {acc : List D} {As : List (List Addr)} (c : Acc g L ρ D0 n H1 H5 accV acc As) {env2 : Env} {σ2 : L2.St} {S5 : List D} (h0n : Lo.H0 D0 = none) (s : Sim g (Lo.mores (accB D0 As)) (orL L (accB D0 As)) ρ env S5 σ H5) (e : Ev ρ H5 H) (hr : ∀ a ∈ ρ, H1 a ≠ none)
    (s' : Sim g (Lo.mores (accB D0 As)) (orL L (accB D0 As)) ρ env2 S σ2 H) {y : V} {d : D} {A : List Addr} (r : OwnR g (orL (orL L (accB D0 As)) A) ρ H n A y d) (fA : ∀ a ∈ A, H5 a = none) (cl : CellsR g (orL (orL L (accB D0 As)) A) ρ H S) {xs : List V} :
    Sim g (Lo.mores (accB D0 (As ++ [A]))) (orL L (accB D0 (As ++ [A]))) ρ env S σ (upd H D0 (.lst xs)) := by
  have dr : D0 ∉ ρ := fun h => hr _ h (c.fr _ List.mem_cons_self)
  have q := s.grow e (s.ev e s'.cells) cl fA r.mut
  rw [accB_app, ← orL_app, ← mores_app]
  exact q.turnL (.inl (.inr List.mem_cons_self)) h0n (e _ _ c.lst dr) True.intro True.intro
theorem Acc.nil0 {H1 : Hp} {n : Nat} (h : H1 D0 = none) : Acc g L ρ D0 n H1 (upd H1 D0 (.lst [])) [] [] [] :=
  ⟨upd_same, rfl, rfl, fun j x d A h => by simp at h, by simp [accB], fun a ha => by have e : a = D0 := (by simpa [accB] using ha); rw [e]; exact h⟩
/-- what an iterator gives, as a value -/
theorem rep_item {ys : List YV} {items : List D} {H1 : Hp} (s : Sim g Lo L ρ env S σ H) (e0 : Ev ρ H1 H) (k0 : ∀ x d, Rep g L ρ H1 x d → Rep g L ρ H x d) (rs : All2 (RepY g L ρ H1) ys items) {i : Nat} {x : V} (y : YY ys i H x H') : ∃ d, items[i]? = some d ∧ Ev ρ H H' ∧ Sim g Lo L ρ env S σ H' ∧ Rep g L ρ H' x d := by
  obtain ⟨y, e1, q⟩ := y
  obtain ⟨d, e2, r⟩ := rs.getL e1
  refine ⟨d, e2, ?_⟩
  cases y with
  | one z =>
    obtain ⟨rfl, rfl⟩ := q
    exact ⟨.refl _ _, s, k0 _ _ r⟩
  | two z w =>
    obtain ⟨T, rfl, hT, rfl⟩ := q
    obtain ⟨p, q, rfl, r1, r2⟩ := r
    have ev : Ev ρ H (upd H T (.tup [z, w])) := Ev.new hT
    refine ⟨ev, s.new hT, .tup upd_same (s.nlive hT) (.cons (ev.rep s (k0 _ _ r1)) (.cons (ev.rep s (k0 _ _ r2)) .nil))⟩
end

section
variable {g : Gx} {Lo : Out} {W : WX} {X : Cx} {elt tg iter : Expr} {ifs : List Expr} {scope : Scope} {own : List (Str × Nat)} {pos : Pos} {fi : AF} {ft fe : EF} {tgI : Tg} {n : Nat}
/-- what a comprehension's parts keep, in every block -/
structure LcOk (g : Gx) (X : Cx) (scope : Scope) (tg : Expr) (ifs : List Expr) (tgI : Tg) (ft : EF) : Prop where
  hg : ∀ (Lo : Out) (s : Shared) (H : Hp) (C : Addr) (cl : List (Str × Addr)) (fp : List Addr), PG (X.blk s H scope (compEnvC scope cl C X.env) fp) tg (tG g Lo tgI)
  ht : ∀ (Lo : Out) (s : Shared) (H : Hp) (C : Addr) (cl : List (Str × Addr)) (fp : List Addr), PTs (X.blk s H scope (compEnvC scope cl C X.env) fp) ifs (tT g Lo WF ft)
def ElOk (g : Gx) (X : Cx) (scope : Scope) (m : Mode) (elt : Expr) (fe : EF) : Prop :=
  ∀ (Lo : Out) (s : Shared) (H : Hp) (C : Addr) (cl : List (Str × Addr)) (fp : List Addr), PEm g Lo WF (X.blk s H scope (compEnvC scope cl C X.env) fp) m elt fe
/-- one turn up to the element -/
theorem turn_to {α : Type} {L : Addr → Prop} {ρ : List Addr} {env1 : Env} {S : List D} {σ2 : L2.St} {H2 : Hp} {fe : Env → List D → Res α} {R : Bool → Hp → Prop} (hn : noX ((ft env1 S).bind fun k S => match k with
    | .bl true => (fe env1 S).bind fun y S => .ok (some y) S
    | .bl false => .ok none S
    | _ => .stuck) ≠ .stuck) (sm : Sim g Lo L ρ env1 S σ2 H2)
    (hF : ∀ S3 H3, Ev ρ H2 H3 → Sim g Lo L ρ env1 S3 σ2 H3 → ft env1 S = .ok (.bl false) S3 → R false H3)
    (hT : ∀ S3 H3 y S4, Ev ρ H2 H3 → Sim g Lo L ρ env1 S3 σ2 H3 → ft env1 S = .ok (.bl true) S3 → fe env1 S3 = .ok y S4 → R true H3) : tT g Lo WF ft σ2 H2 R := by
  obtain ⟨o, S4, e⟩ := noX_ok hn
  obtain ⟨k, S3, e1, e2⟩ := bind_okE e
  refine tT_of sm ?_
  rw [e1]
  intro H3 ev s3 b eb
  subst eb
  cases b with
  | false => exact hF S3 H3 ev s3 e1
  | true =>
    obtain ⟨y, S5, e3, _⟩ := bind_okE e2
    exact hT S3 H3 y S5 ev s3 e1 e3
theorem _root_.L2.PG.ex {ι : Type} {X : Cx} {e : Expr} {t : ι → TG} (h : ∀ i, PG X e (t i)) : PG X e (fun v σ H Q => ∃ i, t i v σ H Q) := ⟨fun p s σ H v u Q I r ⟨i, q⟩ => (h i).run p s σ H v u Q I r q⟩
theorem _root_.L2.PTs.ex {ι : Type} {X : Cx} {e : List Expr} {t : ι → TT} (h : ∀ i, PTs X e (t i)) : PTs X e (fun σ H Q => ∃ i, t i σ H Q) := ⟨fun p s σ H Q I ⟨i, q⟩ => (h i).run p s σ H Q I q⟩
theorem _root_.L2.PE.ex {ι : Type} {X : Cx} {e : Expr} {t : ι → TE} (h : ∀ i, PE X e (t i)) : PE X e (fun σ H Q => ∃ i, t i σ H Q) := ⟨fun p s σ H Q I ⟨i, q⟩ => (h i).run p s σ H Q I q⟩
theorem _root_.L2.PI.ex {ι : Type} {X : Cx} {tg e : Expr} {t : ι → TI} (h : ∀ i, PI X tg e (t i)) : PI X tg e (fun σ H Q => ∃ i, t i σ H Q) := ⟨fun p s σ H Q I ⟨i, q⟩ => (h i).run p s σ H Q I q⟩
theorem drop_at {α : Type} {xs : List α} {i : Nat} {d : α} (h : xs[i]? = some d) : xs.drop i = d :: xs.drop (i + 1) := by
  obtain ⟨hi, e⟩ := List.getElem?_eq_some_iff.mp h
  rw [List.drop_eq_getElem_cons hi, e]
/-- a list comprehension, by what its transformer wants -/
theorem lc_of (hnm : ∀ i ∈ tgI.names, i ∈ own.map (·.2)) : ∀ σ H Q, tE g Lo W (.fresh (n + 1)) (lcF fi tgI (own.map (·.2)) ft fe) σ H Q →
    tLc (tI g Lo W 1 fi) (fun v σ H Q => ∃ Lo', tG g Lo' tgI v σ H Q) (fun σ H Q => ∃ Lo', tT g Lo' WF ft σ H Q) (fun σ H Q => ∃ Lo', tE g Lo' WF (.fresh n) fe σ H Q) (own.map (·.2)) σ H Q := by
  intro σ H Q t
  obtain ⟨L, ρ, env, S, s, h⟩ := tE_to t
  refine ⟨L, ρ, env, S, s, (Fin.bind h).imp fun items S1 H1 ⟨e1, s1, h1⟩ J hJ D0 hD => ?_⟩
  obtain ⟨ys, fp, hfp, w, rs⟩ := hJ
  have dr : D0 ∉ ρ := fun hr => s1.nlive hD (s1.inL hr)
  have hrn : ∀ a ∈ ρ, H1 a ≠ none := fun a ha e => s1.nlive e (s1.inL ha)
  have nL : ¬ L D0 := s1.nlive hD
  have h0n : Lo.H0 D0 = none := s1.old hD
  refine lc_it (g := fun v σ H Q => ∃ Lo', tG g Lo' tgI v σ H Q) (tt := fun σ H Q => ∃ Lo', tT g Lo' WF ft σ H Q) (te := fun σ H Q => ∃ Lo', tE g Lo' WF (.fresh n) fe σ H Q) (vs := own.map (·.2)) (σ := σ) (H1 := H1) (D := D0) (Qd := fun H => Q (.ref D0) H) w (fun i H' => ∃ accV acc As S', Sim g (Lo.mores (accB D0 As)) (orL L (accB D0 As)) ρ env S' σ H' ∧ Acc g L ρ D0 n H1 H' accV acc As ∧ Ev ρ H1 H' ∧
    Fin g Lo W L ρ env σ (okE g L ρ H (.fresh (n + 1)) Q) ((loopL (items.drop i) (turnF tgI (own.map (·.2)) ft fe env) acc S').bind short) H1) ?_ ?_ ?_ ?_
  · have ev : Ev ρ H1 (upd H1 D0 (.lst [])) := Ev.new hD
    refine ⟨[], [], [], S1, mores_one ▸ orL_one ▸ s1.begin hD True.intro, Acc.nil0 hD, ev, ?_⟩
    rw [List.drop_zero]
    exact h1
  · rintro i H' _ ⟨accV, acc, As, S', sm, ac, ev, _⟩ p hp
    exact ev _ _ (hfp p hp).1 (hfp p hp).2
  · rintro i x H2 H3 hi ⟨accV, acc, As, S', sm, ac, ev, hf⟩ y
    have kp : ∀ x d, Rep g L ρ H1 x d → Rep g (orL L (accB D0 As)) ρ H2 x d := fun x d r => r.keep (fun a o e na => ⟨ev a o e fun hr => na (s1.inL hr), fun q => q.elim na fun z => by rw [ac.fr a z] at e; cases e⟩) (fun a xs e => ev a _ e fun hr => s1.ntup e (s1.inL hr)) fun _ _ h => h
    have rs' : All2 (RepY g (orL L (accB D0 As)) ρ H2) ys items := rs.imp fun y d r => by
      cases y with
      | one z => exact kp _ _ r
      | two z w => obtain ⟨p, q, e, r1, r2⟩ := r; exact ⟨p, q, e, kp _ _ r1, kp _ _ r2⟩
    obtain ⟨d, e2, ev3, sm3, r3⟩ := rep_item sm (Ev.refl _ _) (fun _ _ r => r) rs' y
    have ac3 := ac.ev sm ev3 hrn
    have ev13 := ev.trans ev3
    have hf3 := hf
    rw [drop_at e2] at hf3
    have hne : noX (turnF tgI (own.map (·.2)) ft fe env d S') ≠ .stuck := bind_ne (bind_ne hf3.run)
    cases e3 : tgI.store d (wipeE env (own.map (·.2))) with
    | none => unfold turnF at hne; rw [e3] at hne; exact absurd rfl hne
    | some env1 =>
      refine ⟨Lo.mores (accB D0 As), orL L (accB D0 As), ρ, _, S', d, env1, sm3.wiped _, r3, e3, fun σ2 o1 sm4 => ⟨wipe_after o1 hnm, Lo.mores (accB D0 As), ?_⟩⟩
      have hne' := hne
      unfold turnF at hne'
      simp only [e3] at hne'
      refine turn_to hne' sm4 (fun S5 H5 ev5 sm5 eq => ?_) (fun S5 H5 yv S6 ev5 sm5 eq eq2 => ?_)
      · rw [if_neg Bool.false_ne_true]
        have sm5' := sm3.ev ev5 sm5.cells
        refine ⟨accV, acc, As, S5, sm5', ac3.ev sm3 ev5 hrn, ev13.trans ev5, ?_⟩
        have e6 : noX (turnF tgI (own.map (·.2)) ft fe env d S') = .ok none S5 := by
          unfold turnF
          simp only [e3, eq]
          rfl
        have hf5 := hf3
        unfold loopL at hf5
        rw [e6] at hf5
        exact hf5
      · rw [if_pos rfl]
        refine ⟨Lo.mores (accB D0 As), tE_of sm5 ?_⟩
        rw [eq2]
        intro H6 ev6 sm6 y r6
        have sm5' := sm3.ev ev5 sm5.cells
        have sm6' := sm5'.ev ev6 sm6.cells
        have ac5 := ac3.ev sm3 ev5 hrn
        have ev15 := ev13.trans ev5
        have ac6 := ac5.ev sm5' ev6 hrn
        have ev16 := ev15.trans ev6
        obtain ⟨A, ro, nA, fA, cA⟩ := r6
        have e6 : noX (turnF tgI (own.map (·.2)) ft fe env d S') = .ok (some yv) S6 := by
          unfold turnF
          simp only [e3, eq]
          show noX ((fe env1 S5).bind _) = _
          rw [eq2]
          rfl
        have hf6 := hf3
        unfold loopL at hf6
        rw [e6] at hf6
        have hf7 : Fin g Lo W L ρ env σ (okE g L ρ H (.fresh (n + 1)) Q) ((loopL (items.drop (i + 1)) (turnF tgI (own.map (·.2)) ft fe env) (acc ++ [yv]) S6).bind short) H1 := hf6
        obtain ⟨out, S7, e7, l7⟩ := loopL_ok (bind_ne hf7.run)
        have hsh := hf7.run
        rw [e7] at hsh
        have l8 := (short_ok hsh).1
        have l9 : accV.length < sizeLine := by
          rw [ac6.l1, ← lim_eq]
          rw [List.length_append] at l7
          simp at l7
          omega
        have f1 : ∀ a ∈ A, H1 a = none := fun a ha => ev15.none (fA a ha) fun hr => by
          obtain ⟨u, e, _⟩ := sm5'.live a (sm5'.inL hr)
          rw [fA a ha] at e; cases e
        refine ⟨accV, ac6.lst, l9, accV ++ [y], acc ++ [yv], As ++ [A], S6, ac5.grow h0n sm5' ev6 hrn sm6 ro fA cA, ac5.app sm5' ev6 hrn ro nA fA f1, ?_, ?_⟩
        · intro a o e nr
          rw [upd_ne (ne_of_none e hD)]
          exact ev16 a o e nr
        · exact hf7
  · rintro H2 ⟨accV, acc, As, S', sm, ac, ev, hf⟩
    have e4 : items.drop ys.length = [] := by rw [rs.length]; exact List.drop_length
    rw [e4] at hf
    have hf' : Fin g Lo W L ρ env σ (okE g L ρ H (.fresh (n + 1)) Q) (short acc S') H1 := hf
    rw [(short_ok hf'.run).2] at hf'
    have sm' := sm.doneL (s1.out)
    exact hf' H2 ev sm' _ ⟨_, ac.own, ac.nd, fun a ha => e1.none (ac.fr a ha) fun hr => hrn a hr (ac.fr a ha), sm.cells⟩
end
end BP
end

section
set_option autoImplicit false
set_option linter.all false
set_option maxRecDepth 100000
/-! BPq: list comprehensions of two clauses. -/
namespace BP
open PySem PySem.Spec PyProof.Rows L2

theorem loopL2_ok {f : D → List D → List D → Res (List D)} (mono : ∀ x acc S out S', f x acc S = .ok out S' → acc.length ≤ out.length) : ∀ {items acc : List D} {S : List D}, loopL2 items f acc S ≠ .stuck → ∃ out S', loopL2 items f acc S = .ok out S' ∧ acc.length ≤ out.length
  | [], acc, S, _ => ⟨acc, S, rfl, Nat.le_refl _⟩
  | x :: r, acc, S, h => by
    unfold loopL2 at h ⊢
    obtain ⟨o, S1, e⟩ := noX_ok (bind_ne h)
    rw [e] at h ⊢
    obtain ⟨out, S', e1, e2⟩ := loopL2_ok mono (items := r) (acc := o) h
    exact ⟨out, S', e1, Nat.le_trans (mono _ _ _ _ _ e) e2⟩
section
variable {g : Gx} {Lo : Out} {W : WX} {X : Cx} {own : List (Str × Nat)} {vs1 : List Nat} {fi fi2 : AF} {ft fe : EF} {tgI tgJ : Tg} {n : Nat}
abbrev inL (tgJ : Tg) (vs1 : List Nat) (ft fe : EF) : List D → Env → List D → List D → Res (List D) := fun items env acc S => loopL items (turnF tgJ vs1 ft fe env) acc S
theorem turn2_mono {env : Env} : ∀ x acc S out S', turn2F tgI (own.map (·.2)) fi2 (inL tgJ vs1 ft fe) env x acc S = .ok out S' → acc.length ≤ out.length := by
  intro x acc S out S' h
  unfold turn2F at h
  split at h
  · obtain ⟨items, S1, _, h⟩ := bind_okE h
    obtain ⟨out', S2, e, l⟩ := loopL_ok (items := items) (acc := acc) (f := turnF tgJ vs1 ft fe _) (S := S1) (by
      show inL tgJ vs1 ft fe items _ acc S1 ≠ .stuck
      rw [h]; exact fun q => by cases q)
    have h' : loopL items (turnF tgJ vs1 ft fe _) acc S1 = .ok out S' := h
    rw [e] at h'
    cases h'
    exact l
  · cases h
/-- two clauses -/
theorem lc2_of (hnm : ∀ i ∈ tgI.names, i ∈ own.map (·.2)) (hnm1 : ∀ i ∈ tgJ.names, i ∈ vs1) : ∀ σ H Q, tE g Lo W (.fresh (n + 1)) (lc2F fi tgI (own.map (·.2)) fi2 tgJ vs1 ft fe) σ H Q →
    tLc2 (tI g Lo W 1 fi) (fun v σ H Q => ∃ Lo', tG g Lo' tgI v σ H Q) tYes (fun σ H R => ∃ Lo', tI g Lo' WF 0 fi2 σ H R) (fun v σ H Q => ∃ Lo', tG g Lo' tgJ v σ H Q) (fun σ H Q => ∃ Lo', tT g Lo' WF ft σ H Q) (fun σ H Q => ∃ Lo', tE g Lo' WF (.fresh n) fe σ H Q) (own.map (·.2)) vs1 σ H Q := by
  intro σ H Q t
  obtain ⟨L, ρ, env, S, s, h⟩ := tE_to t
  refine ⟨L, ρ, env, S, s, (Fin.bind h).imp fun items S1 H1 ⟨e1, s1, h1⟩ J hJ D0 hD => ?_⟩
  obtain ⟨ys, fp, hfp, w, rs⟩ := hJ
  have dr : D0 ∉ ρ := fun hr => s1.nlive hD (s1.inL hr)
  have hrn : ∀ a ∈ ρ, H1 a ≠ none := fun a ha e => s1.nlive e (s1.inL ha)
  have nL : ¬ L D0 := s1.nlive hD
  have h0n : Lo.H0 D0 = none := s1.old hD
  -- the whole's turns
  let fO := turn2F tgI (own.map (·.2)) fi2 (inL tgJ vs1 ft fe) env
  have h1 : Fin g Lo W L ρ env σ (okE g L ρ H (.fresh (n + 1)) Q) ((loopL2 items fO [] S1).bind short) H1 := h1
  let Pv : Nat → Hp → Prop := fun i H' => ∃ accV acc As S', Sim g (Lo.mores (accB D0 As)) (orL L (accB D0 As)) ρ env S' σ H' ∧ Acc g L ρ D0 n H1 H' accV acc As ∧ Ev ρ H1 H' ∧
    Fin g Lo W L ρ env σ (okE g L ρ H (.fresh (n + 1)) Q) ((loopL2 (items.drop i) fO acc S').bind short) H1
  have p0 : Pv 0 (upd H1 D0 (.lst [])) := ⟨[], [], [], S1, mores_one ▸ orL_one ▸ s1.begin hD True.intro, Acc.nil0 hD, Ev.new hD, by rw [List.drop_zero]; exact h1⟩
  refine ⟨fun i m H' => m = ys.length - i ∧ i ≤ ys.length ∧ Pv i H', ⟨ys.length, by simp, Nat.zero_le _, p0⟩, ?_⟩
  rintro i m H2 ⟨rfl, hi, accV, acc, As, S', sm, ac, ev, hf⟩
  have hG : ∀ p ∈ fp, H2 p.1 = some p.2 := fun p hp => ev _ _ (hfp p hp).1 (hfp p hp).2
  by_cases hlt : i < ys.length
  · refine .inr ⟨w.goes i H2 hlt hG, Pv (i + 1), fun H' p' => ⟨ys.length - (i + 1), by omega, rfl, hlt, p'⟩, fun x H3 y => ?_⟩
    have y := w.yields i H2 x H3 hlt hG y
    have kp : ∀ x d, Rep g L ρ H1 x d → Rep g (orL L (accB D0 As)) ρ H2 x d := fun x d r => r.keep (fun a o e na => ⟨ev a o e fun hr => na (s1.inL hr), fun q => q.elim na fun z => by rw [ac.fr a z] at e; cases e⟩) (fun a xs e => ev a _ e fun hr => s1.ntup e (s1.inL hr)) fun _ _ h => h
    have rs' : All2 (RepY g (orL L (accB D0 As)) ρ H2) ys items := rs.imp fun y d r => by
      cases y with
      | one z => exact kp _ _ r
      | two z w => obtain ⟨p, q, e, r1, r2⟩ := r; exact ⟨p, q, e, kp _ _ r1, kp _ _ r2⟩
    obtain ⟨d, e2, ev3, sm3, r3⟩ := rep_item sm (Ev.refl _ _) (fun _ _ r => r) rs' y
    have ac3 := ac.ev sm ev3 hrn
    have ev13 := ev.trans ev3
    rw [drop_at e2] at hf
    unfold loopL2 at hf
    have hne : noX (fO d acc S') ≠ .stuck := bind_ne (bind_ne hf.run)
    obtain ⟨accO, SO, eO⟩ := noX_ok hne
    rw [eO] at hf
    have hf : Fin g Lo W L ρ env σ (okE g L ρ H (.fresh (n + 1)) Q) ((loopL2 (items.drop (i + 1)) fO accO SO).bind short) H1 := hf
    obtain ⟨out, S7, e7, l7⟩ := loopL2_ok turn2_mono (bind_ne hf.run)
    have l8 : out.length ≤ lim := by
      have hsh := hf.run
      rw [e7] at hsh
      exact (short_ok hsh).1
    cases e3 : tgI.store d (wipeE env (own.map (·.2))) with
    | none =>
      have eO' : turn2F tgI (own.map (·.2)) fi2 (inL tgJ vs1 ft fe) env d acc S' = .ok accO SO := eO
      unfold turn2F at eO'
      rw [e3] at eO'
      cases eO'
    | some env1 =>
      have eO' : (fi2 env1 S').bind (fun items2 S => inL tgJ vs1 ft fe items2 env1 acc S) = .ok accO SO := by
        have q : turn2F tgI (own.map (·.2)) fi2 (inL tgJ vs1 ft fe) env d acc S' = .ok accO SO := eO
        unfold turn2F at q
        simp only [e3] at q
        exact q
      obtain ⟨items2, S4, eI, eL⟩ := bind_okE eO'
      refine ⟨Lo.mores (accB D0 As), orL L (accB D0 As), ρ, _, S', d, env1, sm3.wiped _, r3, e3, fun σ2 o1 sm4 => ⟨wipe_after o1 hnm, ?_⟩⟩
      show ∃ Lo', tI g Lo' WF 0 fi2 σ2 H3 _
      refine ⟨Lo.mores (accB D0 As), orL L (accB D0 As), ρ, env1, S', sm4, ?_⟩
      rw [eI]
      intro H4 ev4 sm4' J1 hJ1
      obtain ⟨ys1, fp1, hfp1, w1, rs1⟩ := hJ1
      have smA := sm3.ev ev4 sm4'.cells
      have acA := ac3.ev sm3 ev4 hrn
      have evA := ev13.trans ev4
      have fpD : ∀ p ∈ fp1, p.1 ≠ D0 ∧ p.1 ∉ ρ := fun p hp => ⟨fun e => (hfp1 p hp).2 (.inr (e ▸ List.mem_cons_self)), fun hr => (hfp1 p hp).2 (sm4'.inL hr)⟩
      let Pv1 : Nat → Hp → Prop := fun j H' => ∃ accV acc As S', Sim g (Lo.mores (accB D0 As)) (orL L (accB D0 As)) ρ env S' σ H' ∧ Sim g (Lo.mores (accB D0 As)) (orL L (accB D0 As)) ρ env1 S' σ2 H' ∧ Acc g L ρ D0 n H1 H' accV acc As ∧ Ev ρ H1 H' ∧ (∀ p ∈ fp1, H' p.1 = some p.2) ∧
        All2 (RepY g (orL L (accB D0 As)) ρ H') ys1 items2 ∧ inL tgJ vs1 ft fe (items2.drop j) env1 acc S' = .ok accO SO
      refine ⟨fun j k H' => k = ys1.length - j ∧ j ≤ ys1.length ∧ Pv1 j H', ⟨ys1.length, by simp, Nat.zero_le _, accV, acc, As, S4, smA, sm4', acA, evA, fun p hp => (hfp1 p hp).1, rs1, by rw [List.drop_zero]; exact eL⟩, ?_⟩
      rintro j k H5 ⟨rfl, hj, accV5, acc5, As5, S5, smO, smI, ac5, ev5, hG1, rs5, eq5⟩
      by_cases hlt1 : j < ys1.length
      · refine .inr ⟨w1.goes j H5 hlt1 hG1, Pv1 (j + 1), fun H' p' => ⟨ys1.length - (j + 1), by omega, rfl, hlt1, p'⟩, fun x1 H6 y1 => ?_⟩
        have y1 := w1.yields j H5 x1 H6 hlt1 hG1 y1
        obtain ⟨d1, ed, ev6, smI6, r6⟩ := rep_item smI (Ev.refl _ _) (fun _ _ r => r) rs5 y1
        have smO6 := smO.ev ev6 smI6.cells
        have ac6 := ac5.ev smO ev6 hrn
        have ev16 := ev5.trans ev6
        rw [drop_at ed] at eq5
        have eq5 : (noX (turnF tgJ vs1 ft fe env1 d1 S5)).bind (fun o S => match o with | some y => loopL (items2.drop (j + 1)) (turnF tgJ vs1 ft fe env1) (acc5 ++ [y]) S | none => loopL (items2.drop (j + 1)) (turnF tgJ vs1 ft fe env1) acc5 S) = .ok accO SO := eq5
        have hne5 : noX (turnF tgJ vs1 ft fe env1 d1 S5) ≠ .stuck := fun q => by rw [q] at eq5; cases eq5
        have rsEv : ∀ {Ha Hb : Hp} {Sa : List D}, Sim g (Lo.mores (accB D0 As5)) (orL L (accB D0 As5)) ρ env Sa σ Ha → Ev ρ Ha Hb → All2 (RepY g (orL L (accB D0 As5)) ρ Ha) ys1 items2 → All2 (RepY g (orL L (accB D0 As5)) ρ Hb) ys1 items2 := fun sa e q => q.imp fun y d r => by
          cases y with
          | one z => exact e.rep sa r
          | two z w => obtain ⟨p, q, e', r1, r2⟩ := r; exact ⟨p, q, e', e.rep sa r1, e.rep sa r2⟩
        have rs6 := rsEv smO ev6 rs5
        cases e8 : tgJ.store d1 (wipeE env1 vs1) with
        | none => unfold turnF at hne5; rw [e8] at hne5; exact absurd rfl hne5
        | some env2 =>
          refine ⟨Lo.mores (accB D0 As5), orL L (accB D0 As5), ρ, _, S5, d1, env2, smI6.wiped _, r6, e8, fun σ3 o3 sm7 => ⟨wipe_after o3 hnm1, Lo.mores (accB D0 As5), ?_⟩⟩
          have hne' := hne5
          unfold turnF at hne'
          simp only [e8] at hne'
          refine turn_to hne' sm7 (fun S9 H9 ev9 sm9 eq => ?_) (fun S9 H9 yv S10 ev9 sm9 eq eq2 => ?_)
          · rw [if_neg Bool.false_ne_true]
            have e9 : noX (turnF tgJ vs1 ft fe env1 d1 S5) = .ok none S9 := by
              unfold turnF
              simp only [e8, eq]
              rfl
            rw [e9] at eq5
            refine ⟨accV5, acc5, As5, S9, smO6.ev ev9 sm9.cells, smI6.ev ev9 sm9.cells, ac6.ev smO6 ev9 hrn, ev16.trans ev9, fun p hp => ?_, rsEv smO6 ev9 rs6, eq5⟩
            exact ev9 _ _ (ev6 _ _ (hG1 p hp) (fpD p hp).2) (fpD p hp).2
          · rw [if_pos rfl]
            refine ⟨Lo.mores (accB D0 As5), tE_of sm9 ?_⟩
            rw [eq2]
            intro H10 ev10 sm10 yy r10
            have smO9 := smO6.ev ev9 sm9.cells
            have smI9 := smI6.ev ev9 sm9.cells
            have smO10 := smO9.ev ev10 sm10.cells
            have smI10 := smI9.ev ev10 sm10.cells
            have ac9 := ac6.ev smO6 ev9 hrn
            have ev19 := ev16.trans ev9
            have ac10 := ac9.ev smO9 ev10 hrn
            have ev110 := ev19.trans ev10
            obtain ⟨A, ro, nA, fA, cA⟩ := r10
            have e9 : noX (turnF tgJ vs1 ft fe env1 d1 S5) = .ok (some yv) S10 := by
              unfold turnF
              simp only [e8, eq]
              show noX ((fe env2 S9).bind _) = _
              rw [eq2]
              rfl
            rw [e9] at eq5
            have eq5' : loopL (items2.drop (j + 1)) (turnF tgJ vs1 ft fe env1) (acc5 ++ [yv]) S10 = .ok accO SO := eq5
            have l9 : accV5.length < sizeLine := by
              obtain ⟨o, S', eo, lo⟩ := loopL_ok (f := turnF tgJ vs1 ft fe env1) (items := items2.drop (j + 1)) (acc := acc5 ++ [yv]) (S := S10) (by rw [eq5']; exact fun q => by cases q)
              rw [eq5'] at eo
              cases eo
              rw [ac10.l1, ← lim_eq]
              rw [List.length_append] at lo
              simp at lo
              omega
            have rs10 := rsEv smO6 ev9 rs6
            have f1 : ∀ a ∈ A, H1 a = none := fun a ha => ev19.none (fA a ha) fun hr => by
              obtain ⟨u, e, _⟩ := smO9.live a (smO9.inL hr)
              rw [fA a ha] at e; cases e
            have nD : ∀ {x : V} {d : D}, Rep g (orL L (accB D0 As5)) ρ H9 x d → Rep g (orL L (accB D0 (As5 ++ [A]))) ρ (upd H10 D0 (.lst (accV5 ++ [yy]))) x d := fun r => r.keep (fun a o e na => ⟨by
              have ne : a ≠ D0 := fun q => na (.inr (by rw [q]; exact List.mem_cons_self))
              rw [upd_ne ne]
              exact ev10 a o e fun h => na (.inl (s1.inL h)), fun h => na (by
                rw [accB_app] at h
                exact h.elim .inl fun h => (List.mem_append.mp h).elim .inr fun h => by rw [fA a h] at e; cases e)⟩) (fun a xs e => by
              rw [upd_ne (fun q => by rw [q, ac9.lst] at e; cases e)]; exact ev10.tup smO9 _ _ e) fun _ _ h => h
            refine ⟨accV5, ac10.lst, l9, accV5 ++ [yy], acc5 ++ [yv], As5 ++ [A], S10, ac9.grow h0n smO9 ev10 hrn sm10 ro fA cA, ac9.grow h0n smI9 ev10 hrn sm10 ro fA cA, ac9.app smO9 ev10 hrn ro nA fA f1, ?_, fun p hp => ?_, rs10.imp fun y d r => ?_, eq5'⟩
            · intro a o e nr
              rw [upd_ne (ne_of_none e hD)]
              exact ev110 a o e nr
            · rw [upd_ne (fpD p hp).1]
              exact ev10 _ _ (ev9 _ _ (ev6 _ _ (hG1 p hp) (fpD p hp).2) (fpD p hp).2) (fpD p hp).2
            · cases y with
              | one z => exact nD r
              | two z w => obtain ⟨p, q, e', r1, r2⟩ := r; exact ⟨p, q, e', nD r1, nD r2⟩
      · have e10 : j = ys1.length := by omega
        subst e10
        have e11 : items2.drop ys1.length = [] := by rw [rs5.length]; exact List.drop_length
        rw [e11] at eq5
        cases (show Res.ok _ _ = Res.ok accO SO from eq5)
        exact .inl ⟨w1.stops H5 hG1, _, _, _, _, smO, ac5, ev5, hf⟩
  · have e : i = ys.length := by omega
    subst e
    refine .inl ⟨w.stops H2 hG, ?_⟩
    have e4 : items.drop ys.length = [] := by rw [rs.length]; exact List.drop_length
    rw [e4] at hf
    have hf' : Fin g Lo W L ρ env σ (okE g L ρ H (.fresh (n + 1)) Q) (short acc S') H1 := hf
    rw [(short_ok hf'.run).2] at hf'
    have sm' := sm.doneL (s1.out)
    exact hf' H2 ev sm' _ ⟨_, ac.own, ac.nd, fun a ha => e1.none (ac.fr a ha) fun hr => hrn a hr (ac.fr a ha), sm.cells⟩
end
end BP
end

section
set_option autoImplicit false
set_option linter.all false
set_option maxRecDepth 100000
/-! BPt: dict comprehensions of one and of two clauses, whatever the keys. -/
namespace BP
open PySem PySem.Spec PyProof.Rows L2

abbrev d2 (kx vx t0 i0 t1 i1 : Expr) (c0 c1 : List Expr) (scope : Scope) (pos : Pos) : Expr := .DictComp kx vx [⟨t0, i0, c0, 0⟩, ⟨t1, i1, c1, 0⟩] scope pos
theorem turnD_out (kx vx t0 i0 t1 i1 : Expr) (c0 c1 : List Expr) (scope : Scope) (pos : Pos) (it acc : Value) (env : PySem.Env) :
    compTurn (d2 kx vx t0 i0 t1 i1 c0 c1 scope pos) 0 it acc env = (do
      standAt i0.pos
      match ← pyNext it with
      | none => pure (.done .next)
      | some v =>
        letOwnedTupleGo t0 it v
        assign t0 env v
        let mut ok := true
        for c in c0 do
          if ok then ok ← isTrue c env (eval c env)
        if ok then
          let x ← eval i1 env
          standAt i1.pos
          let x ← foldedSetIterable i1 env x
          let _ ← runOwn (.compStart (d2 kx vx t0 i0 t1 i1 c0 c1 scope pos) 1 (← holding [x] (pyIter x)) acc env) env
        again (.compLoop (d2 kx vx t0 i0 t1 i1 c0 c1 scope pos) 0 it acc env)) := by rfl
theorem turnD_in (kx vx t0 i0 t1 i1 : Expr) (c0 c1 : List Expr) (scope : Scope) (pos : Pos) (it : Value) (D : Addr) (env : PySem.Env) :
    compTurn (d2 kx vx t0 i0 t1 i1 c0 c1 scope pos) 1 it (.ref D) env = (do
      standAt i1.pos
      match ← pyNext it with
      | none => pure (.done .next)
      | some v =>
        letOwnedTupleGo t1 it v
        assign t1 env v
        let mut ok := true
        for c in c1 do
          if ok then ok ← isTrue c env (eval c env)
        if ok then
          (do
            let k ← eval kx env
            let v ← holding [k] (eval vx env)
            standAt { kx.pos with endLine := vx.pos.endLine, endCol := vx.pos.endCol }
            holding [k, v] (dictSet D k v))
        again (.compLoop (d2 kx vx t0 i0 t1 i1 c0 c1 scope pos) 1 it (.ref D) env)) := by rfl

section
variable {prog : Program} {w : World} {A : Around} {R : Result → Shared → Prop} {kx vx t0 i0 t1 i1 : Expr} {c0 c1 : List Expr} {scope : Scope} {pos : Pos} {it : Value} {D : Addr} {env : PySem.Env}
/-- the tests of a clause -/
abbrev testsOf (cs : List Expr) (env : PySem.Env) : Sem Bool := forIn cs true fun c r => if r = true then do let ok ← isTrue c env (eval c env); pure (ForInStep.yield ok) else pure (ForInStep.yield r)
/-- one turn of a clause's loop: TW, what is left behind the tests -/
def TurnW (prog : Program) (w : World) (A : Around) (R : Result → Shared → Prop) (tg : Expr) (cs : List Expr) (it : Value) (env : PySem.Env) (TW : (Shared → Prop) → Shared → Prop) (I : Nat → Shared → Prop) (n : Nat) (s : Shared) : Prop :=
  wpAny (model prog w) A (pyNext it) (fun r s₁ => match r with
    | none => R (.ok .next) s₁
    | some v => wpAny (model prog w) A (letOwnedTupleGo tg it v) (fun _ s₂ => wpAny (model prog w) A (assign tg env v) (fun _ s₃ => wpAny (model prog w) A (testsOf cs env) (fun ok s₄ =>
        if ok = true then TW (fun s' => ∃ m, m < n ∧ I m s') s₄ else ∃ m, m < n ∧ I m s₄) (fun _ _ => False) s₃) (fun _ _ => False) s₂) (fun _ _ => False) s₁) (fun _ _ => False) s
/-- an entry is made -/
def PutW (prog : Program) (w : World) (A : Around) (kx vx : Expr) (D : Addr) (env : PySem.Env) (post : Shared → Prop) (s : Shared) : Prop :=
  wpAny (model prog w) A (eval kx env) (fun k s₁ => wpAny (model prog w) A (eval vx env) (fun v s₂ => wpAny (model prog w) A (dictSet D k v) (fun _ s₃ => post s₃) (fun _ _ => False) s₂) (fun _ _ => False) s₁) (fun _ _ => False) s
abbrev LoopW (prog : Program) (w : World) (A : Around) (R : Result → Shared → Prop) (e : Expr) (i : Nat) (tg : Expr) (cs : List Expr) (it : Value) (D : Addr) (env : PySem.Env) (TW : (Shared → Prop) → Shared → Prop) : Prop :=
  ∀ (I : Nat → Shared → Prop), (∀ n s, I n s → TurnW prog w A R tg cs it env TW I n s) → ∀ n s, I n s → codeAny (model prog w) A (.compLoop e i it (.ref D) env) R s
theorem nF {α : Type} {t : Sem α} {Q : α → Shared → Prop} {E : Value → Shared → Prop} {s : Shared} (h : wpAny (model prog w) A t Q (fun _ _ => False) s) : wpAny (model prog w) A t Q E s := wpAny_mono h (fun _ _ x => x) fun _ _ z => False.elim z
theorem loop_1 : LoopW prog w A R (.DictComp kx vx [⟨t0, i0, c0, 0⟩] scope pos) 0 t0 c0 it D env (PutW prog w A kx vx D env) := by
  intro I turn n s hI
  refine compLoop_anyD I (fun n s hI => nF (wpAny_mono (turn n s hI) (fun r s₁ h₁ => ?_) fun _ _ z => z)) n hI
  cases r with
  | none => exact h₁
  | some v =>
    refine nF (wpAny_mono h₁ (fun _ s₂ h₂ => nF (wpAny_mono h₂ (fun _ s₃ h₃ => nF (wpAny_mono h₃ (fun ok s₄ h₄ => ?_) fun _ _ z => z)) fun _ _ z => z)) fun _ _ z => z)
    cases ok with
    | false => exact h₄
    | true =>
      rw [if_pos rfl] at h₄ ⊢
      exact nF (wpAny_mono h₄ (fun k s₅ h₅ => nF (wpAny_mono h₅ (fun v s₆ h₆ => nF h₆) fun _ _ z => z)) fun _ _ z => z)
/-- the second clause's loop -/
theorem loop_2in : LoopW prog w A R (d2 kx vx t0 i0 t1 i1 c0 c1 scope pos) 1 t1 c1 it D env (PutW prog w A kx vx D env) := by
  intro I turn n s hI
  refine codeAny_loop rfl I (fun n s hI => ?_) n hI
  show wpAny _ A ((compTurn (d2 kx vx t0 i0 t1 i1 c0 c1 scope pos) 1 it (.ref D) env).onRaise (fun x => do noteFrame x env; theTreesLotGoes x)) _ _ s
  refine wpAny_noted ?_
  rw [turnD_in]
  refine wpAny_bind (wpAny_standAt (wpAny_bind (nF (wpAny_mono (turn n s hI) (fun r s₁ h₁ => ?_) fun _ _ z => z))))
  cases r with
  | none => exact wpAny_pure h₁
  | some v =>
    refine wpAny_bind (nF (wpAny_mono h₁ (fun _ s₂ h₂ => wpAny_bind (nF (wpAny_mono h₂ (fun _ s₃ h₃ => wpAny_bind (nF (wpAny_mono h₃ (fun ok s₄ h₄ => ?_) fun _ _ z => z))) fun _ _ z => z))) fun _ _ z => z))
    cases ok with
    | false => exact wpAny_pure ⟨rfl, h₄⟩
    | true =>
      rw [if_pos rfl] at h₄
      exact wpAny_bind (wpAny_bind (nF (wpAny_mono h₄ (fun k s₅ h₅ => wpAny_bind (wpAny_holding (nF (wpAny_mono h₅ (fun v s₆ h₆ => wpAny_bind (wpAny_standAt (wpAny_holding (nF (wpAny_mono h₆ (fun _ s₇ h₇ => wpAny_pure ⟨rfl, h₇⟩) fun _ _ z => z))))) fun _ _ z => z)))) fun _ _ z => z)))
/-- what the first clause leaves: the second's start -/
def InW (prog : Program) (w : World) (A : Around) (e i1 : Expr) (D : Addr) (env : PySem.Env) (post : Shared → Prop) (s : Shared) : Prop :=
  wpAny (model prog w) A (eval i1 env) (fun x s₁ => wpAny (model prog w) A (pyIter x) (fun it1 s₂ => codeAny (model prog w) A (.compStart e 1 it1 (.ref D) env) (fun r s' => match r with
    | .ok _ => post s'
    | .error _ => False) s₂) (fun _ _ => False) s₁) (fun _ _ => False) s
theorem loop_2out (hs : ∀ x, foldedSetIterable i1 env x = pure x) : LoopW prog w A R (d2 kx vx t0 i0 t1 i1 c0 c1 scope pos) 0 t0 c0 it D env (InW prog w A (d2 kx vx t0 i0 t1 i1 c0 c1 scope pos) i1 D env) := by
  intro I turn n s hI
  refine codeAny_loop rfl I (fun n s hI => ?_) n hI
  show wpAny _ A ((compTurn (d2 kx vx t0 i0 t1 i1 c0 c1 scope pos) 0 it (.ref D) env).onRaise (fun x => do noteFrame x env; theTreesLotGoes x)) _ _ s
  refine wpAny_noted ?_
  rw [turnD_out]
  refine wpAny_bind (wpAny_standAt (wpAny_bind (nF (wpAny_mono (turn n s hI) (fun r s₁ h₁ => ?_) fun _ _ z => z))))
  cases r with
  | none => exact wpAny_pure h₁
  | some v =>
    refine wpAny_bind (nF (wpAny_mono h₁ (fun _ s₂ h₂ => wpAny_bind (nF (wpAny_mono h₂ (fun _ s₃ h₃ => wpAny_bind (nF (wpAny_mono h₃ (fun ok s₄ h₄ => ?_) fun _ _ z => z))) fun _ _ z => z))) fun _ _ z => z))
    cases ok with
    | false => exact wpAny_pure ⟨rfl, h₄⟩
    | true =>
      rw [if_pos rfl] at h₄
      refine wpAny_bind (nF (wpAny_mono h₄ (fun x s₅ h₅ => ?_) fun _ _ z => z))
      refine wpAny_bind (wpAny_standAt (wpAny_bind (wpAny_of_eq (hs x) (wpAny_bind (wpAny_holding (nF (wpAny_mono h₅ (fun it1 s₆ h₆ => ?_) fun _ _ z => z)))))))
      refine wpAny_bind (wpAny_runOwn ?_)
      rw [Around.mark_none]
      refine codeAny_mono h₆ fun r s' hr => ?_
      cases r with
      | ok f =>
        first
          | exact wpAny_pure ⟨rfl, hr⟩
          | exact wpAny_bind (wpAny_pure (wpAny_pure ⟨rfl, hr⟩))
      | error e => exact hr.elim
/-- the second clause begins -/
theorem start_2 {s : Shared} (h0 : codeAny (model prog w) A (.compLoop (d2 kx vx t0 i0 t1 i1 c0 c1 scope pos) 1 it (.ref D) env) R s)
    (h : wpAny (model prog w) A (pyIter it) (fun it' s' => codeAny (model prog w) A (.compLoop (d2 kx vx t0 i0 t1 i1 c0 c1 scope pos) 1 it' (.ref D) env) R s') (fun _ _ => False) s) :
    codeAny (model prog w) A (.compStart (d2 kx vx t0 i0 t1 i1 c0 c1 scope pos) 1 it (.ref D) env) R s := by
  refine codeAny_of_tree ?_
  show wpAny _ _ ((compStart (d2 kx vx t0 i0 t1 i1 c0 c1 scope pos) 1 it (.ref D) env).onRaise (fun x => do noteFrame x env; standAt theWindowsPlace)) _ _ s
  refine wpAny_notedAt ?_
  unfold compStart
  show wpAny _ _ (ask >>= _) _ _ s
  refine wpAny_bind (wpAny_askSetting (wpAny_ite ?_))
  split
  · first
      | exact wpAny_bind (wpAny_pure (wpAny_pure (And.intro rfl h0)))
      | exact wpAny_pure (And.intro rfl h0)
  · first
      | exact wpAny_bind (wpAny_rule (wpAny_bind (wpAny_standAt (wpAny_bind (nF (wpAny_mono h (fun it' s' h' => wpAny_pure (And.intro rfl h')) fun _ _ x => x))))))
      | (refine wpAny_bind (wpAny_rule ?_); show wpAny _ _ (standAt i1.pos >>= _) _ _ s; exact wpAny_bind (wpAny_standAt (wpAny_bind (nF (wpAny_mono h (fun it' s' h' => wpAny_pure (And.intro rfl h')) fun _ _ x => x)))))
end

/-! ### the block -/
/-- what is left behind the tests keeps its promise -/
def TailOk (X : Cx) (vs : List Nat) (TW : (Shared → Prop) → Shared → Prop) (tail : L2.St → Hp → (Hp → Prop) → Prop) : Prop :=
  ∀ (pins : List (Addr × Obj)) (s : Shared) (σ : L2.St) (H : Hp) (Nx : Hp → Prop) (post : Shared → Prop), L2.Inv X pins σ H s → tail σ H Nx →
    (∀ (σ' : L2.St) (s' : Shared) (H' : Hp), L2.Inv X pins σ' H' s' → σ'.length = σ.length → (∀ (j : Nat) (v : V), j ∉ vs → σ[j]? = some (some v) → σ'[j]? = some (some v)) → Nx H' → post s') → TW post s
def tDcG (wi : TI) (g : TG) (tt : TT) (tail : Addr → L2.St → Hp → (Hp → Prop) → Prop) (o0 : Addr → HO) (vs : List Nat) : TE := fun σ H Q => wi σ H fun J H1 => ∀ D, H1 D = none → ∃ W : Nat → Nat → Hp → Prop, (∃ m, W 0 m (upd H1 D (o0 D))) ∧ ∀ i m H, W i m H →
  (J.stop i H ∧ Q (.ref D) H) ∨ (J.go i H ∧ ∃ Nx : Hp → Prop, (∀ H', Nx H' → ∃ m', m' < m ∧ W (i + 1) m' H') ∧ ∀ x H', J.yld i H x H' → g x (wipe σ vs) H' fun σ2 H2 => wipe σ2 vs = wipe σ vs ∧ tt σ2 H2 fun b H3 =>
    if b = true then tail D σ2 H3 Nx else Nx H3)
section
variable {X : Cx} {kx vx tg iter : Expr} {ifs : List Expr} {rest : List Comprehension} {scope : Scope} {own : List (Str × Nat)} {pos : Pos} {wi : TI} {g : TG} {tt : TT} {tail : Addr → L2.St → Hp → (Hp → Prop) → Prop} {o0 : Addr → HO} {TW : Addr → PySem.Env → (Shared → Prop) → Shared → Prop}
theorem dcG_core {pins : List (Addr × Obj)} {s : Shared} {σ : L2.St} {H : Hp} {Q : VK} {pos' : Pos} {use : Option (Value → Sem Unit)} {Qf : Value → Shared → Prop} (hc : X.calm = true) (hN : X.N.Nodup) (hi : PI X tg iter wi) (ok : BlkOk X.N X.env.scope scope own)
    (hg : ∀ (s : Shared) (H : Hp) (C : Addr) (cl : List (Str × Addr)) (fp : List Addr), PG (X.blk s H scope (compEnvC scope cl C X.env) fp) tg g) (ht : ∀ (s : Shared) (H : Hp) (C : Addr) (cl : List (Str × Addr)) (fp : List Addr), PTs (X.blk s H scope (compEnvC scope cl C X.env) fp) ifs tt)
    (hT : ∀ (s : Shared) (H : Hp) (C : Addr) (cl : List (Str × Addr)) (fp : List Addr) (D : Addr), TailOk (X.blk s H scope (compEnvC scope cl C X.env) fp) (own.map (·.2)) (TW D (compEnvC scope cl C X.env)) (tail D))
    (hL : ∀ (R : Result → Shared → Prop) (it : Value) (D : Addr) (cl : List (Str × Addr)) (C : Addr), LoopW X.prog X.w X.A R (.DictComp kx vx (⟨tg, iter, ifs, 0⟩ :: rest) scope pos) 0 tg ifs it D (compEnvC scope cl C X.env) (TW D (compEnvC scope cl C X.env)))
    (hnew : ∀ (h : Heap) (H : Hp), sysModules < h.objs.size → ObjOk X.prog X.w H (h.push { cls := .type "dict", data := .dict #[] }) h.objs.size (o0 h.objs.size))
    (hs : ∀ x, foldedSetIterable iter X.env x = pure x)
    (I : L2.Inv X pins σ H s) (h : tDcG wi g tt tail o0 (own.map (·.2)) σ H Q)
    (hRR : ∀ D C s' m H', L2.Inv X pins σ H' s' → Q (.ref D) H' → s'.heap.Ns C m → FpOk X pins H' C → compPost (model X.prog X.w) X.A X.xe use Qf (.ref D) C (.ok .next) s') :
    wpAny (model X.prog X.w) X.A (comprehension (.DictComp kx vx (⟨tg, iter, ifs, 0⟩ :: rest) scope pos) scope X.env pos' newDict false (eval iter X.env) use) Qf X.xe s := by
  have hfree : ∀ y ∈ scope.names, y.2 = .free → ∃ c, X.env.cells.lookup y.1 = some c := fun y hy e => (ok.free y hy e).elim (fun k => I.ok.has _ (.inl k)) fun k => I.ok.has _ (.inr k)
  refine wpAny_comprehension_free (use := use) rfl hs (closure_ok hfree) ok.kind (fun y hy e => by rw [ok.uniq y hy, e]) (thn (hi.run pins s σ H _ I h) fun xv s1 hx => thn hx fun itv s2 h2 => ?_)
  obtain ⟨it, fp, tn, J, H2, e, I2, T, st2, f2, q⟩ := h2
  subst e
  refine wpAny_newObj_type (newEnv_comp ?_)
  generalize hD : s2.heap.objs.size = D
  have hDn : H2 D = none := I2.hok.fresh (Nat.le_of_eq hD)
  obtain ⟨W, ⟨m0, w0⟩, turn⟩ := q D hDn
  -- the new dict
  generalize hs3 : ({ s2 with heap := s2.heap.push { cls := .type "dict", data := .dict #[] } } : Shared) = s3
  have h3 : s3.heap = s2.heap.push { cls := .type "dict", data := .dict #[] } := by rw [← hs3]
  have I3 : L2.Inv X pins σ (upd H2 D (o0 D)) s3 := by
    rw [← hs3]
    refine I2.laid (t' := s2.toks) (fun b o e => Heap.get?_push_of_some _ e) (Nat.le_of_eq hD) ?_
    rw [← hD]
    exact hnew s2.heap _ I2.big
  have f3 : ∀ b ∈ fp, FpOk X pins (upd H2 D (o0 D)) b ∧ b < s3.heap.objs.size := fun b hb => by
    obtain ⟨o, e, _⟩ := T.obj _ _ st2 b hb
    have hlt := Heap.lt_size e
    refine ⟨⟨?_, (f2 b hb).2⟩, by rw [h3, Heap.size_push]; exact Nat.lt_succ_of_lt hlt⟩
    rw [upd_ne (by rw [← hD]; exact Nat.ne_of_lt hlt)]
    exact (f2 b hb).1
  have st3 : tn 0 s3.heap := T.keep _ _ _ st2 fun b _ o e => by rw [h3]; exact Heap.get?_push_of_some _ e
  have I4 := block_start I3 ok hN f3
  generalize hC : s3.heap.objs.size = C at I4 f3
  generalize hcl : cellsFrom (C + 1) scope.names (cloFrom X.env.cells scope.names []) = cl at I4
  have nfp : ∀ b ∈ fp, (upd H2 D (o0 D)) b = none := fun b hb => (f3 b hb).1.1
  generalize hH3 : upd H2 D (o0 D) = H3 at I3 I4 w0 nfp f3
  have pg := hg s3 H3 C cl fp
  have pt := ht s3 H3 C cl fp
  have pT := hT s3 H3 C cl fp D
  show codeAny _ _ (.compStart (.DictComp kx vx (⟨tg, iter, ifs, 0⟩ :: rest) scope pos) 0 (.ref it) (.ref D) (compEnvC scope cl C X.env)) (compPost (model X.prog X.w) X.A X.xe use Qf (.ref D) C) { s3 with heap := pushCells (s3.heap.push { cls := .type "dict", data := .dict #[] }) scope.names }
  have pL := hL (compPost (model X.prog X.w) X.A X.xe use Qf (.ref D) C) (.ref it) D cl C
  have cL : (compEnvC scope cl C X.env).locals = C := rfl
  generalize hce : compEnvC scope cl C X.env = ce at I4 pg pt pT pL cL ⊢
  generalize hs4 : ({ s3 with heap := pushCells (s3.heap.push { cls := .type "dict", data := .dict #[] }) scope.names } : Shared) = s4 at I4 ⊢
  have st4 : tn 0 s4.heap := T.keep _ _ _ st3 fun b _ o e => by rw [← hs4]; exact pushCells_keeps _ _ _ _ (Heap.get?_push_of_some _ e)
  have stat : ∀ {σ' : L2.St} {H' : Hp} {s' : Shared}, L2.Inv (X.blk s3 H3 scope ce fp) [] σ' H' s' → (∀ b ∈ fp, H' b = none) → ∀ b ∈ fp, FpOk (X.blk s3 H3 scope ce fp) [] H' b := fun {σ' H' s'} I' hn b hb =>
    ⟨hn b hb, (I'.ok.exf b hb).1, I'.ok.exfs b hb, .inl hb, fun x c e => (I'.ok.exf b hb).2 x c e, fun p hp => absurd (show p ∈ ([] : List (Addr × Obj)) ++ [] from hp) (by simp)⟩
  have loop : codeAny (model X.prog X.w) X.A (.compLoop (.DictComp kx vx (⟨tg, iter, ifs, 0⟩ :: rest) scope pos) 0 (.ref it) (.ref D) ce) (compPost (model X.prog X.w) X.A X.xe use Qf (.ref D) C) s4 := by
    refine pL (fun n s' => ∃ i H', L2.Inv (X.blk s3 H3 scope ce fp) [] (wipe σ (own.map (·.2))) H' s' ∧ tn i s'.heap ∧ (∀ b ∈ fp, H' b = none) ∧ W i n H') ?_ m0 s4 ⟨0, H3, I4, st4, nfp, w0⟩
    rintro n s5 ⟨i, H5, I5, st5, n5, w5⟩
    rcases turn i n H5 w5 with ⟨stop, qq⟩ | ⟨go, Nx, hNx, step⟩
    · refine thn (T.done (X.blk s3 H3 scope ce fp) rfl rfl rfl hc i [] s5 _ H5 (fun _ _ => False) I5 (stat I5 n5) st5 stop) fun r s6 ⟨hr, I6⟩ => ?_
      subst hr
      have I7 : L2.Inv X pins σ H5 s6 := I3.call' (ch := fp) I6.os I6.base I6.hok I6.bare fun b hb => let z := (f3 b hb).1.2; ⟨z.2.2.1, z.1, z.2.2.2.1, z.2.2.2.2⟩
      have nC : H5 C = none := by
        have z : H5 ce.locals = none := I6.free
        rw [cL] at z
        exact z
      obtain ⟨m, hn, _⟩ := I6.loc
      have hn : s6.heap.Ns ce.locals m := hn
      rw [cL] at hn
      exact hRR D C s6 m H5 I7 qq hn (I3.fpOk (b := C) (by rw [hC]; exact Nat.le_refl _) nC)
    · refine thn (T.item (X.blk s3 H3 scope ce fp) rfl rfl rfl hc i [] s5 _ H5 (fun _ _ => False) I5 (stat I5 n5) st5 go) fun r s6 ⟨u, hr, h6⟩ => ?_
      subst hr
      refine thn h6 fun _ s7 ⟨x, H7, I7, r7, y7, st7, n7⟩ => ?_
      have I7' := I7.pinned (stat I7 n7) (T.obj _ _ st7)
      refine thn (pg.run _ s7 _ H7 x u _ I7' r7 (step x H7 y7)) fun _ s8 ⟨σ8, H8, I8, hw8, q8⟩ => ?_
      refine thn (pt.run _ s8 σ8 H8 _ I8 q8) fun b s9 ⟨H9, I9, q9⟩ => ?_
      have fin : ∀ {σ9 : L2.St} {s' : Shared} {H' : Hp}, L2.Inv (X.blk s3 H3 scope ce fp) ([] ++ pinsAt fp s7.heap) σ9 H' s' → σ9.length = σ8.length → (∀ (j : Nat) (v : V), j ∉ own.map (·.2) → σ8[j]? = some (some v) → σ9[j]? = some (some v)) → Nx H' →
          ∃ m, m < n ∧ ∃ i H', L2.Inv (X.blk s3 H3 scope ce fp) [] (wipe σ (own.map (·.2))) H' s' ∧ tn i s'.heap ∧ (∀ b ∈ fp, H' b = none) ∧ W i m H' := fun {σ9 s' H'} I' hl hk nx => by
        obtain ⟨m', hm, w'⟩ := hNx H' nx
        have pin' : ∀ b ∈ fp, ∀ o, s7.heap.get? b = some o → s'.heap.get? b = some o ∧ H' b = none := fun b hb o e =>
          let z := I'.pin (b, o) (List.mem_append_right _ (List.mem_append_right _ (mem_pinsAt hb e)))
          ⟨z.1, z.2.1⟩
        refine ⟨m', hm, i + 1, H', (I'.unpinned (pins := [])).weak (by rw [hl, ← hw8, wipe_length]) (fun j v e => ?_), T.keep _ _ _ st7 fun b hb o e => (pin' b hb o e).1, fun b hb => ?_, w'⟩
        · rw [← hw8] at e
          obtain ⟨e1, e2⟩ := wipe_some e
          exact hk j v e2 e1
        · obtain ⟨o, e, _⟩ := T.obj _ _ st7 b hb
          exact (pin' b hb o e).2
      cases b with
      | false =>
        rw [if_neg Bool.false_ne_true] at q9 ⊢
        exact fin I9 rfl (fun _ _ _ e => e) q9
      | true =>
        rw [if_pos rfl] at q9 ⊢
        exact pT _ s9 σ8 H9 Nx _ I9 q9 fun σ' s' H' I' hl hk nx => fin I' hl hk nx
  exact codeAny_compStart_dict loop (T.self X.A 0 _ _ _ st4 loop)
theorem pe_dcG (hc : X.calm = true) (hN : X.N.Nodup) (hi : PI X tg iter wi) (ok : BlkOk X.N X.env.scope scope own)
    (hg : ∀ (s : Shared) (H : Hp) (C : Addr) (cl : List (Str × Addr)) (fp : List Addr), PG (X.blk s H scope (compEnvC scope cl C X.env) fp) tg g) (ht : ∀ (s : Shared) (H : Hp) (C : Addr) (cl : List (Str × Addr)) (fp : List Addr), PTs (X.blk s H scope (compEnvC scope cl C X.env) fp) ifs tt)
    (hT : ∀ (s : Shared) (H : Hp) (C : Addr) (cl : List (Str × Addr)) (fp : List Addr) (D : Addr), TailOk (X.blk s H scope (compEnvC scope cl C X.env) fp) (own.map (·.2)) (TW D (compEnvC scope cl C X.env)) (tail D))
    (hL : ∀ (R : Result → Shared → Prop) (it : Value) (D : Addr) (cl : List (Str × Addr)) (C : Addr), LoopW X.prog X.w X.A R (.DictComp kx vx (⟨tg, iter, ifs, 0⟩ :: rest) scope pos) 0 tg ifs it D (compEnvC scope cl C X.env) (TW D (compEnvC scope cl C X.env)))
    (hnew : ∀ (h : Heap) (H : Hp), sysModules < h.objs.size → ObjOk X.prog X.w H (h.push { cls := .type "dict", data := .dict #[] }) h.objs.size (o0 h.objs.size))
    (hs : ∀ x, foldedSetIterable iter X.env x = pure x) : PE X (.DictComp kx vx (⟨tg, iter, ifs, 0⟩ :: rest) scope pos) (tDcG wi g tt tail o0 (own.map (·.2))) := by
  refine ⟨fun pins s σ H Q I h => ?_⟩
  rw [arm_eval_DictComp]
  refine dcG_core hc hN hi ok hg ht hT hL hnew hs I h fun D C s' m H' I' q hn f => ⟨m, hn, fun h'' sb => ?_⟩
  obtain ⟨f0, f1, f2, f3, f4, f5⟩ := f
  exact ⟨.ref D, H', I'.turned (t' := s'.toks) (fun b o hb e => (sb.2 b hb).trans e) f0 f1 f3 f4 f5, rfl, q⟩
/-- name = {..} on one line, the name a local -/
theorem ps_setDcG {i : Nat} {y : Str} {py spos : Pos} (hy : X.N[i]? = some y) (hyl : X.env.scope.names.lookup y = some .local) (hsw : swapsWith (.DictComp kx vx (⟨tg, iter, ifs, 0⟩ :: rest) scope pos) (some (.Name y py)) spos.line X.env = pure true) (hc : X.calm = true) (hN : X.N.Nodup) (hi : PI X tg iter wi) (ok : BlkOk X.N X.env.scope scope own)
    (hg : ∀ (s : Shared) (H : Hp) (C : Addr) (cl : List (Str × Addr)) (fp : List Addr), PG (X.blk s H scope (compEnvC scope cl C X.env) fp) tg g) (ht : ∀ (s : Shared) (H : Hp) (C : Addr) (cl : List (Str × Addr)) (fp : List Addr), PTs (X.blk s H scope (compEnvC scope cl C X.env) fp) ifs tt)
    (hT : ∀ (s : Shared) (H : Hp) (C : Addr) (cl : List (Str × Addr)) (fp : List Addr) (D : Addr), TailOk (X.blk s H scope (compEnvC scope cl C X.env) fp) (own.map (·.2)) (TW D (compEnvC scope cl C X.env)) (tail D))
    (hL : ∀ (R : Result → Shared → Prop) (it : Value) (D : Addr) (cl : List (Str × Addr)) (C : Addr), LoopW X.prog X.w X.A R (.DictComp kx vx (⟨tg, iter, ifs, 0⟩ :: rest) scope pos) 0 tg ifs it D (compEnvC scope cl C X.env) (TW D (compEnvC scope cl C X.env)))
    (hnew : ∀ (h : Heap) (H : Hp), sysModules < h.objs.size → ObjOk X.prog X.w H (h.push { cls := .type "dict", data := .dict #[] }) h.objs.size (o0 h.objs.size))
    (hs : ∀ x, foldedSetIterable iter X.env x = pure x) :
    PS X (.Assign [.Name y py] (.DictComp kx vx (⟨tg, iter, ifs, 0⟩ :: rest) scope pos) spos) (tAsg (tDcG wi g tt tail o0 (own.map (·.2))) (gName i)) := by
  refine ⟨fun pins s σ H D I h => ?_⟩
  rw [exec_Assign_Name_used _ _ _ _ hsw]
  refine wpAny_bind (wpAny_standAt (wpAny_bind ?_))
  show wpAny _ X.A (do let _ ← comprehension (.DictComp kx vx (⟨tg, iter, ifs, 0⟩ :: rest) scope pos) scope X.env (firstIterPos (⟨tg, iter, ifs, 0⟩ :: rest) pos) newDict false (eval iter X.env) (some (assign (.Name y py) X.env))) _ _ s
  have h : tDcG wi g tt tail o0 (own.map (·.2)) σ H (fun x H1 => gName i x σ H1 D.nx) := h
  refine wpAny_bind (thn (dcG_core (Qf := fun _ s' => SP X pins D .next s') hc hN hi ok hg ht hT hL hnew hs I h fun L C s' m H' I' q hn f => ?_) fun _ s' hq => wpAny_pure (wpAny_pure hq))
  show wpAny _ _ (assign (.Name y py) X.env (.ref L)) _ _ _
  refine wpAny_assign_Name (store_ok2 (v := V.ref L) I' hN hy (.inl hyl) rfl (fun s2 I2 ⟨a, sb, ha⟩ => ?_) (.inr hyl))
  obtain ⟨f0, f1, f2, f3, f4, f5⟩ := f
  have haC : C ≠ a := by
    rcases ha with z | z
    · rw [z]; exact f1
    · exact fun e => f4 y a z e.symm
  refine ⟨m, hn.sameBut sb haC, fun h3 sb3 => ?_⟩
  exact ⟨_, H', I2.turned (t' := s2.toks) (fun b o hb e => (sb3.2 b hb).trans e) f0 f1 f3 f4 f5, q⟩
end
end BP
end

section
set_option autoImplicit false
set_option linter.all false
set_option maxRecDepth 100000
/-! BPu: dict comprehensions, by plain values. -/
namespace BP
open PySem PySem.Spec PyProof.Rows L2

abbrev PutT := Addr → V → V → Hp → (Hp → Prop) → Prop
def PutOk (X : Cx) (put : PutT) : Prop := ∀ (pins : List (Addr × Obj)) (s : Shared) (σ : L2.St) (H : Hp) (D : Addr) (y z : V) (u r : Value) (Q : Hp → Prop), L2.Inv X pins σ H s → RelV y u → RelV z r → put D y z H Q →
  wpAny (model X.prog X.w) X.A (dictSet D u r) (fun _ s' => ∃ H', L2.Inv X pins σ H' s' ∧ Q H') (fun _ _ => False) s
def tail1 (tk tv : TE) (put : PutT) : Addr → L2.St → Hp → (Hp → Prop) → Prop := fun D σ H Nx => tk σ H fun y H1 => tv σ H1 fun z H2 => put D y z H2 Nx
def tail2 (wi1 : TI) (g1 : TG) (tt1 : TT) (tk tv : TE) (put : PutT) (vs1 : List Nat) : Addr → L2.St → Hp → (Hp → Prop) → Prop := fun D σ H Nx => wi1 σ H fun J1 H4 => ∃ W1 : Nat → Nat → Hp → Prop, (∃ m, W1 0 m H4) ∧ ∀ j k H, W1 j k H →
  (J1.stop j H ∧ Nx H) ∨ (J1.go j H ∧ ∃ Nx1 : Hp → Prop, (∀ H', Nx1 H' → ∃ k', k' < k ∧ W1 (j + 1) k' H') ∧ ∀ x H', J1.yld j H x H' → g1 x (wipe σ vs1) H' fun σ3 H5 => wipe σ3 vs1 = wipe σ vs1 ∧ tt1 σ3 H5 fun b H6 =>
    if b = true then tail1 tk tv put D σ3 H6 Nx1 else Nx1 H6)
section
variable {X : Cx} {kx vx t0 i0 t1 i1 : Expr} {c0 c1 : List Expr} {scope : Scope} {pos : Pos} {vs vs1 : List Nat} {put : PutT} {tk tv : TE} {wi1 : TI} {g1 : TG} {tt1 : TT} {D : Addr}
theorem tail1_run (hx : X.xe = fun _ _ => False) (hk : PE X kx tk) (hv : PE X vx tv) (hp : PutOk X put) {pins : List (Addr × Obj)} {s : Shared} {σ : L2.St} {H : Hp} {Nx : Hp → Prop} {post : Shared → Prop} (I : L2.Inv X pins σ H s) (h : tail1 tk tv put D σ H Nx)
    (fin : ∀ s' H', L2.Inv X pins σ H' s' → Nx H' → post s') : PutW X.prog X.w X.A kx vx D X.env post s := by
  have hk := hk.run pins s σ H _ I h
  rw [hx] at hk
  refine thn hk fun u s1 ⟨y, H1, I1, r1, q1⟩ => ?_
  have hv := hv.run pins s1 σ H1 _ I1 q1
  rw [hx] at hv
  refine thn hv fun r s2 ⟨z, H2, I2, r2, q2⟩ => ?_
  exact thn (hp pins s2 σ H2 D y z u r Nx I2 r1 r2 q2) fun _ s3 ⟨H3, I3, nx⟩ => fin s3 H3 I3 nx
theorem tail1_ok (hx : X.xe = fun _ _ => False) (hk : PE X kx tk) (hv : PE X vx tv) (hp : PutOk X put) : TailOk X vs (PutW X.prog X.w X.A kx vx D X.env) (tail1 tk tv put D) :=
  fun pins s σ H Nx post I h fin => tail1_run hx hk hv hp I h fun s' H' I' nx => fin σ s' H' I' rfl (fun _ _ _ e => e) nx
theorem tail2_ok (hc : X.calm = true) (hx : X.xe = fun _ _ => False) (hv1 : ∀ i ∈ vs1, i ∈ vs) (hi1 : PI X t1 i1 wi1) (hg1 : PG X t1 g1) (ht1 : PTs X c1 tt1) (hk : PE X kx tk) (hv : PE X vx tv) (hp : PutOk X put) :
    TailOk X vs (InW X.prog X.w X.A (d2 kx vx t0 i0 t1 i1 c0 c1 scope pos) i1 D X.env) (tail2 wi1 g1 tt1 tk tv put vs1 D) := by
  intro pins s σ H Nx post I h fin
  have hi := hi1.run pins s σ H _ I h
  rw [hx] at hi
  refine thn hi fun xv s1 q => thn q fun itv s2 q2 => ?_
  obtain ⟨it1, fp1, tn1, J1, H2, e1, I2, T1, st2, f2, W1, ⟨m1, w1⟩, turn1⟩ := q2
  subst e1
  have stat1 : ∀ {H' : Hp}, (∀ b ∈ fp1, H' b = none) → ∀ b ∈ fp1, FpOk X pins H' b := fun hn b hb => ⟨hn b hb, (f2 b hb).2⟩
  have loop1 : codeAny (model X.prog X.w) X.A (.compLoop (d2 kx vx t0 i0 t1 i1 c0 c1 scope pos) 1 (.ref it1) (.ref D) X.env) (fun r s' => match r with
      | .ok _ => post s'
      | .error _ => False) s2 := by
    refine loop_2in (fun k s' => ∃ j H', L2.Inv X pins (wipe σ vs1) H' s' ∧ tn1 j s'.heap ∧ (∀ b ∈ fp1, H' b = none) ∧ W1 j k H') ?_ m1 s2 ⟨0, H2, I2.weak (wipe_length _ _) (fun j v e => (wipe_some e).1), st2, fun b hb => (f2 b hb).1, w1⟩
    rintro k s3 ⟨j, H3, I3, st3, n3, w3⟩
    rcases turn1 j k H3 w3 with ⟨stop1, nx⟩ | ⟨go1, Nx1, hNx1, step1⟩
    · refine thn (T1.done X rfl rfl rfl hc j pins s3 (wipe σ vs1) H3 (fun _ _ => False) I3 (stat1 n3) st3 stop1) fun r s4 ⟨hr, I4⟩ => ?_
      subst hr
      exact fin _ s4 H3 I4 (wipe_length _ _) (fun j v hj e => by rw [wipe_out fun z => hj (hv1 j z)]; exact e) nx
    · refine thn (T1.item X rfl rfl rfl hc j pins s3 (wipe σ vs1) H3 (fun _ _ => False) I3 (stat1 n3) st3 go1) fun r s4 ⟨u1, hr, h4⟩ => ?_
      subst hr
      refine thn h4 fun _ s5 ⟨x1, H5, I5, r5, y5, st5, n5⟩ => ?_
      have I5' := I5.pinned (stat1 n5) (T1.obj _ _ st5)
      have hg := hg1.run _ s5 (wipe σ vs1) H5 x1 u1 _ I5' r5 (step1 x1 H5 y5)
      rw [hx] at hg
      refine thn hg fun _ s6 ⟨σ6, H6, I6, hw6, q6⟩ => ?_
      have ht := ht1.run _ s6 σ6 H6 _ I6 q6
      rw [hx] at ht
      refine thn ht fun b s7 ⟨H7, I7, q7⟩ => ?_
      have fin1 : ∀ {s' : Shared} {H' : Hp}, L2.Inv X (pins ++ pinsAt fp1 s5.heap) σ6 H' s' → Nx1 H' → ∃ m, m < k ∧ ∃ j H', L2.Inv X pins (wipe σ vs1) H' s' ∧ tn1 j s'.heap ∧ (∀ b ∈ fp1, H' b = none) ∧ W1 j m H' := fun {s' H'} I' nx => by
        obtain ⟨m', hm, w'⟩ := hNx1 H' nx
        have pin' : ∀ b ∈ fp1, ∀ o, s5.heap.get? b = some o → s'.heap.get? b = some o ∧ H' b = none := fun b hb o e =>
          let z := I'.pin (b, o) (List.mem_append_right _ (List.mem_append_right _ (mem_pinsAt hb e)))
          ⟨z.1, z.2.1⟩
        refine ⟨m', hm, j + 1, H', I'.unpinned.weak (by rw [← wipe_length σ6 vs1, hw6]) (fun j v e => by rw [← hw6] at e; exact (wipe_some e).1), T1.keep _ _ _ st5 fun b hb o e => (pin' b hb o e).1, fun b hb => ?_, w'⟩
        obtain ⟨o, e, _⟩ := T1.obj _ _ st5 b hb
        exact (pin' b hb o e).2
      cases b with
      | false =>
        rw [if_neg Bool.false_ne_true] at q7 ⊢
        exact fin1 I7 q7
      | true =>
        rw [if_pos rfl] at q7 ⊢
        exact tail1_run hx hk hv hp I7 q7 fun s' H' I' nx => fin1 I' nx
  exact start_2 loop1 (T1.self X.A 0 _ _ _ st2 loop1)
end
end BP
end

section
set_option autoImplicit false
set_option linter.all false
set_option maxRecDepth 100000
/-! BPv: dict comprehensions keep their promises. -/
namespace BP
open PySem PySem.Spec PyProof.Rows L2

theorem length_dput (ds : List (Ky × D)) (k : Ky) (d : D) : ds.length ≤ (dput ds k d).length := by
  unfold dput
  split
  · simp
  · simp
theorem dk_any {R : V → D → Prop} {kvs : List (Key × V)} {ds : List (Ky × D)} (r : All2 (fun p q => p.1 = q.1 ∧ R p.2 q.2) (kvs.map fun p => (kN p.1, p.2)) ds) (j : Key) : (kvs.any fun kv => decide (kv.1 = j)) = ds.any fun kv => decide (kv.1 = kN j) := by
  have go : ∀ {kvs : List (Key × V)} {ds : List (Ky × D)}, All2 (fun p q => p.1 = q.1 ∧ R p.2 q.2) (kvs.map fun p => (kN p.1, p.2)) ds → (kvs.any fun kv => decide (kv.1 = j)) = ds.any fun kv => decide (kv.1 = kN j) := by
    intro kvs
    induction kvs with
    | nil => intro ds r; cases r; rfl
    | cons p ps ih =>
      intro ds r
      cases ds with
      | nil => cases r
      | cons q qs =>
        cases r with
        | cons h t =>
          rw [List.any_cons, List.any_cons, ih t]
          have h1 : kN p.1 = q.1 := h.1
          have : decide (p.1 = j) = decide (q.1 = kN j) := by
            rw [← h1]
            by_cases e : p.1 = j
            · rw [e, decide_eq_true rfl, decide_eq_true rfl]
            · rw [decide_eq_false e, decide_eq_false fun q => e (kN_inj q)]
          rw [this]
  exact go r
theorem dk_put {R : V → D → Prop} {kvs : List (Key × V)} {ds : List (Ky × D)} (r : All2 (fun p q => p.1 = q.1 ∧ R p.2 q.2) (kvs.map fun p => (kN p.1, p.2)) ds) (j : Key) {v : V} {d : D} (rv : R v d) : All2 (fun p q => p.1 = q.1 ∧ R p.2 q.2) ((putK kvs j v).map fun p => (kN p.1, p.2)) (dput ds (kN j) d) := by
  unfold putK dput
  rw [dk_any r]
  split
  · have go : ∀ {kvs : List (Key × V)} {ds : List (Ky × D)}, All2 (fun p q => p.1 = q.1 ∧ R p.2 q.2) (kvs.map fun p => (kN p.1, p.2)) ds → All2 (fun p q => p.1 = q.1 ∧ R p.2 q.2) ((kvs.map fun kv => if kv.1 = j then (kv.1, v) else kv).map fun p => (kN p.1, p.2)) (ds.map fun kv => if kv.1 = kN j then (kv.1, d) else kv) := by
      intro kvs
      induction kvs with
      | nil => intro ds r; cases r; exact .nil
      | cons p ps ih =>
        intro ds r
        cases ds with
        | nil => cases r
        | cons q qs =>
          cases r with
          | cons h t =>
            have h1 : kN p.1 = q.1 := h.1
            rw [List.map_cons, List.map_cons, List.map_cons]
            refine .cons ?_ (ih t)
            by_cases e : p.1 = j
            · rw [if_pos e, if_pos (by rw [← h1, e])]
              exact ⟨h1, rv⟩
            · rw [if_neg e, if_neg fun q => e (kN_inj (h1.trans q))]
              exact ⟨h1, h.2⟩
    exact go r
  · rw [List.map_append]
    exact All2.append r (.cons ⟨rfl, rv⟩ .nil)

def putG (g : Gx) (nk : Bool) : PutT := fun D y z H Q => match nk with
  | false => ∃ (kvs : List (Key × V)) (k : Key), y = kV k ∧ H D = some (.dK kvs) ∧ kvs.length < sizeLine ∧ Q (upd H D (.dK (putK kvs k z)))
  | true => ∃ (es : List En) (k : Ky) (b : Addr), y = .ref b ∧ NK H (.ref b) k ∧ k.depth ≤ 8 ∧ H D = some (dN g.P g.w D es) ∧ KsOk H es ∧ es.length < sizeLine ∧ Q (upd H D (dN g.P g.w D (eput es k b z)))
def o0G (g : Gx) (nk : Bool) (D : Addr) : HO := match nk with
  | false => .dK []
  | true => dN g.P g.w D []
theorem put_ok {g : Gx} {X : Cx} (hP : X.prog = g.P) (hw : X.w = g.w) (hu : X.A.units + 200 < cLine) (nk : Bool) : PutOk X (putG g nk) := by
  intro pins s σ H D y z u r Q I r1 r2 h
  cases nk with
  | false =>
    obtain ⟨kvs, k, rfl, hD, hz, q⟩ := h
    exact d_dictSet I hD hz r1 r2 fun s' I' => ⟨_, I', q⟩
  | true =>
    obtain ⟨es, k, b, rfl, n1, n2, hD, hk, hz, q⟩ := h
    obtain rfl : u = Value.ref b := r1
    rw [← hP, ← hw] at hD q
    exact n_dictSet hu I hD hk n1 n2 hz r2 fun s' I' => ⟨_, I', q⟩
theorem o0_ok {g : Gx} {X : Cx} (hP : X.prog = g.P) (hw : X.w = g.w) (nk : Bool) (h : Heap) (H : Hp) (hb : sysModules < h.objs.size) : ObjOk X.prog X.w H (h.push { cls := .type "dict", data := .dict #[] }) h.objs.size (o0G g nk h.objs.size) := by
  cases nk with
  | false => exact dk_empty h hb
  | true =>
    show ObjOk X.prog X.w H _ _ (dN g.P g.w h.objs.size [])
    rw [← hP, ← hw]
    exact dn_new (Nat.zero_le _) (beq_eq_false_iff_ne.mpr (Ne.symm (Nat.ne_of_lt hb))) .nil (Heap.DictOfH.new h)
section
variable {g : Gx} {Lo : Out} {L : Addr → Prop} {ρ : List Addr} {env : Env} {S S' : List D} {σ : L2.St} {H H' : Hp} {D0 : Addr} {nk : Bool}
/-- the dict that a comprehension makes, at D0: so far -/
def AccD (g : Gx) (L : Addr → Prop) (ρ : List Addr) (D0 : Addr) (nk : Bool) (H : Hp) (acc : List (Ky × D)) : Prop := match nk with
  | false => ∃ kvs : List (Key × V), H D0 = some (.dK kvs) ∧ All2 (REnt g L ρ H) (kvs.map fun p => (kN p.1, p.2)) acc
  | true => ∃ es : List En, H D0 = some (dN g.P g.w D0 es) ∧ KsOk H es ∧ EsR (Rep g L ρ H) es acc
theorem AccD.zero (h : H D0 = some (o0G g nk D0)) : AccD g L ρ D0 nk H [] := by
  cases nk with
  | false => exact ⟨[], h, .nil⟩
  | true => exact ⟨[], h, fun e he => by simp at he, .nil⟩
theorem AccD.keep {L' : Addr → Prop} {acc : List (Ky × D)} (c : AccD g L ρ D0 nk H acc) (hd : ∀ o, H D0 = some o → H' D0 = some o) (t : TupK H H') (k : ∀ x d, Rep g L ρ H x d → Rep g L' ρ H' x d) : AccD g L' ρ D0 nk H' acc := by
  cases nk with
  | false => obtain ⟨kvs, h, r⟩ := c; exact ⟨kvs, hd _ h, r.imp fun _ _ q => ⟨q.1, k _ _ q.2⟩⟩
  | true => obtain ⟨es, h, hk, r⟩ := c; exact ⟨es, hd _ h, fun e he => ⟨(hk e he).1.keep t, (hk e he).2⟩, r.imp fun _ _ q => ⟨q.1, k _ _ q.2⟩⟩
theorem AccD.ev {acc : List (Ky × D)} (c : AccD g (orA L D0) ρ D0 nk H acc) (s : Sim g (Lo.more D0) (orA L D0) ρ env S σ H) (e : Ev ρ H H') (dr : D0 ∉ ρ) : AccD g (orA L D0) ρ D0 nk H' acc := c.keep (fun o h => e _ _ h dr) (e.tup s) fun _ _ r => e.rep s r
theorem AccD.own {acc : List (Ky × D)} (c : AccD g (orA L D0) ρ D0 nk H acc) : OwnR g (orL L [D0]) ρ H 1 [D0] (.ref D0) (.dct nk acc) := by
  rw [orL_one] at c
  cases nk with
  | false => obtain ⟨kvs, h, r⟩ := c; exact .dK h r
  | true => obtain ⟨es, h, hk, r⟩ := c; exact .dN h hk r
theorem AccD.mut {acc : List (Ky × D)} (c : AccD g L ρ D0 nk H acc) : ∃ o, H D0 = some o ∧ IsMut o := by
  cases nk with
  | false => obtain ⟨kvs, h, r⟩ := c; exact ⟨_, h, True.intro⟩
  | true => obtain ⟨es, h, hk, r⟩ := c; exact ⟨_, h, True.intro⟩
/-- an entry more -/
theorem AccD.put {acc : List (Ky × D)} (c : AccD g (orA L D0) ρ D0 nk H acc) (hl : acc.length < lim) {y z : V} {kd vd : D} {k : Ky} (r1 : Rep g (orA L D0) ρ H y kd) (e : kd.ky nk = some k) (r2 : Rep g (orA L D0) ρ H z vd) {Q : Hp → Prop}
    (q : ∀ o, IsMut o → AccD g (orA L D0) ρ D0 nk (upd H D0 o) (dput acc k vd) → Q (upd H D0 o)) : putG g nk D0 y z H Q := by
  have kp : ∀ (o : HO) (x : V) (d : D), Rep g (orA L D0) ρ H x d → Rep g (orA L D0) ρ (upd H D0 o) x d := fun o x d r => by
    obtain ⟨u, hu, mu⟩ := c.mut
    refine r.keep (fun a w e na => ⟨by rw [upd_ne (fun q => na (.inr q))]; exact e, na⟩) (fun a xs e => ?_) fun _ _ h => h
    rw [upd_ne (fun q => by rw [q, hu] at e; cases e; exact mu)]; exact e
  cases nk with
  | false =>
    obtain ⟨kvs, h, r⟩ := c
    obtain ⟨j, rfl, rfl⟩ := key_kv r1 e
    refine ⟨kvs, j, rfl, h, by have := r.length; rw [List.length_map] at this; rw [this, ← lim_eq]; exact hl, q _ True.intro ⟨_, upd_same, ?_⟩⟩
    exact dk_put (r.imp fun _ _ q => ⟨q.1, kp _ _ _ q.2⟩) j (kp _ _ _ r2)
  | true =>
    obtain ⟨es, h, hk, r⟩ := c
    obtain ⟨b, rfl, n1, n2⟩ := key_nk r1 e
    have tk : ∀ o : HO, TupK H (upd H D0 o) := fun o a xs e => by
      rw [upd_ne (fun q => by rw [q, h] at e; cases e)]; exact e
    refine ⟨es, k, b, rfl, n1, n2, h, hk, by have := r.length; rw [List.length_map] at this; rw [this, ← lim_eq]; exact hl, q _ True.intro ⟨_, upd_same, ?_, ?_⟩⟩
    · exact eput_keys (P := fun a k => NK (upd H D0 _) (.ref a) k ∧ k.depth ≤ 8) (fun e he => ⟨(hk e he).1.keep (tk _), (hk e he).2⟩) ⟨n1.keep (tk _), n2⟩
    · exact esr_put (r.imp fun _ _ q => ⟨q.1, kp _ _ _ q.2⟩) k b (kp _ _ _ r2)
theorem loopD_ok {f : D → List D → Res (Option (Ky × D))} : ∀ {items : List D} {acc : List (Ky × D)} {S : List D}, loopD items f acc S ≠ .stuck → ∃ out S', loopD items f acc S = .ok out S' ∧ acc.length ≤ out.length
  | [], acc, S, _ => ⟨acc, S, rfl, Nat.le_refl _⟩
  | x :: r, acc, S, h => by
    unfold loopD at h ⊢
    obtain ⟨o, S1, e⟩ := noX_ok (bind_ne h)
    rw [e] at h ⊢
    cases o with
    | none => exact loopD_ok (items := r) h
    | some y =>
      obtain ⟨out, S', e1, e2⟩ := loopD_ok (items := r) (acc := dput acc y.1 y.2) h
      exact ⟨out, S', e1, Nat.le_trans (length_dput _ _ _) e2⟩
theorem loopD2_ok {f : D → List (Ky × D) → List D → Res (List (Ky × D))} (mono : ∀ x acc S out S', f x acc S = .ok out S' → acc.length ≤ out.length) : ∀ {items : List D} {acc : List (Ky × D)} {S : List D}, loopD2 items f acc S ≠ .stuck → ∃ out S', loopD2 items f acc S = .ok out S' ∧ acc.length ≤ out.length
  | [], acc, S, _ => ⟨acc, S, rfl, Nat.le_refl _⟩
  | x :: r, acc, S, h => by
    unfold loopD2 at h ⊢
    obtain ⟨o, S1, e⟩ := noX_ok (bind_ne h)
    rw [e] at h ⊢
    obtain ⟨out, S', e1, e2⟩ := loopD2_ok mono (items := r) (acc := o) h
    exact ⟨out, S', e1, Nat.le_trans (mono _ _ _ _ _ e) e2⟩
theorem shortD_ok {xs : List (Ky × D)} {S : List D} (h : shortD nk xs S ≠ .stuck) : xs.length < lim ∧ shortD nk xs S = .ok (.dct nk xs) S := by
  unfold shortD at h ⊢
  split
  · exact ⟨by assumption, rfl⟩
  · rename_i hn; rw [if_neg hn] at h; exact absurd rfl h
end

section
variable {g : Gx} {Lo : Out} {W : WX} {X : Cx} {own : List (Str × Nat)} {vs1 : List Nat} {fi fi2 : AF} {ft fk fv : EF} {tgI tgJ : Tg} {nk : Bool}
abbrev xG (g : Gx) (t : Tg) : TG := fun v σ H Q => ∃ Lo', tG g Lo' t v σ H Q
abbrev xT (g : Gx) (f : EF) : TT := fun σ H Q => ∃ Lo', tT g Lo' WF f σ H Q
abbrev xE (g : Gx) (m : Mode) (f : EF) : TE := fun σ H Q => ∃ Lo', tE g Lo' WF m f σ H Q
abbrev xI (g : Gx) (n : Nat) (f : AF) : TI := fun σ H R => ∃ Lo', tI g Lo' WF n f σ H R
/-- an entry's evaluation -/
theorem entry_to {L : Addr → Prop} {ρ : List Addr} {env env1 : Env} {S5 S6 : List D} {σ σ2 : L2.St} {H5 : Hp} {D0 : Addr} {acc : List (Ky × D)} {kv : Ky × D} {Nx : Hp → Prop} (hl : acc.length < lim) (h0n : Lo.H0 D0 = none) (dr : D0 ∉ ρ) (smO : Sim g (Lo.more D0) (orA L D0) ρ env S5 σ H5) (smI : Sim g (Lo.more D0) (orA L D0) ρ env1 S5 σ2 H5) (ac : AccD g (orA L D0) ρ D0 nk H5 acc)
    (eq : kvF nk fk fv env1 S5 = .ok kv S6) (fin : ∀ H', (∀ a o, H5 a = some o → a ∉ ρ → a ≠ D0 → H' a = some o) → (∀ τ E, Sim g (Lo.more D0) (orA L D0) ρ E S5 τ H5 → Sim g (Lo.more D0) (orA L D0) ρ E S6 τ H') → AccD g (orA L D0) ρ D0 nk H' (dput acc kv.1 kv.2) → Nx H') :
    tail1 (xE g (.weak 0) fk) (xE g (.weak 0) fv) (putG g nk) D0 σ2 H5 Nx := by
  unfold kvF at eq
  obtain ⟨kd, S7, e1, eq⟩ := bind_okE eq
  obtain ⟨vd, S8, e2, eq⟩ := bind_okE eq
  cases e3 : kd.ky nk with
  | none => rw [e3] at eq; cases eq
  | some k =>
    rw [e3] at eq
    cases eq
    refine ⟨Lo.more D0, tE_of smI ?_⟩
    rw [e1]
    intro H6 ev6 sm6 y r6
    refine ⟨Lo.more D0, tE_of sm6 ?_⟩
    rw [e2]
    intro H7 ev7 sm7 z r7
    have smO6 := smO.ev ev6 sm6.cells
    have smO7 := smO6.ev ev7 sm7.cells
    have ac7 := (ac.ev smO ev6 dr).ev smO6 ev7 dr
    refine ac7.put hl (ev7.rep sm6 r6) e3 r7 fun o mo aco => fin _ (fun a u e n1 n2 => ?_) (fun τ E s => ?_) aco
    · rw [upd_ne n2]
      exact ev7 _ _ (ev6 _ _ e n1) n1
    · obtain ⟨u, hu, mu⟩ := ac7.mut
      exact ((s.ev ev6 sm6.cells).ev ev7 sm7.cells).turn h0n hu mu mo
theorem rsEv {L : Addr → Prop} {ρ : List Addr} {env : Env} {S : List D} {σ : L2.St} {Ha Hb : Hp} {ys : List YV} {items : List D} (sa : Sim g Lo L ρ env S σ Ha) (e : Ev ρ Ha Hb) (q : All2 (RepY g L ρ Ha) ys items) : All2 (RepY g L ρ Hb) ys items := q.imp fun y d r => by
  cases y with
  | one z => exact e.rep sa r
  | two z w => obtain ⟨p, q, e', r1, r2⟩ := r; exact ⟨p, q, e', e.rep sa r1, e.rep sa r2⟩
theorem dc_of (hnm : ∀ i ∈ tgI.names, i ∈ own.map (·.2)) : ∀ σ H Q, tE g Lo W (.fresh 1) (dcF nk fi tgI (own.map (·.2)) ft fk fv) σ H Q →
    tDcG (tI g Lo W 1 fi) (xG g tgI) (xT g ft) (tail1 (xE g (.weak 0) fk) (xE g (.weak 0) fv) (putG g nk)) (o0G g nk) (own.map (·.2)) σ H Q := by
  intro σ H Q t
  obtain ⟨L, ρ, env, S, s, h⟩ := tE_to t
  refine ⟨L, ρ, env, S, s, (Fin.bind h).imp fun items S1 H1 ⟨e1, s1, h1⟩ J hJ D0 hD => ?_⟩
  obtain ⟨ys, fp, hfp, w, rs⟩ := hJ
  have dr : D0 ∉ ρ := fun hr => s1.nlive hD (s1.inL hr)
  have hrn : ∀ a ∈ ρ, H1 a ≠ none := fun a ha e => s1.nlive e (s1.inL ha)
  have nL : ¬ L D0 := s1.nlive hD
  have h0n : Lo.H0 D0 = none := s1.old hD
  let fO := turnF tgI (own.map (·.2)) ft (kvF nk fk fv) env
  have h1 : Fin g Lo W L ρ env σ (okE g L ρ H (.fresh 1) Q) ((loopD items fO [] S1).bind (shortD nk)) H1 := h1
  let Pv : Nat → Hp → Prop := fun i H' => ∃ acc S', Sim g (Lo.more D0) (orA L D0) ρ env S' σ H' ∧ AccD g (orA L D0) ρ D0 nk H' acc ∧ Ev ρ H1 H' ∧
    Fin g Lo W L ρ env σ (okE g L ρ H (.fresh 1) Q) ((loopD (items.drop i) fO acc S').bind (shortD nk)) H1
  have mut0 : IsMut (o0G g nk D0) := by cases nk <;> exact True.intro
  have p0 : Pv 0 (upd H1 D0 (o0G g nk D0)) := ⟨[], S1, s1.begin hD mut0, .zero upd_same, Ev.new hD, by rw [List.drop_zero]; exact h1⟩
  refine ⟨fun i m H' => m = ys.length - i ∧ i ≤ ys.length ∧ Pv i H', ⟨ys.length, by simp, Nat.zero_le _, p0⟩, ?_⟩
  rintro i m H2 ⟨rfl, hi, acc, S', sm, ac, ev, hf⟩
  have hG : ∀ p ∈ fp, H2 p.1 = some p.2 := fun p hp => ev _ _ (hfp p hp).1 (hfp p hp).2
  by_cases hlt : i < ys.length
  · refine .inr ⟨w.goes i H2 hlt hG, Pv (i + 1), fun H' p' => ⟨ys.length - (i + 1), by omega, rfl, hlt, p'⟩, fun x H3 y => ?_⟩
    have y := w.yields i H2 x H3 hlt hG y
    have kp : ∀ x d, Rep g L ρ H1 x d → Rep g (orA L D0) ρ H2 x d := fun x d r => r.keep (fun a o e na => ⟨ev a o e fun hr => na (s1.inL hr), fun q => q.elim na (ne_of_none e hD)⟩) (fun a xs e => ev a _ e fun hr => s1.ntup e (s1.inL hr)) fun _ _ h => h
    have rs' : All2 (RepY g (orA L D0) ρ H2) ys items := rs.imp fun y d r => by
      cases y with
      | one z => exact kp _ _ r
      | two z w => obtain ⟨p, q, e, r1, r2⟩ := r; exact ⟨p, q, e, kp _ _ r1, kp _ _ r2⟩
    obtain ⟨d, e2, ev3, sm3, r3⟩ := rep_item sm (Ev.refl _ _) (fun _ _ r => r) rs' y
    have ac3 := ac.ev sm ev3 dr
    have ev13 := ev.trans ev3
    rw [drop_at e2] at hf
    have hne : noX (fO d S') ≠ .stuck := bind_ne (bind_ne hf.run)
    cases e3 : tgI.store d (wipeE env (own.map (·.2))) with
    | none =>
      have q : noX (turnF tgI (own.map (·.2)) ft (kvF nk fk fv) env d S') ≠ .stuck := hne
      unfold turnF at q; rw [e3] at q; exact absurd rfl q
    | some env1 =>
      refine ⟨Lo.more D0, orA L D0, ρ, _, S', d, env1, sm3.wiped _, r3, e3, fun σ2 o1 sm4 => ⟨wipe_after o1 hnm, Lo.more D0, ?_⟩⟩
      have hne' : noX (turnF tgI (own.map (·.2)) ft (kvF nk fk fv) env d S') ≠ .stuck := hne
      unfold turnF at hne'
      simp only [e3] at hne'
      refine turn_to hne' sm4 (fun S5 H5 ev5 sm5 eq => ?_) (fun S5 H5 kv S6 ev5 sm5 eq eq2 => ?_)
      · rw [if_neg Bool.false_ne_true]
        have e6 : noX (fO d S') = .ok none S5 := by
          show noX (turnF tgI (own.map (·.2)) ft (kvF nk fk fv) env d S') = _
          unfold turnF
          simp only [e3, eq]
          rfl
        unfold loopD at hf
        rw [e6] at hf
        exact ⟨acc, S5, sm3.ev ev5 sm5.cells, ac3.ev sm3 ev5 dr, ev13.trans ev5, hf⟩
      · rw [if_pos rfl]
        have e6 : noX (fO d S') = .ok (some kv) S6 := by
          show noX (turnF tgI (own.map (·.2)) ft (kvF nk fk fv) env d S') = _
          unfold turnF
          simp only [e3, eq]
          show noX ((kvF nk fk fv env1 S5).bind _) = _
          rw [eq2]
          rfl
        unfold loopD at hf
        rw [e6] at hf
        have hf7 : Fin g Lo W L ρ env σ (okE g L ρ H (.fresh 1) Q) ((loopD (items.drop (i + 1)) fO (dput acc kv.1 kv.2) S6).bind (shortD nk)) H1 := hf
        obtain ⟨out, S7, e7, l7⟩ := loopD_ok (bind_ne hf7.run)
        have hsh := hf7.run
        rw [e7] at hsh
        have l8 := (shortD_ok hsh).1
        have l9 := length_dput acc kv.1 kv.2
        have ev15 := ev13.trans ev5
        have sm5' := sm3.ev ev5 sm5.cells
        refine entry_to (by omega) h0n dr sm5' sm5 (ac3.ev sm3 ev5 dr) eq2 fun H' hk hs ac' => ?_
        exact ⟨_, S6, hs _ _ sm5', ac', fun a o e nr => hk a o (ev15 a o e nr) nr (ne_of_none e hD), hf7⟩
  · have e : i = ys.length := by omega
    subst e
    refine .inl ⟨w.stops H2 hG, ?_⟩
    have e4 : items.drop ys.length = [] := by rw [rs.length]; exact List.drop_length
    rw [e4] at hf
    have hf' : Fin g Lo W L ρ env σ (okE g L ρ H (.fresh 1) Q) (shortD nk acc S') H1 := hf
    rw [(shortD_ok hf'.run).2] at hf'
    refine hf' H2 ev (sm.done (s1.out) nL) _ ⟨_, ac.own, by simp, fun a ha => ?_, sm.cellsOr⟩
    have ea : a = D0 := by simpa using ha
    subst ea
    exact e1.none hD dr
end
end BP
end

section
set_option autoImplicit false
set_option linter.all false
set_option maxRecDepth 100000
/-! BPw: dict comprehensions of two clauses. -/
namespace BP
open PySem PySem.Spec PyProof.Rows L2
section
variable {g : Gx} {Lo : Out} {W : WX} {X : Cx} {own : List (Str × Nat)} {vs1 : List Nat} {fi fi2 : AF} {ft fk fv : EF} {tgI tgJ : Tg} {nk : Bool}
abbrev inD2 (nk : Bool) (tgJ : Tg) (vs1 : List Nat) (ft fk fv : EF) : List D → Env → List (Ky × D) → List D → Res (List (Ky × D)) := fun items env acc S => loopD items (turnF tgJ vs1 ft (kvF nk fk fv) env) acc S
theorem turnD2_mono {env : Env} : ∀ x acc S out S', turn2F tgI (own.map (·.2)) fi2 (inD2 nk tgJ vs1 ft fk fv) env x acc S = .ok out S' → acc.length ≤ out.length := by
  intro x acc S out S' h
  unfold turn2F at h
  split at h
  · rename_i envJ _
    obtain ⟨items, S1, _, h⟩ := bind_okE h
    have h' : loopD items (turnF tgJ vs1 ft (kvF nk fk fv) envJ) acc S1 = .ok out S' := h
    have hne : loopD items (turnF tgJ vs1 ft (kvF nk fk fv) envJ) acc S1 ≠ .stuck := by
      rw [h']; exact fun q => by cases q
    obtain ⟨out', S2, e, l⟩ := loopD_ok hne
    rw [e] at h'
    cases h'
    exact l
  · cases h
theorem dc2_of (hnm : ∀ i ∈ tgI.names, i ∈ own.map (·.2)) (hnm1 : ∀ i ∈ tgJ.names, i ∈ vs1) : ∀ σ H Q, tE g Lo W (.fresh 1) (dc2F nk fi tgI (own.map (·.2)) fi2 tgJ vs1 fk fv) σ H Q →
    tDcG (tI g Lo W 1 fi) (xG g tgI) tYes (tail2 (xI g 0 fi2) (xG g tgJ) (xT g yesF) (xE g (.weak 0) fk) (xE g (.weak 0) fv) (putG g nk) vs1) (o0G g nk) (own.map (·.2)) σ H Q := by
  intro σ H Q t
  obtain ⟨L, ρ, env, S, s, h⟩ := tE_to t
  refine ⟨L, ρ, env, S, s, (Fin.bind h).imp fun items S1 H1 ⟨e1, s1, h1⟩ J hJ D0 hD => ?_⟩
  obtain ⟨ys, fp, hfp, w, rs⟩ := hJ
  have dr : D0 ∉ ρ := fun hr => s1.nlive hD (s1.inL hr)
  have hrn : ∀ a ∈ ρ, H1 a ≠ none := fun a ha e => s1.nlive e (s1.inL ha)
  have nL : ¬ L D0 := s1.nlive hD
  have h0n : Lo.H0 D0 = none := s1.old hD
  let fO := turn2F tgI (own.map (·.2)) fi2 (inD2 nk tgJ vs1 yesF fk fv) env
  have h1 : Fin g Lo W L ρ env σ (okE g L ρ H (.fresh 1) Q) ((loopD2 items fO [] S1).bind (shortD nk)) H1 := h1
  let Pv : Nat → Hp → Prop := fun i H' => ∃ acc S', Sim g (Lo.more D0) (orA L D0) ρ env S' σ H' ∧ AccD g (orA L D0) ρ D0 nk H' acc ∧ Ev ρ H1 H' ∧
    Fin g Lo W L ρ env σ (okE g L ρ H (.fresh 1) Q) ((loopD2 (items.drop i) fO acc S').bind (shortD nk)) H1
  have mut0 : IsMut (o0G g nk D0) := by cases nk <;> exact True.intro
  have p0 : Pv 0 (upd H1 D0 (o0G g nk D0)) := ⟨[], S1, s1.begin hD mut0, .zero upd_same, Ev.new hD, by rw [List.drop_zero]; exact h1⟩
  refine ⟨fun i m H' => m = ys.length - i ∧ i ≤ ys.length ∧ Pv i H', ⟨ys.length, by simp, Nat.zero_le _, p0⟩, ?_⟩
  rintro i m H2 ⟨rfl, hi, acc, S', sm, ac, ev, hf⟩
  have hG : ∀ p ∈ fp, H2 p.1 = some p.2 := fun p hp => ev _ _ (hfp p hp).1 (hfp p hp).2
  by_cases hlt : i < ys.length
  · refine .inr ⟨w.goes i H2 hlt hG, Pv (i + 1), fun H' p' => ⟨ys.length - (i + 1), by omega, rfl, hlt, p'⟩, fun x H3 y => ?_⟩
    have y := w.yields i H2 x H3 hlt hG y
    have kp : ∀ x d, Rep g L ρ H1 x d → Rep g (orA L D0) ρ H2 x d := fun x d r => r.keep (fun a o e na => ⟨ev a o e fun hr => na (s1.inL hr), fun q => q.elim na (ne_of_none e hD)⟩) (fun a xs e => ev a _ e fun hr => s1.ntup e (s1.inL hr)) fun _ _ h => h
    have rs' : All2 (RepY g (orA L D0) ρ H2) ys items := rs.imp fun y d r => by
      cases y with
      | one z => exact kp _ _ r
      | two z w => obtain ⟨p, q, e, r1, r2⟩ := r; exact ⟨p, q, e, kp _ _ r1, kp _ _ r2⟩
    obtain ⟨d, e2, ev3, sm3, r3⟩ := rep_item sm (Ev.refl _ _) (fun _ _ r => r) rs' y
    have ac3 := ac.ev sm ev3 dr
    have ev13 := ev.trans ev3
    rw [drop_at e2] at hf
    unfold loopD2 at hf
    have hne : noX (fO d acc S') ≠ .stuck := bind_ne (bind_ne hf.run)
    obtain ⟨accO, SO, eO⟩ := noX_ok hne
    rw [eO] at hf
    have hf : Fin g Lo W L ρ env σ (okE g L ρ H (.fresh 1) Q) ((loopD2 (items.drop (i + 1)) fO accO SO).bind (shortD nk)) H1 := hf
    obtain ⟨out, S7, e7, l7⟩ := loopD2_ok turnD2_mono (bind_ne hf.run)
    have l8 : out.length < lim := by
      have hsh := hf.run
      rw [e7] at hsh
      exact (shortD_ok hsh).1
    cases e3 : tgI.store d (wipeE env (own.map (·.2))) with
    | none =>
      have eO' : turn2F tgI (own.map (·.2)) fi2 (inD2 nk tgJ vs1 yesF fk fv) env d acc S' = .ok accO SO := eO
      unfold turn2F at eO'
      rw [e3] at eO'
      cases eO'
    | some env1 =>
      have eO' : (fi2 env1 S').bind (fun items2 S => inD2 nk tgJ vs1 yesF fk fv items2 env1 acc S) = .ok accO SO := by
        have q : turn2F tgI (own.map (·.2)) fi2 (inD2 nk tgJ vs1 yesF fk fv) env d acc S' = .ok accO SO := eO
        unfold turn2F at q
        simp only [e3] at q
        exact q
      obtain ⟨items2, S4, eI, eL⟩ := bind_okE eO'
      refine ⟨Lo.more D0, orA L D0, ρ, _, S', d, env1, sm3.wiped _, r3, e3, fun σ2 o1 sm4 => ⟨wipe_after o1 hnm, ?_⟩⟩
      show ∃ Lo', tI g Lo' WF 0 fi2 σ2 H3 _
      refine ⟨Lo.more D0, orA L D0, ρ, env1, S', sm4, ?_⟩
      rw [eI]
      intro H4 ev4 sm4' J1 hJ1
      obtain ⟨ys1, fp1, hfp1, w1, rs1⟩ := hJ1
      have smA := sm3.ev ev4 sm4'.cells
      have acA := ac3.ev sm3 ev4 dr
      have evA := ev13.trans ev4
      have fpD : ∀ p ∈ fp1, p.1 ≠ D0 ∧ p.1 ∉ ρ := fun p hp => ⟨fun e => (hfp1 p hp).2 (.inr e), fun hr => (hfp1 p hp).2 (sm4'.inL hr)⟩
      let Pv1 : Nat → Hp → Prop := fun j H' => ∃ acc S', Sim g (Lo.more D0) (orA L D0) ρ env S' σ H' ∧ Sim g (Lo.more D0) (orA L D0) ρ env1 S' σ2 H' ∧ AccD g (orA L D0) ρ D0 nk H' acc ∧ Ev ρ H1 H' ∧ (∀ p ∈ fp1, H' p.1 = some p.2) ∧
        All2 (RepY g (orA L D0) ρ H') ys1 items2 ∧ inD2 nk tgJ vs1 yesF fk fv (items2.drop j) env1 acc S' = .ok accO SO
      refine ⟨fun j k H' => k = ys1.length - j ∧ j ≤ ys1.length ∧ Pv1 j H', ⟨ys1.length, by simp, Nat.zero_le _, acc, S4, smA, sm4', acA, evA, fun p hp => (hfp1 p hp).1, rs1, by rw [List.drop_zero]; exact eL⟩, ?_⟩
      rintro j k H5 ⟨rfl, hj, acc5, S5, smO, smI, ac5, ev5, hG1, rs5, eq5⟩
      by_cases hlt1 : j < ys1.length
      · refine .inr ⟨w1.goes j H5 hlt1 hG1, Pv1 (j + 1), fun H' p' => ⟨ys1.length - (j + 1), by omega, rfl, hlt1, p'⟩, fun x1 H6 y1 => ?_⟩
        have y1 := w1.yields j H5 x1 H6 hlt1 hG1 y1
        obtain ⟨d1, ed, ev6, smI6, r6⟩ := rep_item smI (Ev.refl _ _) (fun _ _ r => r) rs5 y1
        have smO6 := smO.ev ev6 smI6.cells
        have ac6 := ac5.ev smO ev6 dr
        have ev16 := ev5.trans ev6
        rw [drop_at ed] at eq5
        have eq5 : (noX (turnF tgJ vs1 yesF (kvF nk fk fv) env1 d1 S5)).bind (fun o S => match o with | some kv => loopD (items2.drop (j + 1)) (turnF tgJ vs1 yesF (kvF nk fk fv) env1) (dput acc5 kv.1 kv.2) S | none => loopD (items2.drop (j + 1)) (turnF tgJ vs1 yesF (kvF nk fk fv) env1) acc5 S) = .ok accO SO := eq5
        have hne5 : noX (turnF tgJ vs1 yesF (kvF nk fk fv) env1 d1 S5) ≠ .stuck := fun q => by rw [q] at eq5; cases eq5
        have rs6 := rsEv smO ev6 rs5
        cases e8 : tgJ.store d1 (wipeE env1 vs1) with
        | none => unfold turnF at hne5; rw [e8] at hne5; exact absurd rfl hne5
        | some env2 =>
          refine ⟨Lo.more D0, orA L D0, ρ, _, S5, d1, env2, smI6.wiped _, r6, e8, fun σ3 o3 sm7 => ⟨wipe_after o3 hnm1, Lo.more D0, ?_⟩⟩
          have hne' := hne5
          unfold turnF at hne'
          simp only [e8] at hne'
          refine turn_to hne' sm7 (fun S9 H9 ev9 sm9 eq => by cases eq) (fun S9 H9 kv S10 ev9 sm9 eq eq2 => ?_)
          rw [if_pos rfl]
          have smO9 := smO6.ev ev9 sm9.cells
          have smI9 := smI6.ev ev9 sm9.cells
          have ev19 := ev16.trans ev9
          have e9 : noX (turnF tgJ vs1 yesF (kvF nk fk fv) env1 d1 S5) = .ok (some kv) S10 := by
            unfold turnF
            simp only [e8, eq]
            show noX ((kvF nk fk fv env2 S9).bind _) = _
            rw [eq2]
            rfl
          rw [e9] at eq5
          have eq5' : loopD (items2.drop (j + 1)) (turnF tgJ vs1 yesF (kvF nk fk fv) env1) (dput acc5 kv.1 kv.2) S10 = .ok accO SO := eq5
          have l9 : acc5.length < lim := by
            have hne9 : loopD (items2.drop (j + 1)) (turnF tgJ vs1 yesF (kvF nk fk fv) env1) (dput acc5 kv.1 kv.2) S10 ≠ .stuck := by rw [eq5']; exact fun q => by cases q
            obtain ⟨o, S', eo, lo⟩ := loopD_ok hne9
            rw [eq5'] at eo
            cases eo
            have := length_dput acc5 kv.1 kv.2
            omega
          refine entry_to l9 h0n dr smO9 sm9 (ac6.ev smO6 ev9 dr) eq2 fun H' hk hs ac' => ?_
          have rs9 := rsEv smO6 ev9 rs6
          have nD : ∀ {x : V} {d : D}, Rep g (orA L D0) ρ H9 x d → Rep g (orA L D0) ρ H' x d := fun r => r.keep (fun a o e na => ⟨hk a o e (fun hr => na (smO9.inL hr)) fun q => na (.inr q), na⟩) (fun a xs e => hk a _ e (fun hr => smO9.ntup e (smO9.inL hr)) fun q => smO9.ntup e (.inr q)) fun _ _ h => h
          refine ⟨_, S10, hs _ _ smO9, hs _ _ smI9, ac', fun a o e nr => hk a o (ev19 a o e nr) nr (ne_of_none e hD), fun p hp => ?_, rs9.imp fun y d r => ?_, eq5'⟩
          · exact hk _ _ (ev9 _ _ (ev6 _ _ (hG1 p hp) (fpD p hp).2) (fpD p hp).2) (fpD p hp).2 (fpD p hp).1
          · cases y with
            | one z => exact nD r
            | two z w => obtain ⟨p, q, e', r1, r2⟩ := r; exact ⟨p, q, e', nD r1, nD r2⟩
      · have e10 : j = ys1.length := by omega
        subst e10
        have e11 : items2.drop ys1.length = [] := by rw [rs5.length]; exact List.drop_length
        rw [e11] at eq5
        cases (show Res.ok _ _ = Res.ok accO SO from eq5)
        exact .inl ⟨w1.stops H5 hG1, _, _, smO, ac5, ev5, hf⟩
  · have e : i = ys.length := by omega
    subst e
    refine .inl ⟨w.stops H2 hG, ?_⟩
    have e4 : items.drop ys.length = [] := by rw [rs.length]; exact List.drop_length
    rw [e4] at hf
    have hf' : Fin g Lo W L ρ env σ (okE g L ρ H (.fresh 1) Q) (shortD nk acc S') H1 := hf
    rw [(shortD_ok hf'.run).2] at hf'
    refine hf' H2 ev (sm.done (s1.out) nL) _ ⟨_, ac.own, by simp, fun a ha => ?_, sm.cellsOr⟩
    have ea : a = D0 := by simpa using ha
    subst ea
    exact e1.none hD dr
end
end BP
end

section
set_option autoImplicit false
set_option linter.all false
set_option maxRecDepth 100000
/-! BPx: dict displays. -/
namespace BP
open PySem PySem.Spec PyProof.Rows L2
section
variable {g : Gx} {Lo : Out} {W : WX} {X : Cx} {a b c kx vx : Expr} {pos : Pos} {fa fb fc fk fv : EF} {nk : Bool}
theorem newAt {L : Addr → Prop} {ρ : List Addr} {env : Env} {S : List D} {σ : L2.St} {H0 H1 : Hp} {Q : VK} {o : HO} {v : D} {n : Nat} {p : Addr} (s : Sim g Lo L ρ env S σ H1) (e : Ev ρ H0 H1) (h : Fin g Lo W L ρ env σ (okE g L ρ H0 (.fresh n) Q) (.ok v S) H1) (hp : H1 p = none)
    (own : ∃ A, OwnR g (orL L A) ρ (upd H1 p o) n A (.ref p) v ∧ A.Nodup ∧ ∀ a ∈ A, a = p) : Q (.ref p) (upd H1 p o) := by
  obtain ⟨A, h1, h2, h3⟩ := own
  have np : p ∉ ρ := fun hr => s.nlive hp (s.inL hr)
  refine h (upd H1 p o) (Ev.new hp) (s.new hp) (.ref p) ⟨A, h1, h2, fun a ha => ?_, s.newCells hp h3⟩
  rw [h3 a ha]
  exact e.none hp np
theorem s_dct0 (xg : Xg g X) : PEm g Lo W X (.fresh 1) (.Dict [] [] pos) (conF (.dct nk [])) := by
  have hP := xg.prog; have hw := xg.w
  cases nk with
  | false =>
    refine PE.sub pe_dnewK fun σ H Q h => ?_
    obtain ⟨L, ρ, env, S, s, h⟩ := tE_to h
    exact fun p hp => newAt s (.refl _ _) h hp ⟨[p], .dK upd_same .nil, by simp, fun a ha => by simpa using ha⟩
  | true =>
    refine PE.sub pe_dnewN fun σ H Q h => ?_
    obtain ⟨L, ρ, env, S, s, h⟩ := tE_to h
    refine fun p hp => newAt s (.refl _ _) h hp ⟨[p], ?_, by simp, fun a ha => by simpa using ha⟩
    rw [hP, hw]
    exact .dN upd_same (fun e he => by simp at he) .nil
/-- {k: v}, k a tuple, by values -/
def tD1N (P : Program) (w : World) (tk tv : TE) : TE := fun σ H Q => ∀ p, H p = none → tk σ (upd H p (dN P w p [])) fun y H1 => tv σ H1 fun z H2 => H2 p = some (dN P w p []) ∧
  ∃ (k : Ky) (b : Addr), y = .ref b ∧ NK H2 (.ref b) k ∧ k.depth ≤ 8 ∧ Q (.ref p) (upd H2 p (dN P w p [(k, b, z)]))
theorem pe_d1N (hu : X.A.units + 200 < cLine) {tk tv : TE} (hk : PE X kx tk) (hv : PE X vx tv) : PE X (.Dict [some kx] [vx] pos) (tD1N X.prog X.w tk tv) := by
  refine ⟨fun pins s σ H Q I h => ?_⟩
  have hn := I.hok.fresh (Nat.le_refl s.heap.objs.size)
  have I1 := I.laid (a := s.heap.objs.size) (o := dN X.prog X.w s.heap.objs.size []) (h' := s.heap.push { cls := .type "dict", data := .dict #[] }) (t' := s.toks) (fun _ _ q => Heap.get?_push_of_some _ q) (Nat.le_refl _)
    (dn_new (Nat.zero_le _) (beq_eq_false_iff_ne.mpr (Ne.symm (Nat.ne_of_lt I.big))) .nil (Heap.DictOfH.new s.heap))
  have hl := pairTrees_length [some kx] [vx] X.env pos rfl rfl
  have h0 : pairTrees [some kx] [vx] X.env pos ≠ [] := fun e => by rw [e] at hl; cases hl
  rw [arm_eval_Dict, zip_pairTrees [some kx] [vx] X.env pos rfl rfl, dictDisplay_pairs _ h0 (by rw [hl]; show 1 < 17; decide)]
  refine wpAny_bind (wpAny_standAt (wpAny_bind (wpAny_subDictH (knd := nestedKind X.prog X.w) (Q := fun d s' => wpAny (model X.prog X.w) X.A (pure (Value.ref d)) (EP X pins σ Q) X.xe s') (show X.A.units + 8 < cLine by omega) (by rw [hl]; show 1 ≤ 15; decide) ?_)))
  refine pairTrees_cons_walk (thn (hk.run pins _ σ _ _ I1 (h _ hn)) fun u s1 ⟨y, H1, I2, r1, q1⟩ => thn (hv.run pins s1 σ H1 _ I2 q1) fun r s2 ⟨z, H2, I3, r2, hD, k, b, ey, n1, n2, q2⟩ => pairTrees_nil_walk ?_)
  subst ey
  obtain rfl : u = Value.ref b := r1
  obtain ⟨_, hd, xs, rx, dd⟩ := dn_at I3 hD (fun e he => by simp at he)
  cases rx
  refine ⟨[(k, b, r)], ⟨rfl, rfl, ⟨nk_is I3 n1 rfl, n2⟩, True.intro⟩, dd, fun h' tk dd' hs => wpAny_pure ⟨.ref s.heap.objs.size, _, ?_, rfl, q2⟩⟩
  exact n_write I3 hD hd (by show 1 ≤ sizeLine; rw [sizeLine_eq]; omega) (.cons ⟨rfl, rfl, r2⟩ .nil) dd' hs
theorem XRep.off {L : Addr → Prop} {ρ : List Addr} {H : Hp} {D0 : Addr} {d : Option Addr} {fs : List D} (x : XRep g (orA L D0) ρ H d fs) : XRep g L ρ H d fs := by
  rcases x with x | ⟨a, xs, h1, h2, h3⟩
  · exact .inl x
  · exact .inr ⟨a, xs, h1, h2, h3.1.imp fun _ _ r => r.keep keep_off (fun _ _ h => h) fun _ _ h => h, h3.2⟩
/-- one more live thing is there for a while -/
theorem Fin.enter {α : Type} {L : Addr → Prop} {ρ : List Addr} {env : Env} {σ : L2.St} {ok : α → List D → Hp → Prop} {r : Res α} {H H1 : Hp} {p : Addr} (h : Fin g Lo W L ρ env σ ok r H) (e0 : Ev ρ H H1) (inl : ∀ a, Lo.lo a → L a) (nL : ¬ L p) :
    Fin g (Lo.more p) W (orA L p) ρ env σ (fun v S' H' => Sim g (Lo.more p) (orA L p) ρ env S' σ H' ∧ Ev ρ H H' ∧ ok v S' H') r H1 := by
  cases r with
  | ok v S' => exact fun H' e s => ⟨s, e0.trans e, h H' (e0.trans e) (s.done inl nL)⟩
  | exc c fs S' => exact fun d H' e s x => h d H' (e0.trans e) (s.done inl nL) x.off
  | stuck => exact h
/-- .. the rest, still told from the start -/
theorem Fin.bindS {α β : Type} {L : Addr → Prop} {ρ : List Addr} {env : Env} {σ : L2.St} {H : Hp} {ok : β → List D → Hp → Prop} {r : Res α} {f : α → List D → Res β} (h : Fin g Lo W L ρ env σ ok (r.bind f) H) : Fin g Lo W L ρ env σ (fun v S' _ => Fin g Lo W L ρ env σ ok (f v S') H) r H := by
  cases r with
  | ok v S' => exact fun H1 e1 s1 => h
  | exc c fs S' => exact h
  | stuck => exact h
/-- a dict display of one pair -/
theorem d1_main (hk : True) (σ : L2.St) (H : Hp) (Q : VK) (p : Addr) (t : tE g Lo W (.fresh 1) (dct1F nk fk fv) σ H Q) (hp : H p = none) (R : V → V → Hp → Prop)
    (hR : ∀ L ρ (y z : V) (kd vd : D) (k : Ky) (H2 : Hp), Rep g (orA L p) ρ H2 y kd → kd.ky nk = some k → Rep g (orA L p) ρ H2 z vd → H2 p = some (o0G g nk p) →
        (∀ o, IsMut o → AccD g (orA L p) ρ p nk (upd H2 p o) [(k, vd)] → Q (.ref p) (upd H2 p o)) → R y z H2) :
    ∃ Lo', tE g Lo' W (.weak 0) fk σ (upd H p (o0G g nk p)) fun y H1 => ∃ Lo', tE g Lo' W (.weak 0) fv σ H1 fun z H2 => R y z H2 := by
  obtain ⟨L, ρ, env, S, s, h⟩ := tE_to t
  have mut0 : IsMut (o0G g nk p) := by cases nk <;> exact True.intro
  have pr : p ∉ ρ := fun hr => s.nlive hp (s.inL hr)
  have nL : ¬ L p := s.nlive hp
  have h0n := s.old hp
  have s0 := s.begin hp mut0
  have e0 : Ev ρ H (upd H p (o0G g nk p)) := Ev.new hp
  refine ⟨Lo.more p, tE_of s0 ((Fin.enter (Fin.bindS h) e0 s.out nL).base s0 fun kd S1 H1 e1 ⟨s1, e01, h1⟩ y ry => ?_)⟩
  refine ⟨Lo.more p, tE_of s1 ((Fin.enter (Fin.bindS h1) e01 s.out nL).base s1 fun vd S2 H2 e2 ⟨s2, e02, h2⟩ z rz => ?_)⟩
  cases e3 : kd.ky nk with
  | none => rw [e3] at h2; exact h2.elim
  | some k =>
    rw [e3] at h2
    have h2' : Fin g Lo W L ρ env σ (okE g L ρ H (.fresh 1) Q) (.ok (.dct nk [(k, vd)]) S2) H := h2
    refine hR L ρ y z kd vd k H2 (e2.rep s1 ry) e3 rz (e2 _ _ (e1 _ _ upd_same pr) pr) fun o mo ac => ?_
    have s3 := s2.turn h0n (e2 _ _ (e1 _ _ upd_same pr) pr) mut0 mo
    have e3 : Ev ρ H (upd H2 p o) := fun a u e nr => by rw [upd_ne (ne_of_none e hp)]; exact e02 a u e nr
    exact h2' _ e3 (s3.done s.out nL) _ ⟨[p], ac.own, by simp, (fun a ha => by have := List.mem_singleton.mp ha; subst this; exact hp), s3.cellsOr⟩
theorem rep_upd {L : Addr → Prop} {ρ : List Addr} {H : Hp} {p : Addr} {o u : HO} (h : H p = some u) (mu : IsMut u) {x : V} {d : D} (r : Rep g (orA L p) ρ H x d) : Rep g (orA L p) ρ (upd H p o) x d :=
  r.keep (fun a w e na => ⟨by rw [upd_ne (fun q => na (.inr q))]; exact e, na⟩) (fun a xs e => by rw [upd_ne (fun q => by rw [q, h] at e; cases e; exact mu)]; exact e) fun _ _ h => h
theorem s_d1 (xg : Xg g X) (hk : ∀ Lo, PEm g Lo W X (.weak 0) kx fk) (hv : ∀ Lo, PEm g Lo W X (.weak 0) vx fv) : PEm g Lo W X (.fresh 1) (.Dict [some kx] [vx] pos) (dct1F nk fk fv) := by
  have hP := xg.prog; have hw := xg.w
  cases nk with
  | false =>
    refine PE.sub (pe_disp (pps_cons (PE.ex hk) (PE.ex hv) pps_nil) rfl rfl (by simp) (by simp)) fun σ H Q h p hp => ?_
    refine d1_main True.intro σ H Q p h hp _ fun L ρ y z kd vd k H2 ry ek rz hD q => ?_
    obtain ⟨j, rfl, rfl⟩ := key_kv ry ek
    refine ⟨hD, [(j, z)], rfl, by simp, q _ True.intro ?_⟩
    exact ⟨[(j, z)], upd_same, .cons ⟨rfl, rep_upd hD True.intro rz⟩ .nil⟩
  | true =>
    refine PE.sub (pe_d1N xg.hu (PE.ex hk) (PE.ex hv)) fun σ H Q h p hp => ?_
    rw [hP, hw]
    refine d1_main (nk := true) True.intro σ H Q p h hp _ fun L ρ y z kd vd k H2 ry ek rz hD q => ?_
    obtain ⟨b, rfl, n1, n2⟩ := key_nk ry ek
    refine ⟨hD, k, b, rfl, n1, n2, q _ True.intro ?_⟩
    have tk : TupK H2 (upd H2 p (dN g.P g.w p [(k, b, z)])) := fun a xs e => by
      rw [upd_ne (fun q => by rw [q, hD] at e; cases e)]; exact e
    exact ⟨[(k, b, z)], upd_same, fun e he => by rw [List.mem_singleton.mp he]; exact ⟨n1.keep tk, n2⟩, .cons ⟨rfl, rep_upd hD True.intro rz⟩ .nil⟩
end
end BP
end

section
set_option autoImplicit false
set_option linter.all false
set_option maxRecDepth 100000
/-! BPy: the checker of expressions, and that what it passes keeps its promise. -/
namespace BP
open PySem PySem.Spec PyProof.Rows L2

inductive GV where
  | fn (i : Nat) | cls (i : Nat) | con (v : D) | blt | exc (i : Nat)
structure Ck where
  N : List Str
  gl : List (Str × GV)
  fl : List (List Str)
  fd : List Nat
def Ck.look (c : Ck) (x : Str) : Option GV := c.gl.lookup x
/-- a global name of the scope -/
def glb (sc : Scope) (x : Str) : Bool := match sc.names.lookup x with
  | some .globalImplicit => true
  | _ => false
def Ck.isFn (c : Ck) (sc : Scope) (x : Str) (i : Nat) : Bool := glb sc x && (match c.look x with
  | some (.fn j) => j == i
  | _ => false)
def Ck.isCls (c : Ck) (sc : Scope) (x : Str) (i : Nat) : Bool := glb sc x && (match c.look x with
  | some (.cls j) => j == i
  | _ => false)
def Ck.isBlt (c : Ck) (sc : Scope) (x : Str) : Bool := glb sc x && (match c.look x with
  | some .blt => true
  | _ => false)
def Ck.isCon (c : Ck) (sc : Scope) (x : Str) (n : Int) : Bool := glb sc x && (match c.look x with
  | some (.con (.int m)) => m == n
  | _ => false)
def varOk (c : Ck) (sc : Scope) (i : Nat) (x : Str) : Bool := decide (c.N[i]? = some x) && (match sc.names.lookup x with
  | some .local => true
  | some .cell => true
  | some .free => true
  | _ => false) && !(x == ("__debug__" : Str)) && !(x == ("__classdict__" : Str))
def ownOf (c : Ck) (own : List Nat) : List (Str × Nat) := own.map fun i => (c.N.getD i "", i)
def notSet : Expr → Bool
  | .Set _ _ _ => false
  | _ => true
def conOk : D → Const → Bool
  | .int n, .int m => decide (n = m)
  | .bl a, .bool b => a == b
  | .non, .none => true
  | .str x, .str y => decide (x = y)
  | _, _ => false
/-- what a new thing may be taken for -/
def okM : Mode → Bool
  | .weak _ => true
  | .fresh n => decide (n ≤ 1)
/-- what stands may be taken for -/
def okZ : Mode → Bool
  | .weak _ => true
  | .fresh n => decide (n = 0)
/-- what a def's result may be taken for -/
def okF (d : Nat) (m : Mode) : Bool := match m with
  | .weak _ => true
  | .fresh n => decide (n = d)
def Mode.more : Mode → Mode
  | .weak n => .weak (n + 1)
  | .fresh _ => .weak 1
/-- what is had, d levels live -/
def Mode.has : Mode → Nat → Bool
  | .weak n, d => decide (d ≤ n)
  | .fresh n, d => decide (d = 0) && decide (n = 0)
def elM : Mode → Mode
  | .fresh (n + 1) => .fresh n
  | _ => .fresh 0
def lcM : Mode → Bool
  | _ => true
def tyNames (sc : Scope) (c : Ck) : List Ty → List Expr → Bool
  | [], [] => true
  | t :: ts, .Name x _ :: es => decide (x = tyS t) && tyB t && c.isBlt sc x && tyNames sc c ts es
  | _, _ => false
def bopOk (o : Bop) (op : Operator) : Bool := match o, op with
  | .add, .Add => true | .sub, .Sub => true | .mul, .Mult => true | .fdiv, .FloorDiv => true | .mod, .Mod => true | .pow, .Pow => true | .xor, .BitXor => true
  | _, _ => false
def copOk (o : Cop) (op : CmpOp) : Bool := match o, op with
  | .eq, .Eq => true | .ne, .NotEq => true | .lt, .Lt => true | .le, .LtE => true | .gt, .Gt => true | .ge, .GtE => true | .is_, .Is => true | .isNot, .IsNot => true | .in_, .In => true | .notIn, .NotIn => true
  | _, _ => false
theorem bop_eq {o : Bop} {op : Operator} (h : bopOk o op = true) : op = opA o := by cases o <;> cases op <;> first | rfl | cases h
theorem cop_eq {o : Cop} {op : CmpOp} (h : copOk o op = true) : op = cmpA o := by cases o <;> cases op <;> first | rfl | cases h

mutual
/-- as a value -/
def Ex.ck (c : Ck) (e : Ex) (sc : Scope) (m : Mode) (x : Expr) : Bool := match e with
  | .var i => (match x with
    | .Name x _ => varOk c sc i x && okZ m
    | _ => false)
  | .peek i d => (match x with
    | .Name x _ => varOk c sc i x && m.has d
    | _ => false)
  | .con v => (match x with
    | .Constant k _ _ => conOk v k && okM m
    | _ => false)
  | .glob y v => (match v, x with
    | .int n, .Name x _ => decide (x = y) && c.isCon sc x n && !(x == ("__debug__" : Str)) && okM m
    | _, _ => false)
  | .bin o a b => (match x with
    | .BinOp x op y _ => bopOk o op && a.ck c sc (.weak 1) x && b.ck c sc (.weak 1) y && okM m
    | _ => false)
  | .neg a => (match x with
    | .UnaryOp .USub x _ => a.ck c sc (.weak 0) x && okM m
    | _ => false)
  | .not a => (match x with
    | .UnaryOp .Not x _ => a.ck c sc (.weak 0) x && okM m
    | _ => false)
  | .and a b => (match x with
    | .BoolOp .And [x, y] _ => a.ck c sc (.weak 0) x && okM m && b.ck c sc m y
    | .BoolOp .And (x :: y :: z :: r) p => a.ck c sc (.weak 0) x && okM m && b.ck c sc m (.BoolOp .And (y :: z :: r) p)
    | _ => false)
  | .or a b => (match x with
    | .BoolOp .Or [x, y] _ => a.ck c sc (.weak 0) x && okM m && b.ck c sc m y
    | .BoolOp .Or (x :: y :: z :: r) p => a.ck c sc (.weak 0) x && okM m && b.ck c sc m (.BoolOp .Or (y :: z :: r) p)
    | _ => false)
  | .cmp o a b => (match x with
    | .Compare x [op] [y] _ => copOk o op && a.ck c sc (.weak 2) x && b.ck c sc (.weak 2) y && !behindInMarks op y && okM m
    | _ => false)
  | .chain o o' a b d => (match x with
    | .Compare x [op, op'] [y, z] _ => copOk o op && copOk o' op' && a.ck c sc (.weak 0) x && b.ck c sc (.weak 0) y && d.ck c sc (.weak 0) z && !lastMarks [op, op'] [y, z] && okM m
    | _ => false)
  | .ife t a b => (match x with
    | .IfExp x y z _ => (t.ckT c sc x || (plainT x && t.ck c sc (.weak 2) x)) && a.ck c sc m y && b.ck c sc m z && okM m
    | _ => false)
  | .call f as => (match x with
    | .Call (.Name x _) es [] _ => c.isFn sc x f && !(x == ("__debug__" : Str)) && as.ck c sc 0 es && es.all plainE && okF (c.fd.getD f 0) m
    | _ => false)
  | .make i as => (match x with
    | .Call (.Name x _) (e :: es) [] _ => c.isCls sc x i && !(x == ("__debug__" : Str)) && as.ck c sc 0 (e :: es) && (e :: es).all plainE && okM m
    | _ => false)
  | .bi b as => (match x with
    | .Call (.Name x _) (e :: es) [] _ => decide (x = biS b) && c.isBlt sc x && as.ck c sc (biN b) (e :: es) && (e :: es).all plainE && okM m && (match b with | .repr | .dictP _ => false | _ => true)
    | _ => false)
  | .isi a ts one => (match one, ts, x with
    | true, [t], .Call (.Name x _) [y, .Name z _] [] _ => decide (x = "isinstance") && c.isBlt sc x && decide (z = tyS t) && tyB t && c.isBlt sc z && a.ck c sc (.weak 1) y && plainE y && okM m
    | false, t :: ts, .Call (.Name x _) [y, .Tuple es _ _] [] _ => decide (x = "isinstance") && c.isBlt sc x && decide ((t :: ts).length ≤ 20) && tyNames sc c (t :: ts) es && a.ck c sc (.weak 1) y && plainE y && okM m
    | _, _, _ => false)
  | .idx a b => (match x with
    | .Subscript x y _ => a.ck c sc m.more x && b.ck c sc (.weak 0) y && notSlice y && okZ m
    | _ => false)
  | .slice a lo hi => (match x with
    | .Subscript x (.Slice l h none _) _ => a.ck c sc (.weak 1) x && lo.ckO c sc l && hi.ckO c sc h && okM m
    | _ => false)
  | .rev a => (match x with
    | .Subscript x (.Slice none none (some (.UnaryOp .USub (.Constant (.int 1) _ _) _)) _) _ => a.ck c sc (.weak 1) x && okM m
    | _ => false)
  | .fld a ci fi => (match x with
    | .Attribute x f _ => decide ((c.fl.getD ci [])[fi]? = some f) && a.ck c sc (.weak 0) x && !isSuperCall x && okZ m
    | _ => false)
  | .get a k d => (match x with
    | .Call (.Attribute x f ap) [y, z] [] p => decide (f = "get") && (ap.endLine == p.line) && !isSuperCall x && plainE y && plainE z && a.ck c sc (.weak 1) x && k.ck c sc (.weak 0) y && d.ck c sc (.weak 0) z && okZ m
    | _ => false)
  | .tup es => (match x with
    | .Tuple xs _ _ => es.ck c sc 0 xs && xs.all plainE && okM m
    | _ => false)
  | .lst es => (match x with
    | .List xs _ => es.ck c sc 0 xs && xs.all plainE && okM m
    | _ => false)
  | .dct0 _ => (match x with
    | .Dict [] [] _ => okM m
    | _ => false)
  | .dct1 _ k v => (match x with
    | .Dict [some x] [y] _ => k.ck c sc (.weak 0) x && v.ck c sc (.weak 0) y && okM m
    | _ => false)
  | .rg1 a => (match x with
    | .Call (.Name x _) [.Call (.Name y _) [z] [] _] [] _ => decide (x = "list") && c.isBlt sc x && decide (y = "range") && c.isBlt sc y && a.ck c sc (.weak 0) z && plainE z && okM m
    | _ => false)
  | .rg2 a b => (match x with
    | .Call (.Name x _) [.Call (.Name y _) [z, w] [] _] [] _ => decide (x = "list") && c.isBlt sc x && decide (y = "range") && c.isBlt sc y && a.ck c sc (.weak 0) z && b.ck c sc (.weak 0) w && plainE z && plainE w && okM m
    | _ => false)
  | .dictZip _ _ _ => false
  | .lc elt tg it ifs own => (match x with
    | .ListComp x [⟨t, i, cs, 0⟩] s _ => it.ck c sc 1 t i && notSet i && blkC c.N sc s (ownOf c own) && tg.names.all (own.contains ·) && tg.ck c.N s t && ifs.ckT c s cs && elt.ck c s (elM m) x && lcM m
    | _ => false)
  | .lc2 elt tg it tg2 it2 ifs2 own own2 => (match x with
    | .ListComp x [⟨t, i, [], 0⟩, ⟨t2, i2, cs2, 0⟩] s _ => it.ck c sc 1 t i && notSet i && notSet i2 && blkC c.N sc s (ownOf c own) && tg.names.all (own.contains ·) && tg2.names.all (own2.contains ·) && own2.all (own.contains ·) &&
      tg.ck c.N s t && tg2.ck c.N s t2 && it2.ck c s 0 t2 i2 && ifs2.ckT c s cs2 && elt.ck c s (elM m) x && lcM m
    | _ => false)
  | .dc _ k v tg it ifs own => (match x with
    | .DictComp x y [⟨t, i, cs, 0⟩] s _ => it.ck c sc 1 t i && notSet i && blkC c.N sc s (ownOf c own) && tg.names.all (own.contains ·) && tg.ck c.N s t && ifs.ckT c s cs && k.ck c s (.weak 0) x && v.ck c s (.weak 0) y && okM m
    | _ => false)
  | .dc2 _ k v tg it tg2 it2 own own2 => (match x with
    | .DictComp x y [⟨t, i, [], 0⟩, ⟨t2, i2, [], 0⟩] s _ => it.ck c sc 1 t i && notSet i && notSet i2 && blkC c.N sc s (ownOf c own) && tg.names.all (own.contains ·) && tg2.names.all (own2.contains ·) && own2.all (own.contains ·) &&
      tg.ck c.N s t && tg2.ck c.N s t2 && it2.ck c s 0 t2 i2 && k.ck c s (.weak 0) x && v.ck c s (.weak 0) y && okM m
    | _ => false)
/-- as a test -/
def Ex.ckT (c : Ck) (e : Ex) (sc : Scope) (x : Expr) : Bool := match e with
  | .not a => (match x with
    | .UnaryOp .Not x _ => (a.ckT c sc x || (plainT x && a.ck c sc (.weak 2) x))
    | _ => false)
  | .and a b => (match x with
    | .BoolOp .And [x, y] _ => (a.ckT c sc x || (plainT x && a.ck c sc (.weak 2) x)) && (b.ckT c sc y || (plainT y && b.ck c sc (.weak 2) y))
    | .BoolOp .And (x :: y :: z :: r) p => (a.ckT c sc x || (plainT x && a.ck c sc (.weak 2) x)) && b.ckT c sc (.BoolOp .And (y :: z :: r) p)
    | _ => false)
  | .or a b => (match x with
    | .BoolOp .Or [x, y] _ => (a.ckT c sc x || (plainT x && a.ck c sc (.weak 2) x)) && (b.ckT c sc y || (plainT y && b.ck c sc (.weak 2) y))
    | .BoolOp .Or (x :: y :: z :: r) p => (a.ckT c sc x || (plainT x && a.ck c sc (.weak 2) x)) && b.ckT c sc (.BoolOp .Or (y :: z :: r) p)
    | _ => false)
  | .cmp o a b => (match x with
    | .Compare x [op] [y] _ => copOk o op && a.ck c sc (.weak 2) x && b.ck c sc (.weak 2) y && !behindInMarks op y
    | _ => false)
  | .chain o o' a b d => (match x with
    | .Compare x [op, op'] [y, z] _ => copOk o op && copOk o' op' && a.ck c sc (.weak 0) x && b.ck c sc (.weak 0) y && d.ck c sc (.weak 0) z && !lastMarks [op, op'] [y, z]
    | _ => false)
  | _ => false
def Exs.ck (c : Ck) (es : Exs) (sc : Scope) (n : Nat) (xs : List Expr) : Bool := match es with
  | .nil => xs.isEmpty
  | .cons e r => (match xs with
    | x :: xs => e.ck c sc (.weak n) x && r.ck c sc n xs
    | [] => false)
def Ox.ckO (c : Ck) (e : Ox) (sc : Scope) (x : Option Expr) : Bool := match e with
  | .no => x.isNone
  | .so e => (match x with
    | some x => e.ck c sc (.weak 0) x
    | none => false)
def Ox.ckT (c : Ck) (e : Ox) (sc : Scope) (xs : List Expr) : Bool := match e with
  | .no => xs.isEmpty
  | .so e => (match xs with
    | [x] => (e.ckT c sc x || (plainT x && e.ck c sc (.weak 2) x))
    | _ => false)
def It.ck (c : Ck) (e : It) (sc : Scope) (n : Nat) (t x : Expr) : Bool := match e with
  | .seq a => decide (n ≤ 1) && a.ck c sc (.weak n) x
  | .rg a => (match x with
    | .Call (.Name y _) [z] [] _ => decide (y = "range") && c.isBlt sc y && a.ck c sc (.weak 0) z && plainE z
    | _ => false)
  | .rg2 a b => (match x with
    | .Call (.Name y _) [z, w] [] _ => decide (y = "range") && c.isBlt sc y && a.ck c sc (.weak 0) z && b.ck c sc (.weak 0) w && plainE z && plainE w
    | _ => false)
  | .enum a => (match t, x with
    | .Tuple _ _ _, .Call (.Name y _) [z] [] _ => decide (n ≤ 1) && decide (y = "enumerate") && c.isBlt sc y && a.ck c sc (.weak n) z && plainE z
    | _, _ => false)
  | .zip a b => (match t, x with
    | .Tuple _ _ _, .Call (.Name y _) [z, w] [] _ => decide (n ≤ 1) && decide (y = "zip") && c.isBlt sc y && a.ck c sc (.weak n) z && b.ck c sc (.weak n) w && plainE z && plainE w
    | _, _ => false)
end
end BP
end

section
set_option autoImplicit false
set_option linter.all false
set_option maxRecDepth 100000
/-! BPz: what the checker passes keeps its promise. -/
namespace BP
open PySem PySem.Spec PyProof.Rows L2

/-- a def that may be called -/
def FnAt (g : Gx) (X : Cx) (P : Prg) (n : Nat) (x : Str) (i : Nat) : Prop := ∃ (fd : FuncData) (ps : List Str), FnOk X.prog X.w X.K X.mg X.base (L2.CX X.prog X.w) (n + 1) (g.fa i) fd ps (spF g (P.run i) ps.length (g.fd i)) ∧
  X.mg x = some (.ref (g.fa i)) ∧ PySem.W.keepIn X.K (.ref (g.fa i)) = true ∧ Binds X.K fd ps [] ∧ ∀ vs S, P.run i vs S ≠ .stuck → vs.length = ps.length
/-- a class that may be made -/
def MkAt (g : Gx) (X : Cx) (P : Prg) (n : Nat) (x : Str) (i : Nat) : Prop := ∃ (f : Addr) (fd : FuncData) (ps : List Str), Mk X.K (g.ca i) f ∧
  FnOk X.prog X.w X.K X.mg X.base (L2.CX X.prog X.w) n f fd ps (spI g i (P.make i) ps.length) ∧ X.mg x = some (.ref (g.ca i)) ∧ Binds X.K fd ps [] ∧ (∀ vs S, P.make i vs S ≠ .stuck → vs.length + 1 = ps.length) ∧ ∀ vs S v S', P.make i vs S = .ok v S' → v.cont = false
/-- an exception that may be raised -/
def ExOk (g : Gx) (X : Cx) (x : Str) (i : Nat) : Prop := ∃ file : Str, BPX.ExAt file X.K (g.ca i) ∧ ((X.prog.main.file : Str) == file) = true ∧ (X.prog.main.scope.names.lookup ("super" : Str)).isSome = false ∧ X.mg "super" = none ∧ X.mg x = some (.ref (g.ca i)) ∧ (x == ("__debug__" : Str)) = false
/-- all that a text leans on -/
structure Ctt (g : Gx) (c : Ck) (P : Prg) (X : Cx) (sc : Scope) (n : Nat) (W : WX) : Prop where
  cok : Cok g X c.N sc (n + 1) W
  cls : ClsOk g
  fl : ∀ i, g.flds i = c.fl.getD i []
  fd : ∀ i, g.fd i = c.fd.getD i 0
  fn : ∀ x i, c.look x = some (.fn i) → FnAt g X P n x i
  mkc : ∀ x i, c.look x = some (.cls i) → MkAt g X P n x i
  con : ∀ x m, c.look x = some (.con (.int m)) → ∃ t, X.mg x = some (.int m t)
  blt : ∀ x, c.look x = some .blt → X.mg x = none
  exc : ∀ x i, c.look x = some (.exc i) → ExOk g X x i
theorem takesF {X : Cx} : Takes X WF := fun u s' h => by
  obtain ⟨_, _, _, _, _, _, _, _, _, _, _, _, _, _, _, _, w⟩ := h
  exact w.elim
theorem relabel_look {sc : Scope} {env : PySem.Env} : ∀ {names : List (Str × NameKind)} {x : Str} {k : NameKind}, names.lookup x = some k →
    (names.map fun (n, k) => if (k == NameKind.free && env.scope.kind == .function && env.kindOf n == some .cell) then (n, NameKind.cell) else (n, k)).lookup x = some k ∨
    (k = .free ∧ (names.map fun (n, k) => if (k == NameKind.free && env.scope.kind == .function && env.kindOf n == some .cell) then (n, NameKind.cell) else (n, k)).lookup x = some .cell)
  | [], x, k, h => by simp at h
  | (n, j) :: r, x, k, h => by
    rw [List.map_cons]
    show List.lookup x ((if (j == NameKind.free && env.scope.kind == .function && env.kindOf n == some .cell) = true then (n, NameKind.cell) else (n, j)) :: _) = _ ∨ _ ∧ List.lookup x ((if (j == NameKind.free && env.scope.kind == .function && env.kindOf n == some .cell) = true then (n, NameKind.cell) else (n, j)) :: _) = _
    rw [List.lookup_cons] at h
    cases hb : x == n with
    | true =>
      rw [hb] at h
      have h : j = k := Option.some.inj h
      subst h
      by_cases q : (j == NameKind.free && env.scope.kind == .function && env.kindOf n == some .cell) = true
      · rw [if_pos q]
        have hj : j = .free := by
          rw [Bool.and_eq_true, Bool.and_eq_true] at q
          exact beq_iff_eq.mp q.1.1
        exact .inr ⟨hj, by rw [List.lookup_cons, hb]⟩
      · rw [if_neg q]
        exact .inl (by rw [List.lookup_cons, hb])
    | false =>
      rw [hb] at h
      have ih := relabel_look (sc := sc) (env := env) h
      by_cases q : (j == NameKind.free && env.scope.kind == .function && env.kindOf n == some .cell) = true
      · rw [if_pos q, List.lookup_cons, hb]; exact ih
      · rw [if_neg q, List.lookup_cons, hb]; exact ih
section
variable {g : Gx} {c : Ck} {P : Prg} {X : Cx} {sc : Scope} {n : Nat} {W : WX}
theorem Ctt.xg (C : Ctt g c P X sc n W) : Xg g X := C.cok.xg
theorem Ctt.blkOk (C : Ctt g c P X sc n W) {scope : Scope} {own : List (Str × Nat)} (h : blkC c.N sc scope own = true) : BlkOk X.N X.env.scope scope own := by
  have b := blkOk_by h
  refine ⟨b.kind, b.uniq, fun p hp => by rw [C.cok.nm]; exact b.ix p hp, fun y hy e => ?_, fun y hy e => by rw [C.cok.nm]; exact b.own y hy e⟩
  rcases b.free y hy e with k | k
  · rcases C.cok.vis _ _ k with v | ⟨v, _⟩
    · exact .inl v
    · cases v
  · rcases C.cok.vis _ _ k with v | ⟨_, v⟩
    · exact .inr v
    · exact .inl v
/-- inside a comprehension -/
theorem Ctt.blk (C : Ctt g c P X sc n W) (scope : Scope) (s : Shared) (H : Hp) (a : Addr) (cl : List (Str × Addr)) (fp : List Addr) : Ctt g c P (X.blk s H scope (compEnvC scope cl a X.env) fp) scope n WF where
  cok := ⟨C.cok.prog, C.cok.w, C.cok.K, C.cok.nm, C.cok.nd, C.cok.calm, C.cok.room, fun x k h => relabel_look (sc := scope) (env := X.env) h, fun x h => by show (scope.names.lookup x == some NameKind.cell) = true; rw [h]; rfl, takesF, PassesOwn.never⟩
  cls := C.cls
  fl := C.fl
  fd := C.fd
  fn := C.fn
  mkc := C.mkc
  con := C.con
  blt := C.blt
  exc := C.exc
theorem glb_ok (C : Ctt g c P X sc n W) {x : Str} (h : glb sc x = true) : Gl X x := by
  unfold glb at h
  split at h
  · rename_i e
    rcases C.cok.vis _ _ e with v | ⟨v, _⟩
    · exact v
    · cases v
  · cases h
theorem isFn_ok (C : Ctt g c P X sc n W) {x : Str} {i : Nat} (h : c.isFn sc x i = true) : Gl X x ∧ FnAt g X P n x i := by
  unfold Ck.isFn at h
  rw [Bool.and_eq_true] at h
  refine ⟨glb_ok C h.1, ?_⟩
  have h2 := h.2
  split at h2
  · rename_i j e
    have := beq_iff_eq.mp h2
    subst this
    exact C.fn x _ e
  · cases h2
theorem isCls_ok (C : Ctt g c P X sc n W) {x : Str} {i : Nat} (h : c.isCls sc x i = true) : Gl X x ∧ MkAt g X P n x i := by
  unfold Ck.isCls at h
  rw [Bool.and_eq_true] at h
  refine ⟨glb_ok C h.1, ?_⟩
  have h2 := h.2
  split at h2
  · rename_i j e
    have := beq_iff_eq.mp h2
    subst this
    exact C.mkc x _ e
  · cases h2
theorem isBlt_ok (C : Ctt g c P X sc n W) {x : Str} (h : c.isBlt sc x = true) : Gl X x ∧ X.mg x = none := by
  unfold Ck.isBlt at h
  rw [Bool.and_eq_true] at h
  refine ⟨glb_ok C h.1, ?_⟩
  have h2 := h.2
  split at h2
  · rename_i e
    exact C.blt x e
  · cases h2
theorem isCon_ok (C : Ctt g c P X sc n W) {x : Str} {m : Int} (h : c.isCon sc x m = true) : Gl X x ∧ ∃ t, X.mg x = some (.int m t) := by
  unfold Ck.isCon at h
  rw [Bool.and_eq_true] at h
  refine ⟨glb_ok C h.1, ?_⟩
  have h2 := h.2
  split at h2
  · rename_i j e
    have := beq_iff_eq.mp h2
    subst this
    exact C.con x _ e
  · cases h2
theorem varOk_ok (C : Ctt g c P X sc n W) {i : Nat} {x : Str} (h : varOk c sc i x = true) : X.N[i]? = some x ∧ Vis X.env.scope x ∧ (x == ("__debug__" : Str)) = false ∧ (x == ("__classdict__" : Str)) = false := by
  unfold varOk at h
  simp only [Bool.and_eq_true, Bool.not_eq_true', decide_eq_true_eq] at h
  obtain ⟨⟨⟨h1, h2⟩, h3⟩, h4⟩ := h
  refine ⟨by rw [C.cok.nm]; exact h1, ?_, h3, h4⟩
  split at h2
  · rename_i e
    rcases C.cok.vis _ _ e with v | ⟨v, _⟩
    · exact .inl v
    · cases v
  · rename_i e
    rcases C.cok.vis _ _ e with v | ⟨v, _⟩
    · exact .inr (.inl v)
    · cases v
  · rename_i e
    rcases C.cok.vis _ _ e with v | ⟨_, v⟩
    · exact .inr (.inr v)
    · exact .inr (.inl v)
  · cases h2
section
variable {Lo : Out} {a : Expr} {f : EF} {m : Mode}
theorem PEm.to (h : PEm g Lo W X (.fresh 1) a f) (hm : okM m = true) : PEm g Lo W X m a f := by
  cases m with
  | weak k => exact h.w
  | fresh k =>
    have hk : k ≤ 1 := of_decide_eq_true hm
    match k, hk with
    | 0, _ => exact (PEm.w (n := 0) h).ofRep
    | 1, _ => exact h
theorem PEm.of0 (h : PEm g Lo W X (.weak 0) a f) (hm : okZ m = true) : PEm g Lo W X m a f := by
  cases m with
  | weak k => exact h.weaken (Nat.zero_le _)
  | fresh k =>
    have hk : k = 0 := of_decide_eq_true hm
    subst hk
    exact h.ofRep
theorem PEm.toZ (h : PEm g Lo W X (.fresh 0) a f) (hm : okZ m = true) : PEm g Lo W X m a f := (PEm.w (n := 0) h).of0 hm
theorem PEm.toF {d : Nat} (h : PEm g Lo W X (.fresh d) a f) (hm : okF d m = true) : PEm g Lo W X m a f := by
  cases m with
  | weak k => exact h.w
  | fresh k =>
    have hk : k = d := of_decide_eq_true hm
    subst hk
    exact h
end
/-- as a test, with a word on 'and', 'or' -/
def TOk (g : Gx) (Lo : Out) (W : WX) (X : Cx) (x : Expr) (f : EF) : Prop := PTm g Lo W X x f ∧ ∀ op es p, x = .BoolOp op es p → PW X x (tT g Lo W f)
theorem TOk.of {Lo : Out} {x : Expr} {f : EF} (h : PTm g Lo W X x f) (n : ∀ op es p, x ≠ .BoolOp op es p) : TOk g Lo W X x f := ⟨h, fun op es p e => absurd e (n op es p)⟩
end
end BP
end

section
set_option autoImplicit false
set_option linter.all false
set_option maxRecDepth 100000
/-! BPj: expressions keep their promises. -/
namespace BP
open PySem PySem.Spec PyProof.Rows L2

theorem all_plain {es : List Expr} {e : Expr} (h : (e :: es).all plainE = true) : plainE e = true ∧ es.all plainE = true := by
  rw [List.all_cons, Bool.and_eq_true] at h
  exact h
theorem pe_oneB {g : Gx} {Lo : Out} {W : WX} {X : Cx} {op : BoolOp} {m : Mode} {y : Expr} {f : EF} {p : Pos} (h : PEm g Lo W X m y f) : PEm g Lo W X m (.BoolOp op [y] p) f := pe_one h
theorem con_of {g : Gx} {Lo : Out} {W : WX} {X : Cx} {v : D} {k : Const} {j : Nat} {p : Pos} (h : conOk v k = true) : PEm g Lo W X (.fresh 1) (.Constant k j p) (conF v) := by
  cases v <;> cases k <;> first
    | (cases h; done)
    | (have h := of_decide_eq_true h; subst h; exact s_con pe_int (fun _ _ _ => .int _) rfl)
    | (have h := of_decide_eq_true h; subst h; exact s_con pe_str (fun _ _ _ => .str _) rfl)
    | (have h := beq_iff_eq.mp h; subst h; exact s_con pe_bl (fun _ _ _ => .bl _) rfl)
    | exact s_con pe_non (fun _ _ _ => .non) rfl
section
variable {g : Gx} {c : Ck} {P : Prg} {n : Nat}
/-- a test of any form -/
theorem tst_of {X : Cx} {sc : Scope} {W : WX} {Lo : Out} {e : Ex} {x : Expr} (hv : e.ck c sc (.weak 2) x = true → PEm g Lo W X (.weak 2) x (e.ev P false)) (ht : e.ckT c sc x = true → TOk g Lo W X x (e.ev P true))
    (h : (e.ckT c sc x || (plainT x && e.ck c sc (.weak 2) x)) = true) : TOk g Lo W X x (e.ev P true) := by
  rw [Bool.or_eq_true, Bool.and_eq_true] at h
  rcases h with h | ⟨h1, h2⟩
  · exact ht h
  · have q := hv h2
    have e1 : e.ev P true = truF (e.ev P false) := by
      cases e with
      | not a => exact absurd h1 (by cases x <;> first | exact Bool.noConfusion h2 | (rename_i op _ _; cases op <;> first | exact Bool.noConfusion h2 | exact Bool.false_ne_true))
      | and a b => exact absurd h1 (by cases x <;> first | exact Bool.noConfusion h2 | exact Bool.false_ne_true)
      | or a b => exact absurd h1 (by cases x <;> first | exact Bool.noConfusion h2 | exact Bool.false_ne_true)
      | cmp o a b => exact absurd h1 (by cases x <;> first | exact Bool.noConfusion h2 | exact Bool.false_ne_true)
      | chain o o' a b d => exact absurd h1 (by cases x <;> first | exact Bool.noConfusion h2 | exact Bool.false_ne_true)
      | ife d a b => exact absurd h1 (by cases x <;> first | exact Bool.noConfusion h2 | exact Bool.false_ne_true)
      | _ => rfl
    rw [e1]
    exact .of (s_truth q (test_plain h1 _)) fun op es p e => by rw [e] at h1; cases h1

theorem ands {a b : Bool} (h : (a && b) = true) : a = true ∧ b = true := by rwa [Bool.and_eq_true] at h
theorem nots {a : Bool} (h : (!a) = true) : a = false := by rwa [Bool.not_eq_true'] at h
theorem fold_ok {i : Expr} (h : notSet i = true) (env : PySem.Env) : ∀ x, foldedSetIterable i env x = pure x := fun x => by
  cases i <;> first | rfl | cases h
theorem mem_of {is own : List Nat} (h : (is.all (own.contains ·)) = true) {i : Nat} (hi : i ∈ is) : i ∈ own := by
  have := List.all_eq_true.mp h i hi
  simpa using this
theorem own_eq (own : List Nat) : own = (ownOf c own).map (·.2) := by
  unfold ownOf; rw [List.map_map]; exact (List.map_id' own).symm
theorem tys_ok {X : Cx} {sc : Scope} {W : WX} (C : Ctt g c P X sc n W) : ∀ {ts : List Ty} {es : List Expr}, tyNames sc c ts es = true → ts.all tyB = true ∧ PA X es (fun _ H Q => Q (tyVs ts) H)
  | [], [], _ => ⟨rfl, PA.sub pa_nil fun _ _ _ h => h⟩
  | [], _ :: _, h => by cases h
  | t :: ts, [], h => by cases h
  | t :: ts, e :: es, h => by
    cases e with
    | Name x p =>
      have h : (decide (x = tyS t) && tyB t && c.isBlt sc x && tyNames sc c ts es) = true := h
      obtain ⟨h, h4⟩ := ands h
      obtain ⟨h, h3⟩ := ands h
      obtain ⟨h1, h2⟩ := ands h
      have e := of_decide_eq_true h1
      subst e
      obtain ⟨q1, q2⟩ := isBlt_ok C h3
      obtain ⟨z1, z2⟩ := tys_ok C h4
      exact ⟨by rw [List.all_cons, h2, z1]; rfl, PA.sub (pa_cons (ty_name _ h2 q1 q2) z2 rfl) fun _ _ _ h => h⟩
    | _ => cases h
/-- what never comes to an end is any promise's -/
theorem ps_none {g : Gx} {Lo : Out} {W : WX} {X : Cx} {m : Mode} {a : Expr} {f : EF} (h : ∀ env S, f env S = .stuck) : PEm g Lo W X m a f := ⟨fun pins s σ H Q I t => by
  obtain ⟨L, ρ, env, S, sm, t⟩ := t
  rw [h] at t
  exact t.elim⟩
theorem x_tg {X : Cx} {N : List Str} {sc : Scope} {k : Nat} {W : WX} (q : Cok g X N sc k W) (t : Tg) (e : Expr) (h : t.ck N sc e = true) : PG X e (xG g t) := PG.ex (t := fun Lo' => tG g Lo' t) fun Lo' => s_tg q t e h
theorem x_E {X : Cx} {m : Mode} {e : Expr} {f : EF} (h : ∀ Lo, PEm g Lo WF X m e f) : PE X e (xE g m f) := PE.ex (t := fun Lo' => tE g Lo' WF m f) h
theorem x_T {X : Cx} {e : List Expr} {f : EF} (h : ∀ Lo, PTs X e (tT g Lo WF f)) : PTs X e (xT g f) := PTs.ex (t := fun Lo' => tT g Lo' WF f) h
theorem x_I {X : Cx} {k : Nat} {t e : Expr} {f : AF} (h : ∀ Lo, PIm g Lo WF X k t e f) : PI X t e (xI g k f) := PI.ex (t := fun Lo' => tI g Lo' WF k f) h
mutual
theorem Ex.sound {X : Cx} {sc : Scope} {W : WX} (e : Ex) (Lo : Out) (m : Mode) (x : Expr) (C : Ctt g c P X sc n W) (h : e.ck c sc m x = true) : PEm g Lo W X m x (e.ev P false) := by
  cases e with
  | var i =>
    unfold Ex.ck at h
    split at h
    · obtain ⟨h, hm⟩ := ands h
      obtain ⟨h1, h2, h3, h4⟩ := varOk_ok C h
      exact (s_var h1 h2 h3 h4).of0 hm
    · cases h
  | peek i d =>
    unfold Ex.ck at h
    split at h
    · obtain ⟨h, hm⟩ := ands h
      obtain ⟨h1, h2, h3, h4⟩ := varOk_ok C h
      have p := s_peek (g := g) (Lo := Lo) (W := W) (d := d) (pos := ‹Pos›) h1 h2 h3 h4
      cases m with
      | weak k => exact p.weaken (show d ≤ k from of_decide_eq_true hm)
      | fresh k =>
        obtain ⟨hm, hk⟩ := ands hm
        have e := of_decide_eq_true hm
        subst e
        exact p.of0 hk
    · cases h
  | con v =>
    unfold Ex.ck at h
    split at h
    · obtain ⟨h, hm⟩ := ands h
      exact (con_of h).to hm
    · cases h
  | glob y v =>
    unfold Ex.ck at h
    split at h
    · obtain ⟨h, hm⟩ := ands h
      obtain ⟨h, h3⟩ := ands h
      obtain ⟨h1, h2⟩ := ands h
      obtain ⟨q1, t, q2⟩ := isCon_ok C h2
      exact (s_con (x := .int _) (pe_glob q1 q2 ⟨t, rfl⟩ (nots h3)) (fun _ _ _ => .int _) rfl).to hm
    · cases h
  | bin o a b =>
    unfold Ex.ck at h
    split at h
    · obtain ⟨h, hm⟩ := ands h
      obtain ⟨h, h3⟩ := ands h
      obtain ⟨h1, h2⟩ := ands h
      have e := bop_eq h1
      subst e
      exact (s_bin o (a.sound Lo _ _ C h2) (b.sound Lo _ _ C h3)).to hm
    · cases h
  | neg a =>
    unfold Ex.ck at h
    split at h
    · obtain ⟨h, hm⟩ := ands h
      exact (s_neg (a.sound Lo _ _ C h)).to hm
    · cases h
  | not a =>
    unfold Ex.ck at h
    split at h
    · obtain ⟨h, hm⟩ := ands h
      exact (s_not (a.sound Lo _ _ C h)).to hm
    · cases h
  | and a b =>
    unfold Ex.ck at h
    split at h
    · obtain ⟨h, h3⟩ := ands h
      obtain ⟨h1, hm⟩ := ands h
      exact (s_and (a.sound Lo _ _ C h1) (pe_oneB (b.sound Lo _ _ C h3)))
    · obtain ⟨h, h3⟩ := ands h
      obtain ⟨h1, hm⟩ := ands h
      exact s_and (a.sound Lo _ _ C h1) (b.sound Lo _ _ C h3)
    · cases h
  | or a b =>
    unfold Ex.ck at h
    split at h
    · obtain ⟨h, h3⟩ := ands h
      obtain ⟨h1, hm⟩ := ands h
      exact (s_or (a.sound Lo _ _ C h1) (pe_oneB (b.sound Lo _ _ C h3)))
    · obtain ⟨h, h3⟩ := ands h
      obtain ⟨h1, hm⟩ := ands h
      exact s_or (a.sound Lo _ _ C h1) (b.sound Lo _ _ C h3)
    · cases h
  | cmp o a b =>
    unfold Ex.ck at h
    split at h
    · obtain ⟨h, hm⟩ := ands h
      obtain ⟨h, h4⟩ := ands h
      obtain ⟨h, h3⟩ := ands h
      obtain ⟨h1, h2⟩ := ands h
      have e := cop_eq h1
      subst e
      exact (s_cmp C.xg (a.sound Lo _ _ C h2) (b.sound Lo _ _ C h3) (nots h4)).to hm
    · cases h
  | chain o o' a b d =>
    unfold Ex.ck at h
    split at h
    · obtain ⟨h, hm⟩ := ands h
      obtain ⟨h, h6⟩ := ands h
      obtain ⟨h, h5⟩ := ands h
      obtain ⟨h, h4⟩ := ands h
      obtain ⟨h, h3⟩ := ands h
      obtain ⟨h1, h2⟩ := ands h
      have e := cop_eq h1
      have e' := cop_eq h2
      subst e e'
      exact (s_chain C.xg (a.sound Lo _ _ C h3) (b.sound Lo _ _ C h4) (d.sound Lo _ _ C h5) (nots h6)).to hm
    · cases h
  | ife t a b =>
    unfold Ex.ck at h
    split at h
    · obtain ⟨h, hm⟩ := ands h
      obtain ⟨h, h3⟩ := ands h
      obtain ⟨h1, h2⟩ := ands h
      exact (s_if (tst_of (t.sound Lo _ _ C) (t.soundT Lo _ C) h1).1 (a.sound Lo _ _ C h2) (b.sound Lo _ _ C h3))
    · cases h
  | call f as =>
    unfold Ex.ck at h
    split at h
    · rename_i y0 p0 es0 p1
      obtain ⟨h, hm⟩ := ands h
      obtain ⟨h, h4⟩ := ands h
      obtain ⟨h, h3⟩ := ands h
      obtain ⟨h1, h2⟩ := ands h
      obtain ⟨q1, fd, ps, F, q2, q3, q4, q5⟩ := isFn_ok C h1
      rw [← C.fd] at hm
      have A := as.sound Lo _ _ C h3 h4
      cases es0 with
      | nil =>
        cases as with
        | nil =>
          by_cases hp : ps.length = 0
          · exact (s_call0 C.xg F C.cok.room q1 q2 q3 q4 C.cok.tk hp (nots h2)).toF hm
          · refine ps_none fun env S => ?_
            cases q : P.run f [] S with
            | stuck => exact q
            | _ => exact absurd (q5 [] S (by rw [q]; exact fun z => by cases z)).symm hp
        | cons _ _ => unfold Exs.ck at h3; cases h3
      | cons y ys => exact (s_call C.xg F C.cok.room q1 q2 q3 q4 C.cok.tk A (nots h2) h4 q5).toF hm
    · cases h
  | make i as =>
    unfold Ex.ck at h
    split at h
    · obtain ⟨h, hm⟩ := ands h
      obtain ⟨h, h4⟩ := ands h
      obtain ⟨h, h3⟩ := ands h
      obtain ⟨h1, h2⟩ := ands h
      obtain ⟨q1, q⟩ := isCls_ok C h1
      have A := as.sound Lo _ _ C h3 h4
      obtain ⟨f, fd, ps, M, F, q2, q4, q5, q6⟩ := q
      exact (s_make C.xg rfl M F C.cok.room q1 q2 q4 C.cok.tk A (nots h2) h4 q5 q6).to hm
    · cases h
  | bi b as =>
    unfold Ex.ck at h
    split at h
    · obtain ⟨h, h6⟩ := ands h
      obtain ⟨h, hm⟩ := ands h
      obtain ⟨h, h4⟩ := ands h
      obtain ⟨h, h3⟩ := ands h
      obtain ⟨h1, h2⟩ := ands h
      have e := of_decide_eq_true h1
      subst e
      obtain ⟨q1, q2⟩ := isBlt_ok C h2
      exact (s_bi (bi_ok C.xg b h6) (as.sound Lo _ _ C h3 h4) q1 q2 h4).to hm
    · cases h
  | isi a ts one =>
    unfold Ex.ck at h
    split at h
    · obtain ⟨h, hm⟩ := ands h
      obtain ⟨h, h7⟩ := ands h
      obtain ⟨h, h6⟩ := ands h
      obtain ⟨h, h5⟩ := ands h
      obtain ⟨h, h4⟩ := ands h
      obtain ⟨h, h3⟩ := ands h
      obtain ⟨h1, h2⟩ := ands h
      have e := of_decide_eq_true h1
      have e3 := of_decide_eq_true h3
      subst e e3
      obtain ⟨q1, q2⟩ := isBlt_ok C h2
      obtain ⟨q3, q4⟩ := isBlt_ok C h5
      exact (s_isi1 C.xg h4 (a.sound Lo _ _ C h6) q1 q2 q3 q4 h7).to hm
    · obtain ⟨h, hm⟩ := ands h
      obtain ⟨h, h7⟩ := ands h
      obtain ⟨h, h6⟩ := ands h
      obtain ⟨h, h5⟩ := ands h
      obtain ⟨h, h3⟩ := ands h
      obtain ⟨h1, h2⟩ := ands h
      have e := of_decide_eq_true h1
      subst e
      obtain ⟨q1, q2⟩ := isBlt_ok C h2
      obtain ⟨z1, z2⟩ := tys_ok C h5
      exact (s_isiT C.xg (by simp) (of_decide_eq_true h3) z1 (a.sound Lo _ _ C h6) q1 q2 z2 h7).to hm
    · cases h
  | idx a b =>
    unfold Ex.ck at h
    split at h
    · obtain ⟨h, hm⟩ := ands h
      obtain ⟨h, h3⟩ := ands h
      obtain ⟨h1, h2⟩ := ands h
      have B := b.sound Lo _ _ C h2
      cases m with
      | weak k => exact s_idx C.xg (a.sound Lo (.weak (k + 1)) _ C h1) B (ix_plain h3)
      | fresh k => exact (s_idx C.xg (a.sound Lo (.weak 1) _ C h1) B (ix_plain h3)).of0 hm
    · cases h
  | slice a lo hi =>
    unfold Ex.ck at h
    split at h
    · obtain ⟨h, hm⟩ := ands h
      obtain ⟨h, h3⟩ := ands h
      obtain ⟨h1, h2⟩ := ands h
      exact (s_slice C.xg (a.sound Lo _ _ C h1) (lo.soundO Lo _ C h2) (hi.soundO Lo _ C h3)).to hm
    · cases h
  | rev a =>
    unfold Ex.ck at h
    split at h
    · obtain ⟨h, hm⟩ := ands h
      exact (s_rev (a.sound Lo _ _ C h)).to hm
    · cases h
  | fld a ci fi =>
    unfold Ex.ck at h
    split at h
    · obtain ⟨h, hm⟩ := ands h
      obtain ⟨h, h3⟩ := ands h
      obtain ⟨h1, h2⟩ := ands h
      have e := of_decide_eq_true h1
      rw [← C.fl] at e
      exact (s_fld C.xg C.cls (a.sound Lo _ _ C h2) e (attr_plain (nots h3))).toZ hm
    · cases h
  | get a k d =>
    unfold Ex.ck at h
    split at h
    · obtain ⟨h, hm⟩ := ands h
      obtain ⟨h, h8⟩ := ands h
      obtain ⟨h, h7⟩ := ands h
      obtain ⟨h, h6⟩ := ands h
      obtain ⟨h, h5⟩ := ands h
      obtain ⟨h, h4⟩ := ands h
      obtain ⟨h, h3⟩ := ands h
      obtain ⟨h1, h2⟩ := ands h
      have e := of_decide_eq_true h1
      subst e
      exact (s_get C.xg (nots h3) h2 h4 h5 (a.sound Lo _ _ C h6) (k.sound Lo _ _ C h7) (d.sound Lo _ _ C h8)).toZ hm
    · cases h
  | tup es =>
    unfold Ex.ck at h
    split at h
    · obtain ⟨h, hm⟩ := ands h
      obtain ⟨h1, h2⟩ := ands h
      exact (s_tup (es.sound Lo _ _ C h1 h2)).to hm
    · cases h
  | lst es =>
    unfold Ex.ck at h
    split at h
    · obtain ⟨h, hm⟩ := ands h
      obtain ⟨h1, h2⟩ := ands h
      exact (s_lst (es.sound Lo _ _ C h1 h2)).to hm
    · cases h
  | dct0 nk =>
    unfold Ex.ck at h
    split at h
    · exact (s_dct0 C.xg).to h
    · cases h
  | dct1 nk k v =>
    unfold Ex.ck at h
    split at h
    · obtain ⟨h, hm⟩ := ands h
      obtain ⟨h1, h2⟩ := ands h
      exact (s_d1 C.xg (fun Lo => k.sound Lo _ _ C h1) (fun Lo => v.sound Lo _ _ C h2)).to hm
    · cases h
  | rg1 a =>
    unfold Ex.ck at h
    split at h
    · obtain ⟨h, hm⟩ := ands h
      obtain ⟨h, h6⟩ := ands h
      obtain ⟨h, h5⟩ := ands h
      obtain ⟨h, h4⟩ := ands h
      obtain ⟨h, h3⟩ := ands h
      obtain ⟨h1, h2⟩ := ands h
      have e := of_decide_eq_true h1
      have e3 := of_decide_eq_true h3
      subst e e3
      obtain ⟨q1, q2⟩ := isBlt_ok C h2
      obtain ⟨q3, q4⟩ := isBlt_ok C h4
      exact (s_rg1 C.xg q1 q2 q3 q4 (a.sound Lo _ _ C h5) h6).to hm
    · cases h
  | rg2 a b =>
    unfold Ex.ck at h
    split at h
    · obtain ⟨h, hm⟩ := ands h
      obtain ⟨h, h8⟩ := ands h
      obtain ⟨h, h7⟩ := ands h
      obtain ⟨h, h6⟩ := ands h
      obtain ⟨h, h5⟩ := ands h
      obtain ⟨h, h4⟩ := ands h
      obtain ⟨h, h3⟩ := ands h
      obtain ⟨h1, h2⟩ := ands h
      have e := of_decide_eq_true h1
      have e3 := of_decide_eq_true h3
      subst e e3
      obtain ⟨q1, q2⟩ := isBlt_ok C h2
      obtain ⟨q3, q4⟩ := isBlt_ok C h4
      exact (s_rg2 C.xg q1 q2 q3 q4 (a.sound Lo _ _ C h5) (b.sound Lo _ _ C h6) h7 h8).to hm
    · cases h
  | dictZip nk a b => cases h
  | lc elt tg it ifs own =>
    unfold Ex.ck at h
    split at h
    · rename_i x0 t0 i0 cs0 s0 p0
      obtain ⟨h, h8⟩ := ands h
      obtain ⟨h, h7⟩ := ands h
      obtain ⟨h, h6⟩ := ands h
      obtain ⟨h, h5⟩ := ands h
      obtain ⟨h, h4⟩ := ands h
      obtain ⟨h, h3⟩ := ands h
      obtain ⟨h1, h2⟩ := ands h
      have B := C.blkOk h3
      have hN : X.N.Nodup := by rw [C.cok.nm]; exact C.cok.nd
      have E : ∀ k, elM m = .fresh k → PEm g Lo W X (.fresh (k + 1)) (.ListComp x0 [⟨t0, i0, cs0, 0⟩] s0 p0) (lcF (It.evi P it) tg own (Ox.tvo P ifs) (elt.ev P false)) := fun k hk => by
        rw [hk] at h7
        have e := own_eq (c := c) own
        refine PE.sub (pe_lc C.cok.calm hN (it.sound Lo _ _ _ C h1) B (fun s H a cl fp => x_tg (C.blk _ s H a cl fp).cok tg _ h5) (fun s H a cl fp => x_T fun Lo' => ifs.soundT Lo' _ (C.blk _ s H a cl fp) h6) (fun s H a cl fp => x_E fun Lo' => elt.sound Lo' _ _ (C.blk _ s H a cl fp) h7) (fold_ok h2 _)) fun σ H Q t => ?_
        rw [e] at t
        exact lc_of (fun i hi => by rw [← e]; exact mem_of h4 hi) σ H Q t
      cases m with
      | weak k => exact (PEm.w (E 0 rfl))
      | fresh k => cases k with
        | zero => exact (PEm.w (n := 0) (E 0 rfl)).ofRep
        | succ k => exact E k rfl
    · cases h
  | lc2 elt tg it tg2 it2 ifs2 own own2 =>
    unfold Ex.ck at h
    split at h
    · rename_i x0 t0 i0 t2 i2 cs0 s0 p0
      obtain ⟨h, hl⟩ := ands h
      obtain ⟨h, he⟩ := ands h
      obtain ⟨h, hf⟩ := ands h
      obtain ⟨h, hi2⟩ := ands h
      obtain ⟨h, ht2⟩ := ands h
      obtain ⟨h, ht⟩ := ands h
      obtain ⟨h, ho⟩ := ands h
      obtain ⟨h, hn2⟩ := ands h
      obtain ⟨h, hn⟩ := ands h
      obtain ⟨h, hb⟩ := ands h
      obtain ⟨h, hs2⟩ := ands h
      obtain ⟨h1, hs⟩ := ands h
      have B := C.blkOk hb
      have hN : X.N.Nodup := by rw [C.cok.nm]; exact C.cok.nd
      have E : ∀ k, elM m = .fresh k → PEm g Lo W X (.fresh (k + 1)) (.ListComp x0 [⟨t0, i0, [], 0⟩, ⟨t2, i2, cs0, 0⟩] s0 p0) (lc2F (It.evi P it) tg own (It.evi P it2) tg2 own2 (Ox.tvo P ifs2) (elt.ev P false)) := fun k hk => by
        rw [hk] at he
        have e := own_eq (c := c) own
        refine PE.sub (pe_lc2 (vs1 := own2) C.cok.calm hN (it.sound Lo _ _ _ C h1) B (fun i hi => by rw [← e]; exact mem_of ho hi) (fun s H a cl fp => x_tg (C.blk _ s H a cl fp).cok tg _ ht) (fun s H a cl fp => pts_nil)
          (fun s H a cl fp => x_I fun Lo' => it2.sound Lo' _ _ _ (C.blk _ s H a cl fp) hi2) (fun s H a cl fp => x_tg (C.blk _ s H a cl fp).cok tg2 _ ht2) (fun s H a cl fp => x_T fun Lo' => ifs2.soundT Lo' _ (C.blk _ s H a cl fp) hf)
          (fun s H a cl fp => x_E fun Lo' => elt.sound Lo' _ _ (C.blk _ s H a cl fp) he) (fold_ok hs _) (fun env => fold_ok hs2 env)) fun σ H Q t => ?_
        rw [e] at t
        exact lc2_of (fun i hi => by rw [← e]; exact mem_of hn hi) (fun i hi => mem_of hn2 hi) σ H Q t
      cases m with
      | weak k => exact (PEm.w (E 0 rfl))
      | fresh k => cases k with
        | zero => exact (PEm.w (n := 0) (E 0 rfl)).ofRep
        | succ k => exact E k rfl
    · cases h
  | dc nk k v tg it ifs own =>
    unfold Ex.ck at h
    split at h
    · rename_i x0 y0 t0 i0 cs0 s0 p0
      obtain ⟨h, hm⟩ := ands h
      obtain ⟨h, hv⟩ := ands h
      obtain ⟨h, hk⟩ := ands h
      obtain ⟨h, hf⟩ := ands h
      obtain ⟨h, ht⟩ := ands h
      obtain ⟨h, hn⟩ := ands h
      obtain ⟨h, hb⟩ := ands h
      obtain ⟨h1, hs⟩ := ands h
      have B := C.blkOk hb
      have hN : X.N.Nodup := by rw [C.cok.nm]; exact C.cok.nd
      have e := own_eq (c := c) own
      have xg := C.xg
      have E : PEm g Lo W X (.fresh 1) (.DictComp x0 y0 [⟨t0, i0, cs0, 0⟩] s0 p0) (dcF nk (It.evi P it) tg own (Ox.tvo P ifs) (k.ev P false) (v.ev P false)) := by
        refine PE.sub (pe_dcG (o0 := o0G g nk) (tail := tail1 (xE g (.weak 0) (k.ev P false)) (xE g (.weak 0) (v.ev P false)) (putG g nk)) (TW := fun D env => PutW X.prog X.w X.A x0 y0 D env) C.cok.calm hN (it.sound Lo _ _ _ C h1) B (fun s H a cl fp => x_tg (C.blk _ s H a cl fp).cok tg _ ht) (fun s H a cl fp => x_T fun Lo' => ifs.soundT Lo' _ (C.blk _ s H a cl fp) hf)
          (fun s H a cl fp D => tail1_ok (X := X.blk s H s0 (compEnvC s0 cl a X.env) fp) rfl (x_E fun Lo' => k.sound Lo' _ _ (C.blk _ s H a cl fp) hk) (x_E fun Lo' => v.sound Lo' _ _ (C.blk _ s H a cl fp) hv) (put_ok (X := X.blk s H s0 (compEnvC s0 cl a X.env) fp) xg.prog xg.w xg.hu nk)) (fun R itv D cl a => loop_1) (o0_ok xg.prog xg.w nk) (fold_ok hs _)) fun σ H Q t => ?_
        rw [e] at t
        exact dc_of (fun i hi => by rw [← e]; exact mem_of hn hi) σ H Q t
      exact E.to hm
    · cases h
  | dc2 nk k v tg it tg2 it2 own own2 =>
    unfold Ex.ck at h
    split at h
    · rename_i x0 y0 t0 i0 t2 i2 s0 p0
      obtain ⟨h, hm⟩ := ands h
      obtain ⟨h, hv⟩ := ands h
      obtain ⟨h, hk⟩ := ands h
      obtain ⟨h, hi2⟩ := ands h
      obtain ⟨h, ht2⟩ := ands h
      obtain ⟨h, ht⟩ := ands h
      obtain ⟨h, ho⟩ := ands h
      obtain ⟨h, hn2⟩ := ands h
      obtain ⟨h, hn⟩ := ands h
      obtain ⟨h, hb⟩ := ands h
      obtain ⟨h, hs2⟩ := ands h
      obtain ⟨h1, hs⟩ := ands h
      have B := C.blkOk hb
      have hN : X.N.Nodup := by rw [C.cok.nm]; exact C.cok.nd
      have e := own_eq (c := c) own
      have xg := C.xg
      have E : PEm g Lo W X (.fresh 1) (.DictComp x0 y0 [⟨t0, i0, [], 0⟩, ⟨t2, i2, [], 0⟩] s0 p0) (dc2F nk (It.evi P it) tg own (It.evi P it2) tg2 own2 (k.ev P false) (v.ev P false)) := by
        refine PE.sub (pe_dcG (o0 := o0G g nk) (tail := tail2 (xI g 0 (It.evi P it2)) (xG g tg2) (xT g yesF) (xE g (.weak 0) (k.ev P false)) (xE g (.weak 0) (v.ev P false)) (putG g nk) own2) (TW := fun D env => InW X.prog X.w X.A (d2 x0 y0 t0 i0 t2 i2 [] [] s0 p0) i2 D env) C.cok.calm hN (it.sound Lo _ _ _ C h1) B (fun s H a cl fp => x_tg (C.blk _ s H a cl fp).cok tg _ ht) (fun s H a cl fp => pts_nil)
          (fun s H a cl fp D => tail2_ok (X := X.blk s H s0 (compEnvC s0 cl a X.env) fp) C.cok.calm rfl (fun i hi => by rw [← e]; exact mem_of ho hi) (x_I fun Lo' => it2.sound Lo' _ _ _ (C.blk _ s H a cl fp) hi2) (x_tg (C.blk _ s H a cl fp).cok tg2 _ ht2)
            (x_T fun Lo' => PTs.sub pts_nil fun σ H Q t => by
              obtain ⟨L, ρ, env, S, s, t⟩ := t
              exact t true H (.refl _ _) s rfl)
            (x_E fun Lo' => k.sound Lo' _ _ (C.blk _ s H a cl fp) hk) (x_E fun Lo' => v.sound Lo' _ _ (C.blk _ s H a cl fp) hv) (put_ok (X := X.blk s H s0 (compEnvC s0 cl a X.env) fp) xg.prog xg.w xg.hu nk)) (fun R itv D cl a => loop_2out (fold_ok hs2 _)) (o0_ok xg.prog xg.w nk) (fold_ok hs _)) fun σ H Q t => ?_
        rw [e] at t
        exact dc2_of (fun i hi => by rw [← e]; exact mem_of hn hi) (fun i hi => mem_of hn2 hi) σ H Q t
      exact E.to hm
    · cases h
theorem Ex.soundT {X : Cx} {sc : Scope} {W : WX} (e : Ex) (Lo : Out) (x : Expr) (C : Ctt g c P X sc n W) (h : e.ckT c sc x = true) : TOk g Lo W X x (e.ev P true) := by
  cases e with
  | not a =>
    unfold Ex.ckT at h
    split at h
    · exact .of (s_notT (tst_of (a.sound Lo _ _ C) (a.soundT Lo _ C) h).1) fun _ _ _ e => by cases e
    · cases h
  | and a b =>
    unfold Ex.ckT at h
    split at h
    · obtain ⟨h1, h2⟩ := ands h
      have p := w_andT (pos := ‹Pos›) (tst_of (a.sound Lo _ _ C) (a.soundT Lo _ C) h1).1 (pw_and1 (tst_of (b.sound Lo _ _ C) (b.soundT Lo _ C) h2).1)
      exact ⟨p.pt, fun _ _ _ e => by cases e; exact p⟩
    · obtain ⟨h1, h2⟩ := ands h
      have p := w_andT (tst_of (a.sound Lo _ _ C) (a.soundT Lo _ C) h1).1 ((b.soundT Lo _ C h2).2 _ _ _ rfl)
      exact ⟨p.pt, fun _ _ _ e => by cases e; exact p⟩
    · cases h
  | or a b =>
    unfold Ex.ckT at h
    split at h
    · obtain ⟨h1, h2⟩ := ands h
      have p := w_orT (pos := ‹Pos›) (tst_of (a.sound Lo _ _ C) (a.soundT Lo _ C) h1).1 (pw_or1 (tst_of (b.sound Lo _ _ C) (b.soundT Lo _ C) h2).1)
      exact ⟨p.pt, fun _ _ _ e => by cases e; exact p⟩
    · obtain ⟨h1, h2⟩ := ands h
      have p := w_orT (tst_of (a.sound Lo _ _ C) (a.soundT Lo _ C) h1).1 ((b.soundT Lo _ C h2).2 _ _ _ rfl)
      exact ⟨p.pt, fun _ _ _ e => by cases e; exact p⟩
    · cases h
  | cmp o a b =>
    unfold Ex.ckT at h
    split at h
    · obtain ⟨h, h4⟩ := ands h
      obtain ⟨h, h3⟩ := ands h
      obtain ⟨h1, h2⟩ := ands h
      have e := cop_eq h1
      subst e
      exact .of (s_cmpT C.xg (a.sound Lo _ _ C h2) (b.sound Lo _ _ C h3) (nots h4)) fun _ _ _ e => by cases e
    · cases h
  | chain o o' a b d =>
    unfold Ex.ckT at h
    split at h
    · obtain ⟨h, h6⟩ := ands h
      obtain ⟨h, h5⟩ := ands h
      obtain ⟨h, h4⟩ := ands h
      obtain ⟨h, h3⟩ := ands h
      obtain ⟨h1, h2⟩ := ands h
      have e := cop_eq h1
      have e' := cop_eq h2
      subst e e'
      exact .of (s_chainT C.xg (a.sound Lo _ _ C h3) (b.sound Lo _ _ C h4) (d.sound Lo _ _ C h5) (nots h6)) fun _ _ _ e => by cases e
    · cases h
  | _ => cases h
theorem Exs.sound {X : Cx} {sc : Scope} {W : WX} (es : Exs) (Lo : Out) (k : Nat) (xs : List Expr) (C : Ctt g c P X sc n W) (h : es.ck c sc k xs = true) (hp : xs.all plainE = true) : PAm g Lo W X k xs (es.evs P) := by
  cases es with
  | nil =>
    unfold Exs.ck at h
    cases xs with
    | nil => exact a_nil
    | cons _ _ => cases h
  | cons e r =>
    unfold Exs.ck at h
    split at h
    · obtain ⟨h1, h2⟩ := ands h
      obtain ⟨p1, p2⟩ := all_plain hp
      exact a_cons (e.sound Lo _ _ C h1) (r.sound Lo _ _ C h2 p2) (star_one p1)
    · cases h
theorem Ox.soundO {X : Cx} {sc : Scope} {W : WX} (e : Ox) (Lo : Out) (x : Option Expr) (C : Ctt g c P X sc n W) (h : e.ckO c sc x = true) : POm g Lo W X x (e.evo P) := by
  cases e with
  | no =>
    unfold Ox.ckO at h
    cases x with
    | none => exact s_oxNone
    | some _ => cases h
  | so e =>
    unfold Ox.ckO at h
    split at h
    · exact s_oxSome (e.sound Lo _ _ C h)
    · cases h
theorem Ox.soundT {X : Cx} {sc : Scope} {W : WX} (e : Ox) (Lo : Out) (xs : List Expr) (C : Ctt g c P X sc n W) (h : e.ckT c sc xs = true) : PTs X xs (tT g Lo W (e.tvo P)) := by
  cases e with
  | no =>
    unfold Ox.ckT at h
    cases xs with
    | nil =>
      refine PTs.sub pts_nil (fun σ H Q t => ?_)
      obtain ⟨L, ρ, env, S, s, t⟩ := t
      exact t true H (.refl _ _) s rfl
    | cons _ _ => cases h
  | so e =>
    unfold Ox.ckT at h
    split at h
    · exact pts_one (tst_of (e.sound Lo _ _ C) (e.soundT Lo _ C) h).1
    · cases h
theorem It.sound {X : Cx} {sc : Scope} {W : WX} (e : It) (Lo : Out) (k : Nat) (tg x : Expr) (C : Ctt g c P X sc n W) (h : e.ck c sc k tg x = true) : PIm g Lo W X k tg x (e.evi P) := by
  cases e with
  | seq a =>
    unfold It.ck at h
    obtain ⟨h1, h2⟩ := ands h
    exact i_seq C.xg (of_decide_eq_true h1) (a.sound Lo _ _ C h2)
  | rg a =>
    unfold It.ck at h
    split at h
    · obtain ⟨h, h4⟩ := ands h
      obtain ⟨h, h3⟩ := ands h
      obtain ⟨h1, h2⟩ := ands h
      have e := of_decide_eq_true h1
      subst e
      obtain ⟨q1, q2⟩ := isBlt_ok C h2
      exact i_rg1 q1 q2 (a.sound Lo _ _ C h3) h4
    · cases h
  | rg2 a b =>
    unfold It.ck at h
    split at h
    · obtain ⟨h, h6⟩ := ands h
      obtain ⟨h, h5⟩ := ands h
      obtain ⟨h, h4⟩ := ands h
      obtain ⟨h, h3⟩ := ands h
      obtain ⟨h1, h2⟩ := ands h
      have e := of_decide_eq_true h1
      subst e
      obtain ⟨q1, q2⟩ := isBlt_ok C h2
      exact i_rg2 q1 q2 (a.sound Lo _ _ C h3) (b.sound Lo _ _ C h4) h5 h6
    · cases h
  | enum a =>
    unfold It.ck at h
    split at h
    · obtain ⟨h, h5⟩ := ands h
      obtain ⟨h, h4⟩ := ands h
      obtain ⟨h, h3⟩ := ands h
      obtain ⟨h1, h2⟩ := ands h
      have e := of_decide_eq_true h2
      subst e
      obtain ⟨q1, q2⟩ := isBlt_ok C h3
      exact i_enum C.xg (of_decide_eq_true h1) q1 q2 (a.sound Lo _ _ C h4) h5
    · cases h
  | zip a b =>
    unfold It.ck at h
    split at h
    · obtain ⟨h, h7⟩ := ands h
      obtain ⟨h, h6⟩ := ands h
      obtain ⟨h, h5⟩ := ands h
      obtain ⟨h, h4⟩ := ands h
      obtain ⟨h, h3⟩ := ands h
      obtain ⟨h1, h2⟩ := ands h
      have e := of_decide_eq_true h2
      subst e
      obtain ⟨q1, q2⟩ := isBlt_ok C h3
      exact i_zip C.xg (of_decide_eq_true h1) q1 q2 (a.sound Lo _ _ C h4) (b.sound Lo _ _ C h5) h6 h7
    · cases h
end
end
end BP
end

section
set_option autoImplicit false
set_option linter.all false
set_option maxRecDepth 100000
/-! BPk: statements: what they promise; sequence, test, loops, plain assignments. -/
namespace BP
open PySem PySem.Spec PyProof.Rows L2

/-- between two points of a def -/
structure Kp (L : Addr → Prop) (ρ : List Addr) (H : Hp) (L' : Addr → Prop) (ρ' : List Addr) (H' : Hp) : Prop where
  keep : Keep L L' H H'
  pre : ∃ r, ρ' = ρ ++ r
theorem Kp.refl (L : Addr → Prop) (ρ : List Addr) (H : Hp) : Kp L ρ H L ρ H := ⟨.refl _ _, [], (List.append_nil _).symm⟩
theorem Kp.trans {L L1 L2 : Addr → Prop} {ρ ρ1 ρ2 : List Addr} {H H1 H2 : Hp} (a : Kp L ρ H L1 ρ1 H1) (b : Kp L1 ρ1 H1 L2 ρ2 H2) : Kp L ρ H L2 ρ2 H2 :=
  ⟨a.keep.trans b.keep, let ⟨r, e⟩ := a.pre; let ⟨q, f⟩ := b.pre; ⟨r ++ q, by rw [f, e, List.append_assoc]⟩⟩
theorem Kp.at {L L' : Addr → Prop} {ρ ρ' : List Addr} {H H' : Hp} (k : Kp L ρ H L' ρ' H') : ∀ (n : Nat) (a : Addr), ρ[n]? = some a → ρ'[n]? = some a := fun n a h => by
  obtain ⟨r, e⟩ := k.pre
  rw [e, List.getElem?_append_left (List.getElem?_eq_some_iff.mp h).1]
  exact h
/-- how a def's result lies at its end -/
def RT (g : Gx) (Lo : Out) (d : Nat) (L : Addr → Prop) (ρ : List Addr) (S : List D) (H : Hp) (x : V) (v : D) : Prop :=
  ∃ (A : List Addr) (M : Addr → Prop), OwnR g M ρ H d A x v ∧ A.Nodup ∧ (∀ a ∈ A, Lo.H0 a = none ∧ M a) ∧ (∀ a, L a → M a) ∧ CellsR g M ρ H S
/-- what is left to do, in a def -/
def FinS (g : Gx) (Lo : Out) (W : WX) (d : Nat) (D : Ends) (L : Addr → Prop) (ρ : List Addr) (H : Hp) (r : Res (Fl × Env)) : Prop := match r with
  | .ok (.nx, env') S' => ∀ L' ρ' σ' H', Kp L ρ H L' ρ' H' → Sim g Lo L' ρ' env' S' σ' H' → D.nx σ' H'
  | .ok (.bk, env') S' => ∀ L' ρ' σ' H', Kp L ρ H L' ρ' H' → Sim g Lo L' ρ' env' S' σ' H' → D.bk σ' H'
  | .ok (.ct, env') S' => ∀ L' ρ' σ' H', Kp L ρ H L' ρ' H' → Sim g Lo L' ρ' env' S' σ' H' → D.ct σ' H'
  | .ok (.rt v, env') S' => ∀ L' ρ' σ' H' x, Kp L ρ H L' ρ' H' → Sim g Lo L' ρ' env' S' σ' H' → RT g Lo d L' ρ' S' H' x v → D.rt x H'
  | .exc c fs S' => ∀ L' ρ' env' σ' H' d, Kp L ρ H L' ρ' H' → Sim g Lo L' ρ' env' S' σ' H' → XRep g L' ρ' H' d fs → W (.ref (g.ca c)) d σ' H'
  | .stuck => False
def tS (g : Gx) (Lo : Out) (W : WX) (dr : Nat) (f : SF) : TS := fun D σ H => ∃ L ρ env S, Sim g Lo L ρ env S σ H ∧ FinS g Lo W dr D L ρ H (f env S)
abbrev PSm (g : Gx) (Lo : Out) (W : WX) (dr : Nat) (X : Cx) (s : Stmt) (f : SF) : Prop := PS X s (tS g Lo W dr f)
abbrev PSsm (g : Gx) (Lo : Out) (W : WX) (dr : Nat) (X : Cx) (s : List Stmt) (f : SF) : Prop := PSs X s (tS g Lo W dr f)

section
variable {dr : Nat} {g : Gx} {Lo : Out} {W : WX} {D : Ends} {L L1 L' : Addr → Prop} {ρ ρ1 ρ' : List Addr} {env : Env} {S S' : List BP.D} {σ : L2.St} {H H1 H' : Hp} {r : Res (Fl × Env)}
theorem Ev.kp (s : Sim g Lo L ρ env S σ H) (e : Ev ρ H H') : Kp L ρ H L ρ H' := ⟨e.keepL s, [], (List.append_nil _).symm⟩
theorem Kp.tup (s : Sim g Lo L ρ env S σ H) (k : Kp L ρ H L' ρ' H') : TupK H H' := fun a xs h => (k.keep a _ h (s.ntup h)).1
theorem Kp.rep (s : Sim g Lo L ρ env S σ H) (k : Kp L ρ H L' ρ' H') {x : V} {v : BP.D} (r : Rep g L ρ H x v) : Rep g L' ρ' H' x v := r.keep k.keep (k.tup s) k.at
theorem Kp.repY (s : Sim g Lo L ρ env S σ H) (k : Kp L ρ H L' ρ' H') {y : YV} {v : BP.D} (r : RepY g L ρ H y v) : RepY g L' ρ' H' y v := by
  cases y with
  | one z => exact k.rep s r
  | two z w => obtain ⟨p, q, e, r1, r2⟩ := r; exact ⟨p, q, e, k.rep s r1, k.rep s r2⟩
theorem FinS.later (k : Kp L ρ H L1 ρ1 H1) (h : FinS g Lo W dr D L ρ H r) : FinS g Lo W dr D L1 ρ1 H1 r := by
  cases r with
  | ok p S' =>
    obtain ⟨f, env'⟩ := p
    cases f with
    | rt v => exact fun L' ρ' σ' H' x q => h L' ρ' σ' H' x (k.trans q)
    | _ => exact fun L' ρ' σ' H' q => h L' ρ' σ' H' (k.trans q)
  | exc c fs S' => exact fun L' ρ' env' σ' H' d q => h L' ρ' env' σ' H' d (k.trans q)
  | stuck => exact h
/-- an expression is evaluated, then the rest -/
theorem FinS.bind {α : Type} {a : Res α} {f : α → List BP.D → Res (Fl × Env)} (s : Sim g Lo L ρ env S σ H) (h : FinS g Lo W dr D L ρ H (a.bind f)) : Fin g Lo W L ρ env σ (fun v S1 H1 => Ev ρ H H1 ∧ Sim g Lo L ρ env S1 σ H1 ∧ FinS g Lo W dr D L ρ H1 (f v S1)) a H := by
  cases a with
  | ok v S1 => exact fun H1 e s1 => ⟨e, s1, FinS.later (r := f v S1) (e.kp s) h⟩
  | exc c fs S1 => exact fun d H1 e s1 x => h L ρ env σ H1 d (e.kp s) s1 x
  | stuck => exact h
theorem FinS.opt {α : Type} {o : Option α} {f : α → List BP.D → Res (Fl × Env)} (h : FinS g Lo W dr D L ρ H ((Res.opt o S).bind f)) : ∃ v, o = some v ∧ FinS g Lo W dr D L ρ H (f v S) := by
  cases o with
  | some v => exact ⟨v, rfl, h⟩
  | none => exact h.elim
theorem FinS.run (h : FinS g Lo W dr D L ρ H r) : r ≠ .stuck := fun e => by rw [e] at h; exact h
theorem FinS.nx (h : FinS g Lo W dr D L ρ H (.ok (.nx, env) S)) (k : Kp L ρ H L' ρ' H') (s : Sim g Lo L' ρ' env S σ H') : D.nx σ H' := h _ _ _ _ k s
/-- one part is evaluated -/
theorem partS {m : Mode} {f : Env → List BP.D → Res BP.D} {k : BP.D → List BP.D → Res (Fl × Env)} {R : VK} (s : Sim g Lo L ρ env S σ H) (h : FinS g Lo W dr D L ρ H ((f env S).bind k))
    (n : ∀ x v S1 H1, Ev ρ H H1 → Sim g Lo L ρ env S1 σ H1 → RM g L ρ H H1 S1 m x v → FinS g Lo W dr D L ρ H1 (k v S1) → R x H1) : tE g Lo W m f σ H R :=
  tE_of s ((h.bind s).imp fun v S1 H1 ⟨e, s1, h1⟩ x r => n x v S1 H1 e s1 r h1)
/-- .. still told from the start -/
theorem FinS.bind0 {α : Type} {a : Res α} {f : α → List BP.D → Res (Fl × Env)} (s : Sim g Lo L ρ env S σ H) (h : FinS g Lo W dr D L ρ H (a.bind f)) : Fin g Lo W L ρ env σ (fun v S1 H1 => Ev ρ H H1 ∧ Sim g Lo L ρ env S1 σ H1 ∧ FinS g Lo W dr D L ρ H (f v S1)) a H := by
  cases a with
  | ok v S1 => exact fun H1 e s1 => ⟨e, s1, h⟩
  | exc c fs S1 => exact fun d H1 e s1 x => h L ρ env σ H1 d (e.kp s) s1 x
  | stuck => exact h
theorem partS0 {m : Mode} {f : Env → List BP.D → Res BP.D} {k : BP.D → List BP.D → Res (Fl × Env)} {R : VK} (s : Sim g Lo L ρ env S σ H) (h : FinS g Lo W dr D L ρ H ((f env S).bind k))
    (n : ∀ x v S1 H1, Ev ρ H H1 → Sim g Lo L ρ env S1 σ H1 → RM g L ρ H H1 S1 m x v → FinS g Lo W dr D L ρ H (k v S1) → R x H1) : tE g Lo W m f σ H R :=
  tE_of s ((h.bind0 s).imp fun v S1 H1 ⟨e, s1, h1⟩ x r => n x v S1 H1 e s1 r h1)
/-- a slot gets its own thing -/
theorem Sim.setOwn {A B : List Addr} (s : Sim g (Lo.mores (A ++ B)) L ρ env S σ H) (i : Nat) {d : Nat} {x : V} {v : BP.D} (r : OwnR g L ρ H d A x v) (nd : A.Nodup) (dj : ∀ a ∈ A, a ∉ B) (n0 : ∀ a ∈ A, Lo.H0 a = none ∧ ¬ Lo.lo a) :
    Sim g (Lo.mores B) L ρ (env.set i (.own d v)) S (σ.set i (some x)) H := by
  obtain ⟨C, ow, sl⟩ := s.own
  have hA : ∀ a ∈ A, (Lo.mores (A ++ B)).lo a := fun a ha => .inr (List.mem_append_left _ ha)
  have low : ∀ a, (Lo.mores B).lo a → (Lo.mores (A ++ B)).lo a := fun a h => h.elim .inl fun h => .inr (List.mem_append_right _ h)
  refine ⟨by rw [List.length_set, List.length_set]; exact s.len, s.live, ?_, s.cells, s.base, s.pre⟩
  refine ⟨fun j => if i = j ∧ i < env.length then A else C j, ⟨fun j => ?_, fun j k a h1 h2 => ?_, ow.ndr, fun j a h1 => ?_, fun j a h1 => ?_, fun a ha => ?_, fun a h => ow.out a (low a h)⟩, fun j => ?_⟩
  · show (if i = j ∧ i < env.length then A else C j).Nodup
    split
    · exact nd
    · exact ow.nd j
  · split at h1
    · split at h2
      · omega
      · exact absurd (hA a h1) (ow.inL k a h2).2.1
    · split at h2
      · exact absurd (hA a h2) (ow.inL j a h1).2.1
      · exact ow.dj j k a h1 h2
  · split at h1
    · exact fun hr => (ow.inLr a hr).2 (hA a h1)
    · exact ow.djr j a h1
  · split at h1
    · exact ⟨ow.out a (hA a h1), fun q => q.elim (n0 a h1).2 (dj a h1), (n0 a h1).1⟩
    · exact ⟨(ow.inL j a h1).1, fun q => (ow.inL j a h1).2.1 (low a q), (ow.inL j a h1).2.2⟩
  · exact ⟨(ow.inLr a ha).1, fun q => (ow.inLr a ha).2 (low a q)⟩
  · show SlotR g Lo.me L ρ H ((env.set i (.own d v)).getD j .no) ((σ.set i (some x))[j]?.join) (if i = j ∧ i < env.length then A else C j)
    rw [getD_set, join_set, ← s.len]
    split
    · exact ⟨x, rfl, r⟩
    · exact sl j
theorem mores_nil : Lo.mores [] = Lo := by
  unfold Out.mores
  congr 1
  exact orL_nil (L := Lo.lo)
/-- a slot gets a fresh thing -/
theorem Sim.setNew (s : Sim g Lo L ρ env S σ H) (e : Ev ρ H H') (s1 : Sim g Lo L ρ env S' σ H') (i : Nat) {d : Nat} {x : V} {v : BP.D} (r : RM g L ρ H H' S' (.fresh d) x v) :
    ∃ A, Kp L ρ H (orL L A) ρ H' ∧ Sim g Lo (orL L A) ρ (env.set i (.own d v)) S' (σ.set i (some x)) H' := by
  obtain ⟨A, ro, nd, fr, c⟩ := r
  refine ⟨A, ⟨fun a o q n => ⟨e a o q fun hr => n (s.inL hr), fun h => h.elim n fun h => by rw [fr a h] at q; cases q⟩, [], (List.append_nil _).symm⟩, ?_⟩
  have q := s.grow e s1 c fr ro.mut
  have q' : Sim g (Lo.mores (A ++ [])) (orL L A) ρ env S' σ H' := by rw [List.append_nil]; exact q
  have := q'.setOwn i ro nd (fun a _ h => by cases h) fun a ha => ⟨s.old (fr a ha), fun h => s.nlive (fr a ha) (s.out a h)⟩
  rw [mores_nil] at this
  exact this
end

section
variable {dr : Nat} {g : Gx} {Lo : Out} {W : WX} {X : Cx} {s : Stmt} {ss : List Stmt} {a : Expr} {pos : Pos} {f h : SF} {fa : EF} {sc : Scope} {c : Ck} {P : Prg} {n : Nat}
theorem tS_of {D : Ends} {L : Addr → Prop} {ρ : List Addr} {env : Env} {S : List BP.D} {σ : L2.St} {H : Hp} (s : Sim g Lo L ρ env S σ H) (k : FinS g Lo W dr D L ρ H (f env S)) : tS g Lo W dr f D σ H := ⟨L, ρ, env, S, s, k⟩
theorem ss_nil : PSsm g Lo W dr X [] (flF .nx) := PSs.sub pss_nil fun D σ H ⟨L, ρ, env, S, s, k⟩ => k _ _ _ _ (.refl _ _ _) s
theorem ss_cons (hs : PSm g Lo W dr X s f) (hr : PSsm g Lo W dr X ss h) : PSsm g Lo W dr X (s :: ss) (seqS f h) := by
  refine PSs.sub (pss_cons hs hr) fun D σ H ⟨L, ρ, env, S, sm, k⟩ => ⟨L, ρ, env, S, sm, ?_⟩
  have k : FinS g Lo W dr D L ρ H ((f env S).bind fun p S => match p.1 with
    | .nx => h p.2 S
    | _ => .ok p S) := k
  cases q : f env S with
  | ok p S1 =>
    rw [q] at k
    obtain ⟨fl, env1⟩ := p
    cases fl with
    | nx => exact fun L1 ρ1 σ1 H1 kp s1 => ⟨L1, ρ1, env1, S1, s1, FinS.later kp k⟩
    | rt v => exact k
    | bk => exact k
    | ct => exact k
  | exc ci fs S1 => rw [q] at k; exact k
  | stuck => rw [q] at k; exact k
/-- no text: the state is told anew -/
theorem ss_skip (hv : ∀ D σ H, tS g Lo W dr (seqS f h) D σ H → tS g Lo W dr h D σ H) (hr : PSsm g Lo W dr X ss h) : PSsm g Lo W dr X ss (seqS f h) := PSs.sub hr hv
theorem s_pass : PSm g Lo W dr X (.Pass pos) (flF .nx) := PS.sub ps_pass fun D σ H ⟨L, ρ, env, S, s, k⟩ => k _ _ _ _ (.refl _ _ _) s
theorem s_doc {x j p q} : PSm g Lo W dr X (.Expr (.Constant (.str x) j p) q) (flF .nx) := PS.sub ps_doc fun D σ H ⟨L, ρ, env, S, s, k⟩ => k _ _ _ _ (.refl _ _ _) s
theorem s_brk : PSm g Lo W dr X (.Break pos) (flF .bk) := PS.sub ps_break fun D σ H ⟨L, ρ, env, S, s, k⟩ => k _ _ _ _ (.refl _ _ _) s
theorem s_cnt : PSm g Lo W dr X (.Continue pos) (flF .ct) := PS.sub ps_continue fun D σ H ⟨L, ρ, env, S, s, k⟩ => k _ _ _ _ (.refl _ _ _) s
theorem s_never : PSm g Lo W dr X s (fun _ _ => .stuck) := PS.sub ps_never fun D σ H ⟨L, ρ, env, S, s, k⟩ => k
theorem RT.rep {L : Addr → Prop} {ρ : List Addr} {env : Env} {S : List BP.D} {σ : L2.St} {H : Hp} (s : Sim g Lo L ρ env S σ H) {x : V} {v : BP.D} (r : Rep g L ρ H x v) (z : dr = 0 ∨ v.cont = false) : RT g Lo dr L ρ S H x v := ⟨[], L, .imm r z, by simp, (fun a ha => by cases ha), fun _ h => h, s.cells⟩
theorem s_retN : PSm g Lo W dr X (.Return none pos) (flF (.rt .non)) := PS.sub ps_retN fun D σ H ⟨L, ρ, env, S, s, k⟩ => k _ _ _ _ _ (.refl _ _ _) s (.rep s .non (.inr rfl))
theorem s_ret (ha : PEm g Lo W X (.fresh dr) a fa) : PSm g Lo W dr X (.Return (some a) pos) (retF fa) := by
  refine PS.sub (ps_ret ha) fun D σ H ⟨L, ρ, env, S, s, k⟩ => partS s k fun x v S1 H1 e s1 r k1 => ?_
  obtain ⟨A, ro, nd, fr, cl⟩ := r
  exact k1 _ _ σ _ _ (.refl _ _ _) s1 ⟨A, orL L A, ro, nd, fun b hb => ⟨s.old (fr b hb), .inr hb⟩, fun b hb => .inl hb, cl⟩
theorem s_ex (ha : PEm g Lo W X (.weak 1) a fa) (hs : swapsWith a none pos.line X.env = pure false) : PSm g Lo W dr X (.Expr a pos) (exF fa) := by
  refine PS.sub (ps_expr ha hs) fun D σ H ⟨L, ρ, env, S, s, k⟩ => partS s k fun x v S1 H1 e s1 r k1 => ?_
  exact k1 _ _ _ _ (.refl _ _ _) s1
theorem s_ite {b : Expr} {as bs : List Stmt} {fc : EF} (hc : PT X b (tT g Lo W fc)) (ha : PSsm g Lo W dr X as f) (hb : PSsm g Lo W dr X bs h) : PSm g Lo W dr X (.If b as bs pos) (iteF fc f h) := by
  refine PS.sub (ps_if hc ha hb) fun D σ H ⟨L, ρ, env, S, s, k⟩ => ?_
  refine tT_of s ((FinS.bind s k).imp fun v S1 H1 ⟨e, s1, k1⟩ t ev => ?_)
  subst ev
  cases t with
  | true => exact ⟨L, ρ, env, S1, s1, k1⟩
  | false => exact ⟨L, ρ, env, S1, s1, k1⟩
/-- a loop's body, by what the loop does behind it -/
theorem loop_end {D : Ends} {L : Addr → Prop} {ρ : List Addr} {H : Hp} {r : Res (Fl × Env)} {go : Env → List BP.D → Res (Fl × Env)} {N : L2.St → Hp → Prop}
    (k : FinS g Lo W dr D L ρ H (r.bind fun p S => match p.1 with
      | .nx => go p.2 S
      | .ct => go p.2 S
      | .bk => .ok (.nx, p.2) S
      | .rt v => .ok (.rt v, p.2) S))
    (hN : ∀ env1 S1 L1 ρ1 σ1 H1, Kp L ρ H L1 ρ1 H1 → Sim g Lo L1 ρ1 env1 S1 σ1 H1 → FinS g Lo W dr D L1 ρ1 H1 (go env1 S1) → N σ1 H1) : FinS g Lo W dr { D with nx := N, ct := N, bk := D.nx } L ρ H r := by
  cases r with
  | ok p S1 =>
    obtain ⟨fl, env1⟩ := p
    cases fl with
    | nx => exact fun L1 ρ1 σ1 H1 kp s1 => hN env1 S1 L1 ρ1 σ1 H1 kp s1 (FinS.later kp k)
    | ct => exact fun L1 ρ1 σ1 H1 kp s1 => hN env1 S1 L1 ρ1 σ1 H1 kp s1 (FinS.later kp k)
    | bk => exact k
    | rt v => exact k
  | exc ci fs S1 => exact k
  | stuck => exact k
theorem s_whl {b : Expr} {body : List Stmt} {fc : EF} (hp : PassesOwn (model X.prog X.w) X.A X.env X.xe) (hc : PT X b (tT g Lo W fc)) (hb : PSsm g Lo W dr X body f) : PSm g Lo W dr X (.While b body [] pos) (whlL fuel fc f) := by
  refine PS.sub (ps_while hp hc hb) fun D σ H ⟨L, ρ, env, S, s, k⟩ => ?_
  refine ⟨fun m σ' H' => ∃ L' ρ' env' S', Sim g Lo L' ρ' env' S' σ' H' ∧ FinS g Lo W dr D L' ρ' H' (whlL m fc f env' S'), ⟨fuel, L, ρ, env, S, s, k⟩, ?_⟩
  rintro m σ' H' ⟨L', ρ', env', S', s', k'⟩
  cases m with
  | zero => exact k'.elim
  | succ m =>
    refine tT_of s' ((FinS.bind s' k').imp fun v S1 H1 ⟨e, s1, k1⟩ t ev => ?_)
    subst ev
    cases t with
    | false => exact k1 _ _ _ _ (.refl _ _ _) s1
    | true =>
      rw [if_pos rfl]
      exact ⟨_, fun σ2 H2 w => ⟨m, Nat.lt_succ_self _, w⟩, L', ρ', env', S1, s1, loop_end (go := whlL m fc f) k1 fun env2 S2 L2 ρ2 σ2 H2 _ s2 k2 => ⟨L2, ρ2, env2, S2, s2, k2⟩⟩
/-- a for, over what stands -/
theorem s_for {tg iter : Expr} {body : List Stmt} {fi : AF} {tgI : Tg} (hp : PassesOwn (model X.prog X.w) X.A X.env X.xe) (hc : X.calm = true) (hi : PIm g Lo W X 0 tg iter fi) (hg : PG X tg (tG g Lo tgI)) (hb : PSsm g Lo W dr X body f) (hs : ∀ x, foldedSetIterable iter X.env x = pure x) :
    PSm g Lo W dr X (.For tg iter body [] pos) (forF fi tgI f) := by
  refine PS.sub (ps_for hp hc hi hg hb hs) fun D σ H ⟨L, ρ, env, S, s, k⟩ => ?_
  refine ⟨L, ρ, env, S, s, (FinS.bind s k).imp fun items S1 H1 ⟨e, s1, k1⟩ J ⟨ys, fp, hfp, w, rs⟩ => ?_⟩
  let go : BP.D → Env → List BP.D → Res (Fl × Env) := fun x env S => match tgI.store x env with
    | some env => f env S
    | none => .stuck
  refine ⟨fun i m σ' H' => m = ys.length - i ∧ i ≤ ys.length ∧ ∃ L' ρ' env' S', Kp L ρ H1 L' ρ' H' ∧ Sim g Lo L' ρ' env' S' σ' H' ∧ FinS g Lo W dr D L' ρ' H' (forL (items.drop i) go env' S'), ⟨ys.length, by simp, Nat.zero_le _, L, ρ, env, S1, .refl _ _ _, s1, by rw [List.drop_zero]; exact k1⟩, ?_⟩
  rintro i m σ' H' ⟨rfl, hi, L', ρ', env', S', kp, s', k'⟩
  have hG : ∀ p ∈ fp, H' p.1 = some p.2 := fun p hp => (kp.keep _ _ (hfp p hp).1 (hfp p hp).2).1
  by_cases hlt : i < ys.length
  · refine .inr ⟨w.goes i H' hlt hG, fun σ2 H2 => i + 1 ≤ ys.length ∧ ∃ L' ρ' env' S', Kp L ρ H1 L' ρ' H2 ∧ Sim g Lo L' ρ' env' S' σ2 H2 ∧ FinS g Lo W dr D L' ρ' H2 (forL (items.drop (i + 1)) go env' S'), fun σ2 H2 q => ⟨ys.length - (i + 1), by omega, rfl, q⟩, fun x H3 y => ?_⟩
    have y := w.yields i H' x H3 hlt hG y
    have rs' : All2 (RepY g L' ρ' H') ys items := rs.imp fun y d r => kp.repY s1 r
    obtain ⟨d, e2, ev3, s3, r3⟩ := rep_item s' (Ev.refl _ _) (fun _ _ r => r) rs' y
    rw [drop_at e2] at k'
    unfold forL at k'
    have k3 := FinS.later (ev3.kp s') k'
    cases e3 : tgI.store d env' with
    | none =>
      have : go d env' S' = .stuck := by show (match tgI.store d env' with | some env => f env S' | none => .stuck) = _; rw [e3]
      rw [this] at k3
      exact k3.elim
    | some env1 =>
      have : go d env' S' = f env1 S' := by show (match tgI.store d env' with | some env => f env S' | none => .stuck) = _; rw [e3]
      rw [this] at k3
      refine ⟨L', ρ', env', S', d, env1, s3, r3, e3, fun σ2 o1 s4 => ⟨L', ρ', env1, S', s4, loop_end (go := forL (items.drop (i + 1)) go) k3 fun env2 S2 L2 ρ2 σ3 H4 kp2 s5 k5 => ?_⟩⟩
      exact ⟨hlt, L2, ρ2, env2, S2, kp.trans ((ev3.kp s').trans kp2), s5, k5⟩
  · have e : i = ys.length := by omega
    subst e
    refine .inl ⟨w.stops H' hG, ?_⟩
    have e4 : items.drop ys.length = [] := by rw [rs.length]; exact List.drop_length
    rw [e4] at k'
    exact k' _ _ _ _ (.refl _ _ _) s'
end
end BP
end

section
set_option autoImplicit false
set_option linter.all false
set_option maxRecDepth 100000
/-! BPl: assignments to a name. -/
namespace BP
open PySem PySem.Spec PyProof.Rows L2

/-- name = {..} on one line: the value is stored inside -/
def swB (sc : Scope) (y : Str) (py : Pos) (x : Expr) : Bool := match x with
  | .ListComp _ _ s p | .SetComp _ _ s p | .DictComp _ _ _ s p => (sc.names.lookup y == some .local) && (py.line == p.line) && !(s.names.any fun (n, k) => n == y && (k == .local || k == .cell))
  | _ => false
section
variable {dr : Nat} {g : Gx} {Lo : Out} {W : WX} {X : Cx} {a x : Expr} {pos py : Pos} {y : Str} {fa : EF} {sc : Scope} {c : Ck} {P : Prg} {n : Nat} {t t' : TE}
theorem sw_eq (hs : X.env.scope = sc) (hk : X.env.scope.kind = .function) (l : Nat) : swapsWith x (some (.Name y py)) l X.env = pure (swB sc y py x) := by
  have hb : X.env.blockKind = .function := by unfold Env.blockKind; rw [hk]; rfl
  have hq : X.env.kindOf y = sc.names.lookup y := by unfold Env.kindOf; rw [hs]
  cases x with
  | ListComp _ _ s p => unfold swapsWith swB; simp only [hb, hq, Expr.pos]; rfl
  | SetComp _ _ s p => unfold swapsWith swB; simp only [hb, hq, Expr.pos]; rfl
  | DictComp _ _ _ s p => unfold swapsWith swB; simp only [hb, hq, Expr.pos]; rfl
  | _ => rfl
/-- name = {..}, stored inside -/
def SetTo (X : Cx) (x : Expr) (t : TE) : Prop := ∀ (i : Nat) (y : Str) (py spos : Pos), X.N.Nodup → X.N[i]? = some y → X.env.scope.names.lookup y = some .local → swapsWith x (some (.Name y py)) spos.line X.env = pure true → PS X (.Assign [.Name y py] x spos) (tAsg t (gName i))
theorem SetTo.sub (h : SetTo X x t) (i : ∀ σ H Q, t' σ H Q → t σ H Q) : SetTo X x t' := fun j y py spos h1 h2 h3 h4 => PS.sub (h j y py spos h1 h2 h3 h4) fun D σ H q => i σ H _ q
theorem tE_weaken {f : EF} {m : Mode} {k : Nat} (hm : m.upTo k) : ∀ σ H Q, tE g Lo W (.weak k) f σ H Q → tE g Lo W m f σ H Q := fun σ H Q t => by
  obtain ⟨L, ρ, env, S, s, h⟩ := tE_to t
  exact tE_of s (h.imp fun v S' H' k x r => k x (r.weaken s _ hm))
theorem tE_zero {f : EF} : ∀ σ H Q, tE g Lo W (.fresh 0) f σ H Q → tE g Lo W (.weak 0) f σ H Q := fun σ H Q t => by
  obtain ⟨L, ρ, env, S, s, h⟩ := tE_to t
  exact tE_of s (h.impS fun v S' H' _ s' k x r => k x ⟨[], .imm0 r (.inl rfl), by simp, (fun a ha => by cases ha), CellsR.nil s'.cells⟩)
theorem SetTo.to {f : EF} {m : Mode} (h : SetTo X x (tE g Lo W (.fresh 1) f)) (hm : okM m = true) : SetTo X x (tE g Lo W m f) := by
  cases m with
  | weak k => exact h.sub (tE_weaken True.intro)
  | fresh k =>
    have hk : k ≤ 1 := of_decide_eq_true hm
    match k, hk with
    | 0, _ => exact (h.sub (tE_weaken (k := 0) True.intro)).sub tE_zero
    | 1, _ => exact h
def Ex.isComp : Ex → Bool
  | .lc _ _ _ _ _ => true
  | .lc2 _ _ _ _ _ _ _ _ => true
  | .dc _ _ _ _ _ _ _ => true
  | .dc2 _ _ _ _ _ _ _ _ _ => true
  | _ => false
theorem Ex.soundSet (e : Ex) (m : Mode) (C : Ctt g c P X sc n W) (hc : e.isComp = true) (h : e.ck c sc m x = true) : SetTo X x (tE g Lo W m (e.ev P false)) := by
  cases e with
  | lc elt tg it ifs own =>
    unfold Ex.ck at h
    split at h
    · rename_i x0 t0 i0 cs0 s0 p0
      obtain ⟨h, h8⟩ := ands h
      obtain ⟨h, h7⟩ := ands h
      obtain ⟨h, h6⟩ := ands h
      obtain ⟨h, h5⟩ := ands h
      obtain ⟨h, h4⟩ := ands h
      obtain ⟨h, h3⟩ := ands h
      obtain ⟨h1, h2⟩ := ands h
      have B := C.blkOk h3
      have E : ∀ k, elM m = .fresh k → SetTo X (.ListComp x0 [⟨t0, i0, cs0, 0⟩] s0 p0) (tE g Lo W (.fresh (k + 1)) (lcF (It.evi P it) tg own (Ox.tvo P ifs) (elt.ev P false))) := fun k hk => by
        rw [hk] at h7
        have e := own_eq (c := c) own
        refine SetTo.sub (t := tLc (tI g Lo W 1 (It.evi P it)) _ _ _ ((ownOf c own).map (·.2))) (fun i y py spos hN hy hyl hsw => ps_setLc C.cok.calm hN hy hyl hsw (it.sound Lo _ _ _ C h1) B (fun s H a cl fp => x_tg (C.blk _ s H a cl fp).cok tg _ h5) (fun s H a cl fp => x_T fun Lo' => ifs.soundT Lo' _ (C.blk _ s H a cl fp) h6) (fun s H a cl fp => x_E fun Lo' => elt.sound Lo' _ _ (C.blk _ s H a cl fp) h7) (fold_ok h2 _)) fun σ H Q t => ?_
        rw [e] at t
        exact lc_of (fun i hi => by rw [← e]; exact mem_of h4 hi) σ H Q t
      cases m with
      | weak k => exact (E 0 rfl).sub (tE_weaken True.intro)
      | fresh k => cases k with
        | zero => exact ((E 0 rfl).sub (tE_weaken (k := 0) True.intro)).sub tE_zero
        | succ k => exact E k rfl
    · cases h
  | lc2 elt tg it tg2 it2 ifs2 own own2 =>
    unfold Ex.ck at h
    split at h
    · rename_i x0 t0 i0 t2 i2 cs0 s0 p0
      obtain ⟨h, hl⟩ := ands h
      obtain ⟨h, he⟩ := ands h
      obtain ⟨h, hf⟩ := ands h
      obtain ⟨h, hi2⟩ := ands h
      obtain ⟨h, ht2⟩ := ands h
      obtain ⟨h, ht⟩ := ands h
      obtain ⟨h, ho⟩ := ands h
      obtain ⟨h, hn2⟩ := ands h
      obtain ⟨h, hn⟩ := ands h
      obtain ⟨h, hb⟩ := ands h
      obtain ⟨h, hs2⟩ := ands h
      obtain ⟨h1, hs⟩ := ands h
      have B := C.blkOk hb
      have E : ∀ k, elM m = .fresh k → SetTo X (.ListComp x0 [⟨t0, i0, [], 0⟩, ⟨t2, i2, cs0, 0⟩] s0 p0) (tE g Lo W (.fresh (k + 1)) (lc2F (It.evi P it) tg own (It.evi P it2) tg2 own2 (Ox.tvo P ifs2) (elt.ev P false))) := fun k hk => by
        rw [hk] at he
        have e := own_eq (c := c) own
        refine SetTo.sub (t := tLc2 (tI g Lo W 1 (It.evi P it)) _ _ _ _ _ _ ((ownOf c own).map (·.2)) own2) (fun i y py spos hN hy hyl hsw => ps_setLc2 (vs1 := own2) C.cok.calm hN hy hyl hsw (it.sound Lo _ _ _ C h1) B (fun i hi => by rw [← e]; exact mem_of ho hi) (fun s H a cl fp => x_tg (C.blk _ s H a cl fp).cok tg _ ht) (fun s H a cl fp => pts_nil)
          (fun s H a cl fp => x_I fun Lo' => it2.sound Lo' _ _ _ (C.blk _ s H a cl fp) hi2) (fun s H a cl fp => x_tg (C.blk _ s H a cl fp).cok tg2 _ ht2) (fun s H a cl fp => x_T fun Lo' => ifs2.soundT Lo' _ (C.blk _ s H a cl fp) hf)
          (fun s H a cl fp => x_E fun Lo' => elt.sound Lo' _ _ (C.blk _ s H a cl fp) he) (fold_ok hs _) (fun env => fold_ok hs2 env)) fun σ H Q t => ?_
        rw [e] at t
        exact lc2_of (fun i hi => by rw [← e]; exact mem_of hn hi) (fun i hi => mem_of hn2 hi) σ H Q t
      cases m with
      | weak k => exact (E 0 rfl).sub (tE_weaken True.intro)
      | fresh k => cases k with
        | zero => exact ((E 0 rfl).sub (tE_weaken (k := 0) True.intro)).sub tE_zero
        | succ k => exact E k rfl
    · cases h
  | dc nk k v tg it ifs own =>
    unfold Ex.ck at h
    split at h
    · rename_i x0 y0 t0 i0 cs0 s0 p0
      obtain ⟨h, hm⟩ := ands h
      obtain ⟨h, hv⟩ := ands h
      obtain ⟨h, hk⟩ := ands h
      obtain ⟨h, hf⟩ := ands h
      obtain ⟨h, ht⟩ := ands h
      obtain ⟨h, hn⟩ := ands h
      obtain ⟨h, hb⟩ := ands h
      obtain ⟨h1, hs⟩ := ands h
      have B := C.blkOk hb
      have e := own_eq (c := c) own
      have xg := C.xg
      have E : SetTo X (.DictComp x0 y0 [⟨t0, i0, cs0, 0⟩] s0 p0) (tE g Lo W (.fresh 1) (dcF nk (It.evi P it) tg own (Ox.tvo P ifs) (k.ev P false) (v.ev P false))) := by
        refine SetTo.sub (fun i y py spos hN hy hyl hsw => ps_setDcG (o0 := o0G g nk) (tail := tail1 (xE g (.weak 0) (k.ev P false)) (xE g (.weak 0) (v.ev P false)) (putG g nk)) (TW := fun D env => PutW X.prog X.w X.A x0 y0 D env) hy hyl hsw C.cok.calm hN (it.sound Lo _ _ _ C h1) B (fun s H a cl fp => x_tg (C.blk _ s H a cl fp).cok tg _ ht) (fun s H a cl fp => x_T fun Lo' => ifs.soundT Lo' _ (C.blk _ s H a cl fp) hf)
          (fun s H a cl fp D => tail1_ok (X := X.blk s H s0 (compEnvC s0 cl a X.env) fp) rfl (x_E fun Lo' => k.sound Lo' _ _ (C.blk _ s H a cl fp) hk) (x_E fun Lo' => v.sound Lo' _ _ (C.blk _ s H a cl fp) hv) (put_ok (X := X.blk s H s0 (compEnvC s0 cl a X.env) fp) xg.prog xg.w xg.hu nk)) (fun R itv D cl a => loop_1) (o0_ok xg.prog xg.w nk) (fold_ok hs _)) fun σ H Q t => ?_
        rw [e] at t
        exact dc_of (fun i hi => by rw [← e]; exact mem_of hn hi) σ H Q t
      exact E.to hm
    · cases h
  | dc2 nk k v tg it tg2 it2 own own2 =>
    unfold Ex.ck at h
    split at h
    · rename_i x0 y0 t0 i0 t2 i2 s0 p0
      obtain ⟨h, hm⟩ := ands h
      obtain ⟨h, hv⟩ := ands h
      obtain ⟨h, hk⟩ := ands h
      obtain ⟨h, hi2⟩ := ands h
      obtain ⟨h, ht2⟩ := ands h
      obtain ⟨h, ht⟩ := ands h
      obtain ⟨h, ho⟩ := ands h
      obtain ⟨h, hn2⟩ := ands h
      obtain ⟨h, hn⟩ := ands h
      obtain ⟨h, hb⟩ := ands h
      obtain ⟨h, hs2⟩ := ands h
      obtain ⟨h1, hs⟩ := ands h
      have B := C.blkOk hb
      have e := own_eq (c := c) own
      have xg := C.xg
      have E : SetTo X (.DictComp x0 y0 [⟨t0, i0, [], 0⟩, ⟨t2, i2, [], 0⟩] s0 p0) (tE g Lo W (.fresh 1) (dc2F nk (It.evi P it) tg own (It.evi P it2) tg2 own2 (k.ev P false) (v.ev P false))) := by
        refine SetTo.sub (fun i y py spos hN hy hyl hsw => ps_setDcG (o0 := o0G g nk) (tail := tail2 (xI g 0 (It.evi P it2)) (xG g tg2) (xT g yesF) (xE g (.weak 0) (k.ev P false)) (xE g (.weak 0) (v.ev P false)) (putG g nk) own2) (TW := fun D env => InW X.prog X.w X.A (d2 x0 y0 t0 i0 t2 i2 [] [] s0 p0) i2 D env) hy hyl hsw C.cok.calm hN (it.sound Lo _ _ _ C h1) B (fun s H a cl fp => x_tg (C.blk _ s H a cl fp).cok tg _ ht) (fun s H a cl fp => pts_nil)
          (fun s H a cl fp D => tail2_ok (X := X.blk s H s0 (compEnvC s0 cl a X.env) fp) C.cok.calm rfl (fun i hi => by rw [← e]; exact mem_of ho hi) (x_I fun Lo' => it2.sound Lo' _ _ _ (C.blk _ s H a cl fp) hi2) (x_tg (C.blk _ s H a cl fp).cok tg2 _ ht2)
            (x_T fun Lo' => PTs.sub pts_nil fun σ H Q t => by
              obtain ⟨L, ρ, env, S, s, t⟩ := t
              exact t true H (.refl _ _) s rfl)
            (x_E fun Lo' => k.sound Lo' _ _ (C.blk _ s H a cl fp) hk) (x_E fun Lo' => v.sound Lo' _ _ (C.blk _ s H a cl fp) hv) (put_ok (X := X.blk s H s0 (compEnvC s0 cl a X.env) fp) xg.prog xg.w xg.hu nk)) (fun R itv D cl a => loop_2out (fold_ok hs2 _)) (o0_ok xg.prog xg.w nk) (fold_ok hs _)) fun σ H Q t => ?_
        rw [e] at t
        exact dc2_of (fun i hi => by rw [← e]; exact mem_of hn hi) (fun i hi => mem_of hn2 hi) σ H Q t
      exact E.to hm
    · cases h
  | _ => cases hc
/-- the mode of a slot's value -/
def slM (d : Nat) : Mode := if d = 0 then .weak 0 else .fresh d
/-- .. stored -/
theorem asg_end {D : Ends} {i d : Nat} {σ : L2.St} {H : Hp} (f : EF) (t : tS g Lo W dr (asgF i d f) D σ H) : tAsg (tE g Lo W (slM d) f) (gName i) D σ H := by
  obtain ⟨L, ρ, env, S, s, k⟩ := t
  refine partS0 s k fun x v S1 H1 e s1 r k1 => ?_
  show D.nx (σ.set i (some x)) H1
  by_cases hd : d = 0
  · subst hd
    have r : Rep g L ρ H1 x v := r
    exact k1 _ _ _ _ (e.kp s) (s1.setVal i r)
  · unfold slM at r
    rw [if_neg hd] at r
    obtain ⟨A, kp, s2⟩ := s.setNew e s1 i r
    have : mkSlot d v = .own d v := if_neg hd
    rw [← this] at s2
    exact k1 _ _ _ _ kp s2
/-- where a def's statements run -/
structure Csx (g : Gx) (c : Ck) (P : Prg) (X : Cx) (sc : Scope) (n : Nat) (W : WX) : Prop where
  tt : Ctt g c P X sc n W
  sc : X.env.scope = sc
  kd : X.env.scope.kind = .function
  stk : X.stack = X.env :: X.outer
  frm : X.env.frame = some X.env.locals
/-- a name of one's own -/
def nmOk (c : Ck) (sc : Scope) (i : Nat) (y : Str) : Bool := decide (c.N[i]? = some y) && (sc.names.lookup y == some .local || sc.names.lookup y == some .cell)
theorem nm_ok (C : Csx g c P X sc n W) {i : Nat} (h : nmOk c sc i y = true) : X.N.Nodup ∧ X.N[i]? = some y ∧ Loc X.env.scope y ∧ (X.fn y = true ∨ X.env.scope.names.lookup y = some .local) := by
  unfold nmOk at h
  simp only [Bool.and_eq_true, Bool.or_eq_true, beq_iff_eq, decide_eq_true_eq] at h
  obtain ⟨h1, h2⟩ := h
  obtain ⟨h3, h4⟩ := C.tt.cok.loc h2
  exact ⟨by rw [C.tt.cok.nm]; exact C.tt.cok.nd, by rw [C.tt.cok.nm]; exact h1, h3, h4⟩
theorem s_asg (C : Csx g c P X sc n W) {i d : Nat} (e : Ex) (h1 : nmOk c sc i y = true) (h2 : e.ck c sc (slM d) a = true) (h3 : (!swB sc y py a || e.isComp) = true) : PSm g Lo W dr X (.Assign [.Name y py] a pos) (asgF i d (e.ev P false)) := by
  obtain ⟨hN, hi, hl, hf⟩ := nm_ok C h1
  refine PS.sub ?_ fun D σ H => asg_end (e.ev P false)
  cases hb : swB sc y py a with
  | false => exact ps_set hN hi hl (e.sound Lo _ _ C.tt h2) ((sw_eq C.sc C.kd _).trans (by rw [hb])) hf
  | true =>
    rw [hb] at h3
    have hy : sc.names.lookup y = some .local := by
      unfold swB at hb
      split at hb
      all_goals first | (simp only [Bool.and_eq_true, beq_iff_eq] at hb; exact hb.1.1) | cases hb
    exact e.soundSet (slM d) C.tt (by simpa using h3) h2 i y py pos hN hi (by rw [C.sc]; exact hy) ((sw_eq C.sc C.kd _).trans (by rw [hb]))
end
end BP
end

section
set_option autoImplicit false
set_option linter.all false
set_option maxRecDepth 100000
/-! BPm: assignments to some names at once. -/
namespace BP
open PySem PySem.Spec PyProof.Rows L2

/-- things of slots of their own -/
inductive OwnsR (g : Gx) (M : Addr → Prop) (ρ : List Addr) (H : Hp) : List Nat → List (List Addr) → List V → List D → Prop
  | nil : OwnsR g M ρ H [] [] [] []
  | cons {d : Nat} {A : List Addr} {x : V} {v : D} {ds : List Nat} {As : List (List Addr)} {xs : List V} {vs : List D} : OwnR g M ρ H d A x v → OwnsR g M ρ H ds As xs vs → OwnsR g M ρ H (d :: ds) (A :: As) (x :: xs) (v :: vs)
def tD (g : Gx) (Lo : Out) (W : WX) (ds : List Nat) (f : AF) : TA := fun σ H Q => ∃ L ρ env S, Sim g Lo L ρ env S σ H ∧ Fin g Lo W L ρ env σ (fun vs S' H' => ∀ xs As, Sim g (Lo.mores As.flatten) (orL L As.flatten) ρ env S' σ H' → OwnsR g (orL L As.flatten) ρ H' ds As xs vs → As.flatten.Nodup → (∀ a ∈ As.flatten, H a = none) → Q xs H') (f env S) H
theorem XRep.offL {g : Gx} {L : Addr → Prop} {ρ : List Addr} {H : Hp} {B : List Addr} {d : Option Addr} {fs : List D} (x : XRep g (orL L B) ρ H d fs) : XRep g L ρ H d fs := by
  rcases x with x | ⟨a, xs, h1, h2, h3⟩
  · exact .inl x
  · exact .inr ⟨a, xs, h1, h2, h3.1.imp fun _ _ r => r.keep keep_offL (fun _ _ h => h) fun _ _ h => h, h3.2⟩
section
variable {dr : Nat} {g : Gx} {Lo : Out} {W : WX} {X : Cx} {L : Addr → Prop} {ρ : List Addr} {env : Env} {S : List D} {σ : L2.St} {H H1 : Hp}
/-- some more live things are there for a while -/
theorem Fin.enterL {α : Type} {ok : α → List D → Hp → Prop} {r : Res α} {B : List Addr} (h : Fin g Lo W L ρ env σ ok r H) (e0 : Ev ρ H H1) (inl : ∀ a, Lo.lo a → L a) :
    Fin g (Lo.mores B) W (orL L B) ρ env σ (fun v S' H' => Sim g (Lo.mores B) (orL L B) ρ env S' σ H' ∧ Ev ρ H1 H' ∧ ok v S' H') r H1 := by
  cases r with
  | ok v S' => exact fun H' e s => ⟨s, e, h H' (e0.trans e) (s.doneL inl)⟩
  | exc c fs S' => exact fun d H' e s x => h d H' (e0.trans e) (s.doneL inl) x.offL
  | stuck => exact h
/-- a thing for a slot -/
theorem RM.slot {d : Nat} {x : V} {v : D} (s1 : Sim g Lo L ρ env S σ H1) (r : RM g L ρ H H1 S (slM d) x v) : ∃ A, OwnR g (orL L A) ρ H1 d A x v ∧ A.Nodup ∧ (∀ a ∈ A, H a = none) ∧ CellsR g (orL L A) ρ H1 S := by
  by_cases hd : d = 0
  · subst hd
    exact ⟨[], .imm0 r (.inl rfl), by simp, (fun a ha => by cases ha), CellsR.nil s1.cells⟩
  · unfold slM at r
    rw [if_neg hd] at r
    exact r
theorem OwnsR.keep {M M' : Addr → Prop} {ds : List Nat} {As : List (List Addr)} {xs : List V} {vs : List D} (r : OwnsR g M ρ H ds As xs vs) (k : Keep M M' H H1) (t : TupK H H1) (h : ∀ A ∈ As, ∀ a ∈ A, ∀ o, H a = some o → H1 a = some o) : OwnsR g M' ρ H1 ds As xs vs := by
  induction r with
  | nil => exact .nil
  | cons r t' ih => exact .cons (r.keep k t (fun _ _ h => h) (h _ List.mem_cons_self)) (ih fun A hA => h A (List.mem_cons_of_mem _ hA))
theorem d_nil : PA X [] (tD g Lo W [] nilF) := PA.sub pa_nil fun σ H Q ⟨L, ρ, env, S, s, h⟩ => h.ok s [] [] (by
  show Sim g (Lo.mores []) (orL L []) ρ env S σ H
  rw [mores_nil, orL_nil]; exact s) .nil (by simp) fun a ha => by cases ha
theorem _root_.L2.PA.ex {ι : Type} {X : Cx} {es : List Expr} {t : ι → TA} (h : ∀ i, PA X es (t i)) : PA X es (fun σ H Q => ∃ i, t i σ H Q) := ⟨fun po p s σ H Q I ⟨i, q⟩ => (h i).run po p s σ H Q I q⟩
theorem d_cons {x : Expr} {xs : List Expr} {fe : EF} {fr : AF} {d : Nat} {ds : List Nat} (hx : PEm g Lo W X (slM d) x fe) (hr : ∀ Lo, PA X xs (tD g Lo W ds fr)) (hp : plainE x = true) : PA X (x :: xs) (tD g Lo W (d :: ds) (consF fe fr)) := by
  refine PA.sub (pa_cons hx (PA.ex hr) (star_one hp)) fun σ H Q ⟨L, ρ, env, S, s, h⟩ => ?_
  refine tE_of s ((Fin.bind h).imp fun v S1 H1 ⟨e1, s1, h1⟩ x r => ?_)
  obtain ⟨A, ro, nd, fr', cl⟩ := RM.slot s1 r
  have s2 := s.grow e1 s1 cl fr' ro.mut
  refine ⟨Lo.mores A, orL L A, ρ, env, S1, s2, ((Fin.bind h1).enterL (B := A) (.refl _ _) s.out).imp fun vs S2 H2 ⟨s3, e2, _, s4, h2⟩ xs As s5 rs nds frs => ?_⟩
  have h3 := h2.ok s4
  have eF : (A :: As).flatten = A ++ As.flatten := rfl
  have keep : OwnR g (orL L (A ++ As.flatten)) ρ H2 d A x v := by
    refine ro.keep (fun a o q na => ⟨e2 a o q fun hr => na (.inl (s.inL hr)), fun h => na (h.elim .inl fun h => (List.mem_append.mp h).elim .inr fun h => by rw [frs a h] at q; cases q)⟩) (e2.tup s1) (fun _ _ h => h) fun a ha o q => e2 a o q fun hr => ?_
    obtain ⟨u, z, _⟩ := s.live a (s.inL hr)
    rw [fr' a ha] at z; cases z
  rw [mores_app, orL_app] at s5
  rw [orL_app] at rs
  refine h3 (x :: xs) (A :: As) s5 (.cons keep rs) ?_ fun a ha => ?_
  · rw [eF, List.nodup_append]
    exact ⟨nd, nds, fun a h1 b h2 e => by
      subst e
      obtain ⟨u, z, _⟩ := ro.mut a h1
      rw [frs a h2] at z; cases z⟩
  · rw [eF] at ha
    rcases List.mem_append.mp ha with ha | ha
    · exact fr' a ha
    · have q := frs a ha
      exact e1.none q fun hr => by
        obtain ⟨u, z, _⟩ := s1.live a (s1.inL hr)
        rw [q] at z; cases z
/-- .. all are stored -/
def sets : List Nat → List V → L2.St → L2.St
  | i :: is, x :: xs, σ => sets is xs (σ.set i (some x))
  | _, _, σ => σ
theorem Sim.sets {M : Addr → Prop} {As : List (List Addr)} {xs : List V} {ds : List Nat} {vs : List D} (r : OwnsR g M ρ H ds As xs vs) : ∀ {is : List Nat} {env env' : Env} {σ : L2.St}, Sim g (Lo.mores As.flatten) M ρ env S σ H → As.flatten.Nodup → (∀ a ∈ As.flatten, Lo.H0 a = none ∧ ¬ Lo.lo a) → setAll is ds vs env = some env' → Sim g Lo M ρ env' S (sets is xs σ) H := by
  induction r with
  | nil =>
    intro is env env' σ s _ _ e
    cases is with
    | nil => cases e; exact (mores_nil (Lo := Lo)) ▸ s
    | cons _ _ => cases e
  | @cons d A x v ds As xs vs r t ih =>
    intro is env env' σ s nd n0 e
    cases is with
    | nil => cases e
    | cons i is =>
      have e : setAll is ds vs (env.set i (mkSlot d v)) = some env' := e
      have eF : (A :: As).flatten = A ++ As.flatten := rfl
      rw [eF] at nd n0 s
      rw [List.nodup_append] at nd
      refine ih ?_ nd.2.1 (fun a ha => n0 a (List.mem_append_right _ ha)) e
      by_cases hd : d = 0
      · subst hd
        cases r with
        | imm r _ => exact s.setVal i r
      · have : mkSlot d v = .own d v := if_neg hd
        rw [this]
        exact s.setOwn i r nd.1 (fun a ha hb => nd.2.2 a ha a hb rfl) fun a ha => n0 a (List.mem_append_left _ ha)
theorem OwnsR.length {M : Addr → Prop} {As : List (List Addr)} {xs : List V} {ds : List Nat} {vs : List D} (r : OwnsR g M ρ H ds As xs vs) : xs.length = ds.length := by
  induction r with
  | nil => rfl
  | cons _ _ ih => simp [ih]
/-- behind the parts -/
theorem par_end {D : Ends} {is ds : List Nat} {f : AF} (t : tS g Lo W dr (parF is ds f) D σ H) : tD g Lo W ds f σ H fun xs H1 => xs.length = ds.length ∧ D.nx (sets is xs σ) H1 := by
  obtain ⟨L, ρ, env, S, s, k⟩ := t
  refine ⟨L, ρ, env, S, s, (FinS.bind0 s k).imp fun vs S1 H1 ⟨e1, s1, k1⟩ xs As s2 rs nd fr => ⟨?_, ?_⟩⟩
  · exact rs.length
  · cases q : setAll is ds vs env with
    | none => rw [q] at k1; exact k1.elim
    | some env' =>
      rw [q] at k1
      have s3 := Sim.sets rs s2 nd (fun a ha => ⟨s.old (fr a ha), fun h => s.nlive (fr a ha) (s.out a h)⟩) q
      refine k1 _ _ _ _ ⟨fun a o z n => ⟨e1 a o z fun hr => n (s.inL hr), fun h => h.elim n fun h => by rw [fr a h] at z; cases z⟩, [], (List.append_nil _).symm⟩ s3
variable {c : Ck} {P : Prg} {sc : Scope} {n : Nat} {a b e1 e2 e3 : Expr} {x y z : Str} {pos px py pz pt p2 : Pos} {kt k2 : Nat}
/-- the stores are swapped -/
def isStar : Expr → Bool
  | .Starred _ _ => true
  | _ => false
def parB (vs : List Expr) : Bool := !vs.any isStar && !vs.all (foldedForSure 8) && !vs.all (constantsAlone 8)
def locB (sc : Scope) (x : Str) : Bool := sc.names.lookup x == some .local
theorem loc_b (hs : X.env.scope = sc) (h : locB sc x = true) : X.env.kindOf x = some .local ∧ X.env.scope.names.lookup x = some .local := by
  unfold locB at h
  rw [beq_iff_eq] at h
  have : X.env.scope.names.lookup x = some .local := by rw [hs]; exact h
  exact ⟨this, this⟩
theorem sp_two (hs : X.env.scope = sc) (hk : X.env.scope.kind = .function) (h1 : locB sc x = true) (h2 : locB sc y = true) (hl : (py.line == px.line) = true) (hn : x ≠ y) (hv : parB [e1, e2] = true) : swappedStores [.Tuple [.Name x px, .Name y py] kt pt] (.Tuple [e1, e2] k2 p2) X.env = pure (some [x, y]) := by
  have hb : X.env.blockKind = .function := by unfold Env.blockKind; rw [hk]; rfl
  have q1 := (loc_b hs h1).1
  have q2 := (loc_b hs h2).1
  have q3 : py.line = px.line := by simpa using hl
  unfold parB at hv
  simp only [Bool.and_eq_true, Bool.not_eq_true'] at hv
  obtain ⟨⟨v1, v2⟩, v3⟩ := hv
  have v1 : ([e1, e2].any fun | .Starred .. => true | _ => false) = false := v1
  have nm : ([Expr.Name x px, .Name y py].filterMap fun
    | .Name id pos => if (X.env.kindOf id == some .local && pos.line == px.line) = true then some id else none
    | _ => none) = [x, y] := by
    simp [List.filterMap, q1, q2, q3]
  refine (if_neg ?_).trans ((if_neg ?_).trans ((if_neg ?_).trans ((if_neg ?_).trans ((if_neg ?_).trans ?_))))
  · rw [hb]; simp
  · exact fun h => Bool.false_ne_true (v1.symm.trans h)
  · intro h
    have h' : ([x, y].length != 2 || [x, y].eraseDups.length != [x, y].length) = true := by rw [← nm]; exact h
    simp [List.eraseDups_cons, Ne.symm hn] at h'
  · exact fun h => Bool.false_ne_true (v2.symm.trans h)
  · exact fun h => Bool.false_ne_true (v3.symm.trans h)
  · rw [← nm]; rfl
theorem sp_three (hs : X.env.scope = sc) (hk : X.env.scope.kind = .function) (h1 : locB sc x = true) (h2 : locB sc y = true) (h3 : locB sc z = true) (hl : (py.line == px.line) = true) (hl2 : (pz.line == px.line) = true) (hn : x ≠ y) (hn2 : x ≠ z) (hn3 : y ≠ z) (hv : parB [e1, e2, e3] = true) :
    swappedStores [.Tuple [.Name x px, .Name y py, .Name z pz] kt pt] (.Tuple [e1, e2, e3] k2 p2) X.env = pure (some [x, y, z]) := by
  have hb : X.env.blockKind = .function := by unfold Env.blockKind; rw [hk]; rfl
  have q1 := (loc_b hs h1).1
  have q2 := (loc_b hs h2).1
  have q4 := (loc_b hs h3).1
  have q3 : py.line = px.line := by simpa using hl
  have q5 : pz.line = px.line := by simpa using hl2
  unfold parB at hv
  simp only [Bool.and_eq_true, Bool.not_eq_true'] at hv
  obtain ⟨⟨v1, v2⟩, v3⟩ := hv
  have v1 : ([e1, e2, e3].any fun | .Starred .. => true | _ => false) = false := v1
  have nm : ([Expr.Name x px, .Name y py, .Name z pz].filterMap fun
    | .Name id pos => if (X.env.kindOf id == some .local && pos.line == px.line) = true then some id else none
    | _ => none) = [x, y, z] := by
    simp [List.filterMap, q1, q2, q3, q4, q5]
  refine (if_neg ?_).trans ((if_neg ?_).trans ((if_neg ?_).trans ((if_neg ?_).trans ((if_neg ?_).trans ?_))))
  · rw [hb]; simp
  · exact fun h => Bool.false_ne_true (v1.symm.trans h)
  · intro h
    have h' : ([x, y, z].length != 3 || [x, y, z].eraseDups.length != [x, y, z].length) = true := by rw [← nm]; exact h
    simp [List.eraseDups_cons, Ne.symm hn, Ne.symm hn2, Ne.symm hn3] at h'
  · exact fun h => Bool.false_ne_true (v2.symm.trans h)
  · exact fun h => Bool.false_ne_true (v3.symm.trans h)
  · rw [← nm]; rfl
theorem sp_none {ts vs : List Expr} {env : PySem.Env} (hv : vs.all (foldedForSure 8) = true) : swappedStores [.Tuple ts kt pt] (.Tuple vs k2 p2) env = pure none := by
  have key : ∀ {b1 b2 b3 b4 : Bool} {u : Sem (Option (List Str))}, b4 = true → (if b1 = true then pure none else if b2 = true then pure none else if b3 = true then pure none else if b4 = true then pure none else u) = pure none := by
    intro b1 b2 b3 b4 u h
    subst h
    cases b1 <;> cases b2 <;> cases b3 <;> rfl
  exact key hv
theorem s_par2 (C : Csx g c P X sc n W) {i j d d' : Nat} (u v : Ex) (hi : c.N[i]? = some x) (hj : c.N[j]? = some y) (hx : locB sc x = true) (hy : locB sc y = true) (hl : (py.line == px.line) = true) (hn : x ≠ y) (hv : parB [e1, e2] = true) (h1 : u.ck c sc (slM d) e1 = true) (h2 : v.ck c sc (slM d') e2 = true) (hp : plainE e1 = true) (hp2 : plainE e2 = true) :
    PSm g Lo W dr X (.Assign [.Tuple [.Name x px, .Name y py] kt pt] (.Tuple [e1, e2] k2 p2) pos) (parF [i, j] [d, d'] (consF (u.ev P false) (consF (v.ev P false) nilF))) := by
  have hN : X.N.Nodup := by rw [C.tt.cok.nm]; exact C.tt.cok.nd
  have hi' : X.N[i]? = some x := by rw [C.tt.cok.nm]; exact hi
  have hj' : X.N[j]? = some y := by rw [C.tt.cok.nm]; exact hj
  refine PS.sub (ps_par C.tt.cok.calm hN hi' hj' (fun e => hn (by rw [e, hj'] at hi'; exact (Option.some.inj hi').symm)) (loc_b C.sc hx).2 (loc_b C.sc hy).2 (d_cons (Lo := Lo) (ds := [d']) (u.sound Lo _ _ C.tt h1) (fun Lo' => d_cons (ds := []) (v.sound Lo' _ _ C.tt h2) (fun _ => d_nil) hp2) hp) (sp_two C.sc C.kd hx hy hl hn hv) rfl) fun D σ H t => ?_
  obtain ⟨L, ρ, env, S, s, k⟩ := par_end t
  refine ⟨L, ρ, env, S, s, k.imp fun vs S' H' q xs As s2 rs nd fr => ?_⟩
  obtain ⟨l, q⟩ := q xs As s2 rs nd fr
  match xs, l with
  | [a, b], _ => exact ⟨a, b, rfl, q⟩
theorem s_par3 (C : Csx g c P X sc n W) {i j l d d' d'' : Nat} (u v w : Ex) (hi : c.N[i]? = some x) (hj : c.N[j]? = some y) (hz : c.N[l]? = some z) (hx : locB sc x = true) (hy : locB sc y = true) (hzl : locB sc z = true) (hl : (py.line == px.line) = true) (hl2 : (pz.line == px.line) = true) (hn : x ≠ y) (hn2 : x ≠ z) (hn3 : y ≠ z) (hv : parB [e1, e2, e3] = true)
    (h1 : u.ck c sc (slM d) e1 = true) (h2 : v.ck c sc (slM d') e2 = true) (h3 : w.ck c sc (slM d'') e3 = true) (hp : plainE e1 = true) (hp2 : plainE e2 = true) (hp3 : plainE e3 = true) :
    PSm g Lo W dr X (.Assign [.Tuple [.Name x px, .Name y py, .Name z pz] kt pt] (.Tuple [e1, e2, e3] k2 p2) pos) (parF [i, j, l] [d, d', d''] (consF (u.ev P false) (consF (v.ev P false) (consF (w.ev P false) nilF)))) := by
  have hN : X.N.Nodup := by rw [C.tt.cok.nm]; exact C.tt.cok.nd
  have hi' : X.N[i]? = some x := by rw [C.tt.cok.nm]; exact hi
  have hj' : X.N[j]? = some y := by rw [C.tt.cok.nm]; exact hj
  have hz' : X.N[l]? = some z := by rw [C.tt.cok.nm]; exact hz
  refine PS.sub (ps_par3 C.tt.cok.calm hN hi' hj' hz' (fun e => hn (by rw [e, hj'] at hi'; exact (Option.some.inj hi').symm)) (fun e => hn2 (by rw [e, hz'] at hi'; exact (Option.some.inj hi').symm)) (fun e => hn3 (by rw [e, hz'] at hj'; exact (Option.some.inj hj').symm)) (loc_b C.sc hx).2 (loc_b C.sc hy).2 (loc_b C.sc hzl).2
    (d_cons (Lo := Lo) (ds := [d', d'']) (u.sound Lo _ _ C.tt h1) (fun Lo' => d_cons (ds := [d'']) (v.sound Lo' _ _ C.tt h2) (fun Lo'' => d_cons (ds := []) (w.sound Lo'' _ _ C.tt h3) (fun _ => d_nil) hp3) hp2) hp) (sp_three C.sc C.kd hx hy hzl hl hl2 hn hn2 hn3 hv) rfl) fun D σ H t => ?_
  obtain ⟨L, ρ, env, S, s, k⟩ := par_end t
  refine ⟨L, ρ, env, S, s, k.imp fun vs S' H' q xs As s2 rs nd fr => ?_⟩
  obtain ⟨l, q⟩ := q xs As s2 rs nd fr
  match xs, l with
  | [a, b, c], _ => exact ⟨a, b, c, rfl, q⟩
/-- a thing is taken apart -/
theorem s_unp (C : Csx g c P X sc n W) (tg : Tg) (e : Ex) (ht : tg.ck c.N sc b = true) (h : e.ck c sc (.weak 0) a = true) (hb : ∃ ts k p, b = .Tuple ts k p) (hw : swappedStores [b] a X.env = pure none) : PSm g Lo W dr X (.Assign [b] a pos) (unpF tg (e.ev P false)) := by
  obtain ⟨ts, k, p, rfl⟩ := hb
  have hsw : swapsWithSole [.Tuple ts k p] a pos.line X.env = pure false := by
    show swapsWith a (some (.Tuple ts k p)) pos.line X.env = pure false
    cases a <;> rfl
  refine PS.sub (ps_asg (e.sound Lo _ _ C.tt h) (s_tg (Lo := Lo) C.tt.cok tg _ ht) hsw hw rfl) fun D σ H ⟨L, ρ, env, S, s, k⟩ => ?_
  refine partS0 s k fun x v S1 H1 e1 s1 r k1 => ?_
  cases q : tg.store v env with
  | none => rw [q] at k1; exact k1.elim
  | some env1 =>
    rw [q] at k1
    exact ⟨L, ρ, env, S1, v, env1, s1, r, q, fun σ' o s2 => k1 _ _ _ _ (e1.kp s) s2⟩
end
end BP
end

section
set_option autoImplicit false
set_option linter.all false
set_option maxRecDepth 100000
/-! BPm2: assignments to some names at once, some of them captured: a tuple is made, and taken apart. -/
namespace BP
open PySem PySem.Spec PyProof.Rows L2

section
variable {dr : Nat} {g : Gx} {Lo : Out} {W : WX} {X : Cx} {L : Addr → Prop} {ρ : List Addr} {env : Env} {S : List D} {σ : L2.St} {H H1 : Hp}
variable {c : Ck} {P : Prg} {sc : Scope} {n : Nat} {a b e1 e2 e3 : Expr} {x y z : Str} {pos px py pz pt p2 : Pos} {kt k2 : Nat}
theorem sp_late {b1 b2 b3 : Bool} {u : Sem (Option (List Str))} (h : b3 = true) : (if b1 = true then pure none else if b2 = true then pure none else if b3 = true then pure none else u) = pure none := by
  subst h
  cases b1 <;> cases b2 <;> rfl
theorem len_ne {n m : Nat} {b : Bool} (h : n ≠ m) : (n != m || b) = true := by
  have : (n != m) = true := by simpa using h
  rw [this]; rfl
theorem sp_cell2 (hs : X.env.scope = sc) (h : (locB sc x && locB sc y) = false) : swappedStores [.Tuple [.Name x px, .Name y py] kt pt] (.Tuple [e1, e2] k2 p2) X.env = pure none := by
  have hk : ∀ w, X.env.kindOf w = sc.names.lookup w := fun w => by unfold Env.kindOf; rw [hs]
  refine sp_late (len_ne ?_)
  unfold locB at h
  rw [Bool.and_eq_false_iff] at h
  rcases h with h | h
  · simp only [List.filterMap, hk, h, Bool.false_and, Bool.false_eq_true, if_false]
    intro q
    split at q <;> simp at q
  · simp only [List.filterMap, hk, h, Bool.false_and, Bool.false_eq_true, if_false]
    intro q
    split at q <;> simp at q
theorem sp_cell3 (hs : X.env.scope = sc) (h : (locB sc x && locB sc y && locB sc z) = false) : swappedStores [.Tuple [.Name x px, .Name y py, .Name z pz] kt pt] (.Tuple [e1, e2, e3] k2 p2) X.env = pure none := by
  have hk : ∀ w, X.env.kindOf w = sc.names.lookup w := fun w => by unfold Env.kindOf; rw [hs]
  refine sp_late (len_ne ?_)
  unfold locB at h
  rw [Bool.and_eq_false_iff, Bool.and_eq_false_iff] at h
  rcases h with (h | h) | h
  all_goals
    simp only [List.filterMap, hk, h, Bool.false_and, Bool.false_eq_true, if_false]
    intro q
    split at q <;> (split at q <;> simp at q)
/-- behind the parts -/
theorem par_endU {D : Ends} {is ds : List Nat} {f : AF} (t : tS g Lo W dr (parF is ds f) D σ H) : tD g Lo W ds f σ H fun xs H1 => xs.length = ds.length ∧ ∀ p, H1 p = none → D.nx (sets is xs σ) (upd H1 p (.tup xs)) := by
  obtain ⟨L, ρ, env, S, s, k⟩ := t
  refine ⟨L, ρ, env, S, s, (FinS.bind0 s k).imp fun vs S1 H1 ⟨e1, s1, k1⟩ xs As s2 rs nd fr => ⟨rs.length, fun p hp => ?_⟩⟩
  cases q : setAll is ds vs env with
  | none => rw [q] at k1; exact k1.elim
  | some env' =>
    rw [q] at k1
    have s3 := Sim.sets rs s2 nd (fun a ha => ⟨s.old (fr a ha), fun h => s.nlive (fr a ha) (s.out a h)⟩) q
    have kp : Kp L ρ H (orL L As.flatten) ρ H1 := ⟨fun a o z n => ⟨e1 a o z fun hr => n (s.inL hr), fun h => h.elim n fun h => by rw [fr a h] at z; cases z⟩, [], (List.append_nil _).symm⟩
    exact k1 _ _ _ _ (kp.trans ((Ev.new hp).kp s3)) (s3.new hp)
theorem s_par2U (C : Csx g c P X sc n W) {i j d d' : Nat} (u v : Ex) (hi : nmOk c sc i x = true) (hj : nmOk c sc j y = true) (hl : (locB sc x && locB sc y) = false) (h1 : u.ck c sc (slM d) e1 = true) (h2 : v.ck c sc (slM d') e2 = true) (hp : plainE e1 = true) (hp2 : plainE e2 = true) :
    PSm g Lo W dr X (.Assign [.Tuple [.Name x px, .Name y py] kt pt] (.Tuple [e1, e2] k2 p2) pos) (parF [i, j] [d, d'] (consF (u.ev P false) (consF (v.ev P false) nilF))) := by
  obtain ⟨n1, n2, n3, n4⟩ := nm_ok C hi
  obtain ⟨_, m2, m3, m4⟩ := nm_ok C hj
  refine PS.sub (ps_asg (pe_tup (d_cons (Lo := Lo) (ds := [d']) (u.sound Lo _ _ C.tt h1) (fun Lo' => d_cons (ds := []) (v.sound Lo' _ _ C.tt h2) (fun _ => d_nil) hp2) hp)) (pg_tup C.tt.cok.calm (pgs_cons (pg_name n1 n2 n3 n4) (pgs_cons (pg_name n1 m2 m3 m4) pgs_nil))) rfl (sp_cell2 C.sc hl) rfl) fun D σ H t => ?_
  obtain ⟨L, ρ, env, S, s, k⟩ := par_endU t
  refine ⟨L, ρ, env, S, s, k.imp fun vs S' H' q xs As s2 rs nd fr => ?_⟩
  obtain ⟨l, q⟩ := q xs As s2 rs nd fr
  match xs, l with
  | [a, b], _ => exact ⟨by show 2 ≤ sizeLine; decide, fun p hp => ⟨p, [a, b], rfl, .inl (.of upd_same), rfl, a, [b], rfl, b, [], rfl, rfl, q p hp⟩⟩
theorem s_par3U (C : Csx g c P X sc n W) {i j l d d' d'' : Nat} (u v w : Ex) (hi : nmOk c sc i x = true) (hj : nmOk c sc j y = true) (hz : nmOk c sc l z = true) (hl : (locB sc x && locB sc y && locB sc z) = false) (h1 : u.ck c sc (slM d) e1 = true) (h2 : v.ck c sc (slM d') e2 = true) (h3 : w.ck c sc (slM d'') e3 = true) (hp : plainE e1 = true) (hp2 : plainE e2 = true) (hp3 : plainE e3 = true) :
    PSm g Lo W dr X (.Assign [.Tuple [.Name x px, .Name y py, .Name z pz] kt pt] (.Tuple [e1, e2, e3] k2 p2) pos) (parF [i, j, l] [d, d', d''] (consF (u.ev P false) (consF (v.ev P false) (consF (w.ev P false) nilF)))) := by
  obtain ⟨n1, n2, n3, n4⟩ := nm_ok C hi
  obtain ⟨_, m2, m3, m4⟩ := nm_ok C hj
  obtain ⟨_, o2, o3, o4⟩ := nm_ok C hz
  refine PS.sub (ps_asg (pe_tup (d_cons (Lo := Lo) (ds := [d', d'']) (u.sound Lo _ _ C.tt h1) (fun Lo' => d_cons (ds := [d'']) (v.sound Lo' _ _ C.tt h2) (fun Lo'' => d_cons (ds := []) (w.sound Lo'' _ _ C.tt h3) (fun _ => d_nil) hp3) hp2) hp)) (pg_tup C.tt.cok.calm (pgs_cons (pg_name n1 n2 n3 n4) (pgs_cons (pg_name n1 m2 m3 m4) (pgs_cons (pg_name n1 o2 o3 o4) pgs_nil)))) rfl (sp_cell3 C.sc hl) rfl) fun D σ H t => ?_
  obtain ⟨L, ρ, env, S, s, k⟩ := par_endU t
  refine ⟨L, ρ, env, S, s, k.imp fun vs S' H' q xs As s2 rs nd fr => ?_⟩
  obtain ⟨l, q⟩ := q xs As s2 rs nd fr
  match xs, l with
  | [a, b, c], _ => exact ⟨by show 3 ≤ sizeLine; decide, fun p hp => ⟨p, [a, b, c], rfl, .inl (.of upd_same), rfl, a, [b, c], rfl, b, [c], rfl, c, [], rfl, rfl, q p hp⟩⟩
end
end BP
end

section
set_option autoImplicit false
set_option linter.all false
set_option maxRecDepth 100000
/-! BP1: what is changed in place. -/
namespace BP
open PySem PySem.Spec PyProof.Rows L2

section
variable {g : Gx} {Lo : Out} {L : Addr → Prop} {ρ : List Addr} {env env' : Env} {S S' : List D} {σ : L2.St} {H H' : Hp} {B : List Addr}
/-- a slot's own thing is changed -/
theorem Sim.reown (s : Sim g (Lo.mores B) L ρ env S σ H) (nB : ∀ a ∈ B, Lo.H0 a = none ∧ ¬ Lo.lo a) {i d : Nat} {v : D} (e : env[i]? = some (.own d v)) : ∃ x A, σ[i]? = some (some x) ∧ OwnR g L ρ H d A x v ∧ A.Nodup ∧ (∀ a ∈ A, L a ∧ a ∉ B ∧ a ∉ ρ ∧ ¬ Lo.lo a) ∧
    ∀ H' v' A', (∀ a o, H a = some o → a ∉ A → H' a = some o) → (∀ a ∈ A, ∃ o, H' a = some o ∧ IsMut o) → OwnR g L ρ H' d A' x v' → A'.Nodup → (∀ a ∈ A', a ∈ A ∨ a ∈ B) → Sim g Lo L ρ (env.set i (.own d v')) S σ H' := by
  obtain ⟨C, ow, sl⟩ := s.own
  have hs := sl i
  rw [getD_of e] at hs
  obtain ⟨x, e1, r⟩ := hs
  have hx : σ[i]? = some (some x) := by
    cases q : σ[i]? with
    | none => rw [q] at e1; cases e1
    | some y => rw [q] at e1; exact congrArg some e1
  have hi : i < env.length := (List.getElem?_eq_some_iff.mp e).1
  have hB : ∀ a ∈ B, (Lo.mores B).lo a := fun a ha => .inr ha
  refine ⟨x, C i, hx, r, ow.nd i, fun a ha => ⟨(ow.inL i a ha).1, fun hb => (ow.inL i a ha).2.1 (.inr hb), ow.djr i a ha, fun h => (ow.inL i a ha).2.1 (.inl h)⟩, fun H' v' A' k live r' nd' hA' => ?_⟩
  have kp : Keep L L H H' := fun a o q n => ⟨k a o q fun ha => n (ow.inL i a ha).1, n⟩
  have tk : TupK H H' := fun a xs q => k a _ q fun ha => by
    obtain ⟨o, z, m⟩ := r.mut a ha
    rw [q] at z; cases z
    exact not_mut_tup m
  refine ⟨by rw [List.length_set]; exact s.len, fun a ha => ?_, ?_, ?_, fun a o h n => ?_, s.pre⟩
  · by_cases h : a ∈ C i
    · exact live a h
    · obtain ⟨o, q, m⟩ := s.live a ha
      exact ⟨o, k a o q h, m⟩
  · refine ⟨fun j => if i = j then A' else C j, ⟨fun j => ?_, fun j l a h1 h2 => ?_, ow.ndr, fun j a h1 => ?_, fun j a h1 => ?_, fun a ha => ?_, fun a h => ow.out a (.inl h)⟩, fun j => ?_⟩
    · show (if i = j then A' else C j).Nodup
      split
      · exact nd'
      · exact ow.nd j
    · split at h1
      · split at h2
        · omega
        · rcases hA' a h1 with h | h
          · have := ow.dj i l a h h2; omega
          · exact absurd (hB a h) (ow.inL l a h2).2.1
      · split at h2
        · rcases hA' a h2 with h | h
          · have := ow.dj i j a h h1; omega
          · exact absurd (hB a h) (ow.inL j a h1).2.1
        · exact ow.dj j l a h1 h2
    · split at h1
      · rcases hA' a h1 with h | h
        · exact ow.djr i a h
        · exact fun hr => (ow.inLr a hr).2 (hB a h)
      · exact ow.djr j a h1
    · split at h1
      · rcases hA' a h1 with h | h
        · exact ⟨(ow.inL i a h).1, fun q => (ow.inL i a h).2.1 (.inl q), (ow.inL i a h).2.2⟩
        · exact ⟨ow.out a (hB a h), (nB a h).2, (nB a h).1⟩
      · exact ⟨(ow.inL j a h1).1, fun q => (ow.inL j a h1).2.1 (.inl q), (ow.inL j a h1).2.2⟩
    · exact ⟨(ow.inLr a ha).1, fun q => (ow.inLr a ha).2 (.inl q)⟩
    · show SlotR g Lo.me L ρ H' ((env.set i (.own d v')).getD j .no) ((σ[j]?).join) (if i = j then A' else C j)
      rw [getD_set]
      by_cases hj : i = j
      · subst hj
        rw [if_pos ⟨rfl, hi⟩, if_pos rfl]
        exact ⟨x, e1, r'⟩
      · rw [if_neg (fun h => hj h.1), if_neg hj]
        exact (sl j).keep kp tk (fun _ _ h => h) fun a ha o q => k a o q fun h => hj (ow.dj i j a h ha)
  · have go : ∀ {rs : List Addr} {vs : List D}, (∀ a ∈ rs, a ∈ ρ) → All2 (fun a v => OwnR g L ρ H 1 [a] (.ref a) v) rs vs → All2 (fun a v => OwnR g L ρ H' 1 [a] (.ref a) v) rs vs := by
      intro rs vs hr q
      induction q with
      | nil => exact .nil
      | @cons a v as vs r t ih =>
        refine .cons (r.keep kp tk (fun _ _ h => h) fun b hb w hw => k b w hw fun hc => ?_) (ih fun c hc => hr c (List.mem_cons_of_mem _ hc))
        have e : b = a := by simpa using hb
        exact ow.djr i b hc (e ▸ hr a List.mem_cons_self)
    exact go (fun a h => h) s.cells
  · refine k a o (s.base a o h n) fun ha => ?_
    have h' : (Lo.mores B).H0 a = some o := h
    rw [(ow.inL i a ha).2.2] at h'; cases h'
theorem nodup_idx {α : Type} : ∀ {l : List α} {i j : Nat} {a : α}, l.Nodup → l[i]? = some a → l[j]? = some a → i = j
  | [], _, _, _, _, h, _ => by simp at h
  | b :: l, 0, 0, _, _, _, _ => rfl
  | b :: l, 0, j + 1, a, n, h1, h2 => by
    simp at h1 h2
    subst h1
    exact absurd (List.mem_of_getElem? h2) (List.nodup_cons.mp n).1
  | b :: l, i + 1, 0, a, n, h1, h2 => by
    simp at h1 h2
    subst h2
    exact absurd (List.mem_of_getElem? h1) (List.nodup_cons.mp n).1
  | b :: l, i + 1, j + 1, a, n, h1, h2 => by
    simp at h1 h2
    rw [nodup_idx (List.nodup_cons.mp n).2 h1 h2]
/-- a cell's thing is changed -/
theorem Sim.recell (s : Sim g Lo L ρ env S σ H) {n : Nat} {v : D} (e : S[n]? = some v) : ∃ a, ρ[n]? = some a ∧ OwnR g L ρ H 1 [a] (.ref a) v ∧ L a ∧
    ∀ H' v', (∀ b o, H b = some o → b ≠ a → H' b = some o) → OwnR g L ρ H' 1 [a] (.ref a) v' → Sim g Lo L ρ env (S.set n v') σ H' := by
  obtain ⟨a, ha, r⟩ := s.cells.get e
  have hm : a ∈ ρ := List.mem_of_getElem? ha
  refine ⟨a, ha, r, s.inL hm, fun H' v' k r' => ?_⟩
  have ev : Ev ρ H H' := fun b o q n => k b o q fun h => n (h ▸ hm)
  refine s.ev ev ?_
  obtain ⟨A, ow, _⟩ := s.own
  have lenS := s.cells.length
  refine all2_mk _ _ (by rw [List.length_set]; exact lenS) fun j b w h1 h2 => ?_
  rw [List.getElem?_set] at h2
  by_cases hj : n = j
  · subst hj
    have hb : b = a := by rw [ha] at h1; exact (Option.some.inj h1).symm
    subst hb
    rw [if_pos rfl] at h2
    split at h2
    · cases h2; exact r'
    · cases h2
  · rw [if_neg hj] at h2
    obtain ⟨w', e2, r2⟩ := s.cells.getL h1
    rw [h2] at e2
    cases e2
    refine r2.keep (ev.keepL s) (ev.tup s) (fun _ _ h => h) fun c hc o q => k c o q fun h => ?_
    have hc : c = b := by simpa using hc
    have hba : b = a := hc.symm.trans h
    subst hba
    have hl : n < ρ.length := (List.getElem?_eq_some_iff.mp ha).1
    exact hj (nodup_idx ow.ndr ha h1)
/-- a thing that one may change: its address -/
theorem OwnR.head {d : Nat} {A : List Addr} {x : V} {v : D} (r : OwnR g L ρ H d A x v) (c : v.cont = true) (hd : d ≠ 0) : ∃ a, x = .ref a ∧ a ∈ A := by
  cases r with
  | imm r z => rcases z with z | z; exact absurd z hd; rw [c] at z; cases z
  | lst h1 _ _ _ => exact ⟨_, rfl, List.mem_cons_self⟩
  | dK h r => exact ⟨_, rfl, List.mem_cons_self⟩
  | dN h _ r => exact ⟨_, rfl, List.mem_cons_self⟩
theorem own0 {A : List Addr} {x : V} {v : D} (r : OwnR g L ρ H 0 A x v) : A = [] ∧ Rep g L ρ H x v := by
  cases r with
  | imm r _ => exact ⟨rfl, r⟩
theorem own1 {A : List Addr} {x : V} {v : D} (r : OwnR g L ρ H 1 A x v) (c : v.cont = true) : ∃ a, x = .ref a ∧ A = [a] := by
  cases r with
  | imm r z => rcases z with z | z; exact absurd z (by decide); rw [c] at z; cases z
  | @lst n a xs ds As h1 hl hA r =>
    refine ⟨_, rfl, ?_⟩
    have : As.flatten = [] := by
      rw [List.flatten_eq_nil_iff]
      intro B hB
      obtain ⟨j, hj, e⟩ := List.getElem_of_mem hB
      have hj' : j < ds.length := hA ▸ hj
      have hx : j < xs.length := hl ▸ hj'
      exact (own0 (r j _ _ B (List.getElem?_eq_getElem hx) (List.getElem?_eq_getElem hj') (by rw [List.getElem?_eq_getElem hj, e]))).1
    rw [this]
  | dK h r => exact ⟨_, rfl, rfl⟩
  | dN h _ r => exact ⟨_, rfl, rfl⟩
/-- what a name holds is changed -/
theorem Sim.chg1 (s : Sim g Lo L ρ env S σ H) {i : Nat} {f : D → Option D} (hf : ∀ v w, f v = some w → v.cont = true) (h : chg env S i 1 f = some (env', S')) :
    ∃ a v w, σ[i]? = some (some (.ref a)) ∧ f v = some w ∧ L a ∧ OwnR g L ρ H 1 [a] (.ref a) v ∧ ∀ H', (∀ b o, H b = some o → b ≠ a → H' b = some o) → OwnR g L ρ H' 1 [a] (.ref a) w → Sim g Lo L ρ env' S' σ H' := by
  unfold chg at h
  split at h
  · rename_i d' v e
    split at h
    · rename_i hd
      subst hd
      obtain ⟨w, hw, h⟩ := Option.map_eq_some_iff.mp h
      cases h
      have s' : Sim g (Lo.mores []) L ρ env S σ H := mores_nil.symm ▸ s
      obtain ⟨x, A, h1, r, _, hA, k⟩ := s'.reown (fun a ha => by cases ha) e
      obtain ⟨a, rfl, rfl⟩ := own1 r (hf _ _ hw)
      refine ⟨a, v, w, h1, hw, (hA a List.mem_cons_self).1, r, fun H' hk r' => k H' w [a] (fun b o q n => hk b o q fun e => n (by rw [e]; exact List.mem_cons_self)) (fun b hb => ?_) r' (by simp) fun b hb => .inl hb⟩
      exact r'.mut b hb
    · cases h
  · rename_i n e
    rw [if_pos rfl] at h
    obtain ⟨v, hv, h⟩ := Option.bind_eq_some_iff.mp h
    obtain ⟨w, hw, h⟩ := Option.map_eq_some_iff.mp h
    cases h
    obtain ⟨x, e1, r⟩ := s.slot e
    obtain ⟨a, ha, ro, la, k⟩ := s.recell hv
    have ex : x = .ref a := by
      cases r with
      | ref q => rw [ha] at q; cases q; rfl
    subst ex
    exact ⟨a, v, w, e1, hw, la, ro, fun H' hk r' => k H' w hk r'⟩
  · cases h
end
end BP
end

section
set_option autoImplicit false
set_option linter.all false
set_option maxRecDepth 100000
/-! BP2: append, extend. -/
namespace BP
open PySem PySem.Spec PyProof.Rows L2

section
variable {dr : Nat} {g : Gx} {Lo : Out} {W : WX} {X : Cx} {c : Ck} {P : Prg} {sc : Scope} {n : Nat} {L : Addr → Prop} {ρ : List Addr} {env env' : Env} {S S' : List D} {σ : L2.St} {H H' : Hp} {a : Expr} {y : Str} {pos apos cpos py : Pos} {fa : EF}
theorem own_at {d : Nat} {A : List Addr} {x : V} {v : D} (r : OwnR g L ρ H d A x v) (h : isL v = true) : ∃ a xs, x = .ref a ∧ H a = some (.lst xs) := by
  cases v with
  | lst ds =>
    cases r with
    | imm r _ => cases r with
      | lst h _ _ => exact ⟨_, _, rfl, h⟩
    | lst h _ _ _ => exact ⟨_, _, rfl, h⟩
  | _ => cases h
/-- what a name holds: a list -/
theorem atK_lst (s : Sim g Lo L ρ env S σ H) {i : Nat} (h : atK env S i isL = true) : ∃ a xs, σ[i]? = some (some (.ref a)) ∧ H a = some (.lst xs) := by
  unfold atK at h
  split at h
  · rename_i d v e
    obtain ⟨x, h1, A, _, _, r⟩ := s.ownSlot e
    obtain ⟨a, xs, rfl, h2⟩ := own_at r h
    exact ⟨a, xs, h1, h2⟩
  · rename_i k e
    cases q : S[k]? with
    | none => rw [q] at h; cases h
    | some v =>
      rw [q] at h
      obtain ⟨x, e1, r⟩ := s.slot e
      obtain ⟨a, ha, ro, _, _⟩ := s.recell q
      have ex : x = .ref a := by
        cases r with
        | ref z => rw [ha] at z; cases z; rfl
      subst ex
      obtain ⟨a', xs, ea, h2⟩ := own_at ro h
      cases ea
      exact ⟨a, xs, e1, h2⟩
  · cases h
theorem appD_ok {y v w : D} (h : appD y v = some w) : ∃ xs, v = .lst xs ∧ xs.length < lim ∧ w = .lst (xs ++ [y]) := by
  unfold appD at h
  split at h
  · split at h
    · cases h; exact ⟨_, rfl, by assumption, rfl⟩
    · cases h
  · cases h
/-- a list, one deep -/
theorem own1_lst {a : Addr} {ds : List D} (r : OwnR g L ρ H 1 [a] (.ref a) (.lst ds)) : ∃ xs, H a = some (.lst xs) ∧ All2 (Rep g L ρ H) xs ds := by
  generalize e : [a] = A at r
  cases r with
  | imm r z => cases e
  | @lst n a xs ds As h1 hl hA r =>
    refine ⟨xs, h1, all2_mk xs ds hl fun i x d e1 e2 => ?_⟩
    have hi : i < As.length := by rw [hA]; exact (List.getElem?_eq_some_iff.mp e2).1
    exact (own0 (r i x d As[i] e1 e2 (List.getElem?_eq_getElem hi))).2
theorem lst_own1 {a : Addr} {xs : List V} {ds : List D} (h : H a = some (.lst xs)) (r : All2 (Rep g L ρ H) xs ds) : OwnR g L ρ H 1 [a] (.ref a) (.lst ds) := by
  have e : ([a] : List Addr) = a :: (List.replicate ds.length ([] : List Addr)).flatten := by
    rw [List.flatten_replicate_nil]
  suffices q : OwnR g L ρ H 1 (a :: (List.replicate ds.length ([] : List Addr)).flatten) (.ref a) (.lst ds) by rw [← e] at q; exact q
  refine .lst (n := 0) h r.length (by simp) fun i x d A e1 e2 e3 => ?_
  have : A = [] := (List.mem_replicate.mp (List.mem_of_getElem? e3)).2
  subst this
  obtain ⟨d', e4, q⟩ := r.getL e1
  rw [e2] at e4
  cases e4
  exact .imm q (.inl rfl)
/-- frozen things, behind a change of a live one -/
theorem Rep.turn {x : V} {v : D} (s : Sim g Lo L ρ env S σ H) {a : Addr} (la : L a) {o : HO} (r : Rep g L ρ H x v) : Rep g L ρ (upd H a o) x v := by
  obtain ⟨u, hu, mu⟩ := s.live a la
  exact r.keep (fun b w e n => ⟨by rw [upd_ne (fun q : b = a => n (by rw [q]; exact la))]; exact e, n⟩) (fun b xs e => by
    rw [upd_ne (fun q => by rw [q, hu] at e; cases e; exact mu)]; exact e) fun _ _ h => h
theorem upd_keep {a : Addr} {o : HO} : ∀ b w, H b = some w → b ≠ a → upd H a o b = some w := fun b w e n => by rw [upd_ne n]; exact e
theorem meth1_few {pos : Pos} {env : PySem.Env} {e : Expr} (he : plainE e = true) : ((backTo pos (starEach [e] env)).all (fun x => !x.1) && (backToKw pos (keywordEach [] env)).all (fun x => x.1.isSome)
    && decide ((e :: ([] : List Expr)).length + ([] : List Keyword).length + (if ([] : List Keyword).isEmpty then 0 else 1) < 30)) = true := by
  rw [star_one he]; rfl
/-- x.append(e), x one deep -/
theorem s_app1 (C : Csx g c P X sc n W) {i : Nat} (e : Ex) (h1 : varOk c sc i y = true) (h2 : e.ck c sc (.weak 0) a = true) (hp : plainE a = true) (hl : (apos.endLine == cpos.line) = true) : PSm g Lo W dr X (.Expr (.Call (.Attribute (.Name y py) "append" apos) [a] [] cpos) pos) (appF i 1 (e.ev P false)) := by
  obtain ⟨q1, q2, q3, q4⟩ := varOk_ok C.tt h1
  refine PS.sub (ps_expr (pe_bm PySem.F.plainAttrs_list PySem.F.slot_list_append PySem.F.type_list_append mt_append (pe_var q1 q2 q3 q4) (pa_cons (e.sound Lo _ _ C.tt h2) pa_nil (star_one hp)) (attr_plain rfl) (meth1_few hp) hl (star_one hp) rfl) rfl) fun D σ H ⟨L, ρ, env, S, s, k⟩ => ?_
  unfold appF gdF at k
  split at k
  · rename_i hk
    obtain ⟨p, xs, h3, h4⟩ := atK_lst s hk
    refine ⟨_, h3, .inl ⟨rfl, _, .of h4⟩, ?_⟩
    refine partS s k fun x v S1 H1 e1 s1 r k1 => ?_
    have r : Rep g L ρ H1 x v := r
    cases q : chg env S1 i 1 (appD v) with
    | none => rw [q] at k1; exact k1.elim
    | some z =>
      obtain ⟨env', S'⟩ := z
      rw [q] at k1
      obtain ⟨p', u, w, h5, h6, la, ro, tn⟩ := s1.chg1 (fun v w h => by obtain ⟨_, rfl, _⟩ := appD_ok h; rfl) q
      rw [h3] at h5
      cases h5
      obtain ⟨ds, rfl, hl, rfl⟩ := appD_ok h6
      obtain ⟨ys, h7, rs⟩ := own1_lst ro
      refine ⟨p, ys, x, rfl, rfl, h7, by rw [rs.length, ← lim_eq]; exact hl, ?_⟩
      have s2 := tn (upd H1 p (.lst (ys ++ [x]))) upd_keep (lst_own1 upd_same ((rs.append (.cons r .nil)).imp fun _ _ q => q.turn s1 la))
      exact k1 _ _ _ _ ⟨fun b o e n => ⟨by rw [upd_ne (fun q : b = p => n (by rw [q]; exact la))]; exact e, n⟩, [], (List.append_nil _).symm⟩ s2
  · exact k.elim
theorem extD_ok {y v w : D} (h : extD y v = some w) : ∃ xs ys, v = .lst xs ∧ y = .lst ys ∧ xs.length + ys.length ≤ lim ∧ w = .lst (xs ++ ys) := by
  unfold extD at h
  split at h
  · split at h
    · split at h
      · cases h; exact ⟨_, _, rfl, rfl, by assumption, rfl⟩
      · cases h
    · cases h
  · cases h
theorem weak1_lst {x : V} {ds : List D} (r : RepW g L ρ H 1 x (.lst ds)) : ∃ b xs, x = .ref b ∧ H b = some (.lst xs) ∧ All2 (Rep g L ρ H) xs ds := by
  rcases r with r | r
  · cases r with
    | lst h n r => exact ⟨_, _, rfl, h, r.all2⟩
  · cases r with
    | lst h n r => exact ⟨_, _, rfl, h, r⟩
/-- x.extend(e) -/
theorem s_ext (C : Csx g c P X sc n W) {i : Nat} (e : Ex) (h1 : varOk c sc i y = true) (h2 : e.ck c sc (.weak 1) a = true) (hp : plainE a = true) (hl : (apos.endLine == cpos.line) = true) : PSm g Lo W dr X (.Expr (.Call (.Attribute (.Name y py) "extend" apos) [a] [] cpos) pos) (extF i (e.ev P false)) := by
  obtain ⟨q1, q2, q3, q4⟩ := varOk_ok C.tt h1
  refine PS.sub (ps_expr (pe_bm PySem.F.plainAttrs_list PySem.F.slot_list_extend PySem.F.type_list_extend mt_extend (pe_var q1 q2 q3 q4) (pa_cons (e.sound Lo _ _ C.tt h2) pa_nil (star_one hp)) (attr_plain rfl) (meth1_few hp) hl (star_one hp) rfl) rfl) fun D σ H ⟨L, ρ, env, S, s, k⟩ => ?_
  unfold extF gdF at k
  split at k
  · rename_i hk
    obtain ⟨p, xs, h3, h4⟩ := atK_lst s hk
    refine ⟨_, h3, .inl ⟨rfl, _, .of h4⟩, ?_⟩
    refine partS s k fun x v S1 H1 e1 s1 r k1 => ?_
    have r : RepW g L ρ H1 1 x v := r
    cases q : chg env S1 i 1 (extD v) with
    | none => rw [q] at k1; exact k1.elim
    | some z =>
      obtain ⟨env', S'⟩ := z
      rw [q] at k1
      obtain ⟨p', u, w, h5, h6, la, ro, tn⟩ := s1.chg1 (fun v w h => by obtain ⟨_, _, rfl, _⟩ := extD_ok h; rfl) q
      rw [h3] at h5
      cases h5
      obtain ⟨ds, es, rfl, rfl, hl, rfl⟩ := extD_ok h6
      obtain ⟨ys, h7, rs⟩ := own1_lst ro
      obtain ⟨b, zs, rfl, h8, rz⟩ := weak1_lst r
      refine ⟨p, b, ys, zs, rfl, rfl, h7, h8, by rw [rs.length, rz.length, ← lim_eq]; exact hl, ?_⟩
      have s2 := tn (upd H1 p (.lst (ys ++ zs))) upd_keep (lst_own1 upd_same ((rs.append rz).imp fun _ _ q => q.turn s1 la))
      exact k1 _ _ _ _ ⟨fun b o e n => ⟨by rw [upd_ne (fun q : b = p => n (by rw [q]; exact la))]; exact e, n⟩, [], (List.append_nil _).symm⟩ s2
  · exact k.elim
/-- a list of own lists gets one more -/
theorem own_app {B A : List Addr} {x : V} {ds : List D} {d : Nat} (r : OwnR g L ρ H (d + 1) A x (.lst ds)) : ∃ p xs, x = .ref p ∧ p ∈ A ∧ H p = some (.lst xs) ∧ xs.length = ds.length ∧
    ∀ {z : V} {v : D}, OwnR g L ρ H d B z v → (∀ a ∈ A, a ∉ B) → A.Nodup → L p → (∀ a, L a → ∃ o, H a = some o ∧ IsMut o) → OwnR g L ρ (upd H p (.lst (xs ++ [z]))) (d + 1) (A ++ B) x (.lst (ds ++ [v])) := by
  cases r with
  | imm r z => rcases z with z | z; cases z; cases z
  | @lst _ p xs _ As h1 hl hA r =>
    refine ⟨p, xs, rfl, List.mem_cons_self, h1, hl, fun {z v} rz dj nd lp live => ?_⟩
    have e : p :: As.flatten ++ B = p :: (As ++ [B]).flatten := by simp
    rw [e]
    have nd0 := List.nodup_cons.mp nd
    have kp : Keep L L H (upd H p (.lst (xs ++ [z]))) := fun a w e na => ⟨by
      have ne : a ≠ p := fun q => na (by rw [q]; exact lp)
      rw [upd_ne ne]; exact e, na⟩
    have tk : TupK H (upd H p (.lst (xs ++ [z]))) := fun a us eu => by
      have ne : a ≠ p := fun q => by subst q; rw [h1] at eu; cases eu
      rw [upd_ne ne]; exact eu
    refine .lst upd_same (by simp [hl]) (by simp [hA]) fun j x f A' h1 h2 h3 => ?_
    have go : OwnR g L ρ H d A' x f ∧ p ∉ A' := by
      by_cases hj : j < ds.length
      · rw [List.getElem?_append_left (by rw [hl]; exact hj)] at h1
        rw [List.getElem?_append_left hj] at h2
        rw [List.getElem?_append_left (by rw [hA]; exact hj)] at h3
        exact ⟨r j x f A' h1 h2 h3, fun q => nd0.1 (List.mem_flatten.mpr ⟨A', List.mem_of_getElem? h3, q⟩)⟩
      · have hj' : j = ds.length := by
          have := (List.getElem?_eq_some_iff.mp h2).1
          rw [List.length_append] at this
          simp at this
          omega
        subst hj'
        rw [List.getElem?_append_right (by rw [hl]; exact Nat.le_refl _), hl] at h1
        rw [List.getElem?_append_right (Nat.le_refl _)] at h2
        rw [List.getElem?_append_right (by rw [hA]; exact Nat.le_refl _), hA] at h3
        simp at h1 h2 h3
        subst h1 h2 h3
        exact ⟨rz, dj p List.mem_cons_self⟩
    refine go.1.keep kp tk (fun _ _ h => h) fun a ha o h => ?_
    have ne : a ≠ p := fun q => go.2 (by rw [← q]; exact ha)
    rw [upd_ne ne]
    exact h
/-- x.append(e), x two deep -/
theorem s_app2 (C : Csx g c P X sc n W) {i : Nat} (e : Ex) (h1 : varOk c sc i y = true) (h2 : e.ck c sc (.fresh 1) a = true) (hp : plainE a = true) (hl : (apos.endLine == cpos.line) = true) : PSm g Lo W dr X (.Expr (.Call (.Attribute (.Name y py) "append" apos) [a] [] cpos) pos) (appF i 2 (e.ev P false)) := by
  obtain ⟨q1, q2, q3, q4⟩ := varOk_ok C.tt h1
  refine PS.sub (ps_expr (pe_bm PySem.F.plainAttrs_list PySem.F.slot_list_append PySem.F.type_list_append mt_append (pe_var q1 q2 q3 q4) (pa_cons (e.sound Lo _ _ C.tt h2) pa_nil (star_one hp)) (attr_plain rfl) (meth1_few hp) hl (star_one hp) rfl) rfl) fun D σ H ⟨L, ρ, env, S, s, k⟩ => ?_
  unfold appF gdF at k
  split at k
  · rename_i hk
    obtain ⟨p, xs, h3, h4⟩ := atK_lst s hk
    refine ⟨_, h3, .inl ⟨rfl, _, .of h4⟩, ?_⟩
    refine partS0 s k fun x v S1 H1 e1 s1 r k1 => ?_
    obtain ⟨B, ro, nd, fr, cl⟩ := r
    cases q : chg env S1 i 2 (appD v) with
    | none => rw [q] at k1; exact k1.elim
    | some z =>
      obtain ⟨env', S'⟩ := z
      rw [q] at k1
      unfold chg at q
      split at q
      · rename_i d' u ei
        split at q
        · rename_i hd
          subst hd
          obtain ⟨w, hw, q⟩ := Option.map_eq_some_iff.mp q
          cases q
          obtain ⟨ds, rfl, hl, rfl⟩ := appD_ok hw
          have s2 := s.grow e1 s1 cl fr ro.mut
          have nB : ∀ a ∈ B, Lo.H0 a = none ∧ ¬ Lo.lo a := fun a ha => ⟨s.old (fr a ha), fun h => s.nlive (fr a ha) (s.out a h)⟩
          obtain ⟨x', A, h5, rA, ndA, hA, tn⟩ := s2.reown nB ei
          obtain ⟨p', ys, rfl, hp', h6, hys, mk⟩ := own_app (B := B) rA
          rw [h3] at h5
          cases h5
          refine ⟨p, ys, x, rfl, rfl, h6, by rw [hys, ← lim_eq]; exact hl, ?_⟩
          have lp := (hA p hp').1
          have o2 := mk ro (fun a ha => (hA a ha).2.1) ndA lp s2.live
          have s3 := tn (upd H1 p (.lst (ys ++ [x]))) _ (A ++ B) (fun a o e n => by rw [upd_ne (fun q : a = p => n (by rw [q]; exact hp'))]; exact e) (fun a ha => o2.mut a (List.mem_append_left _ ha)) o2 (by
            rw [List.nodup_append]
            exact ⟨ndA, nd, fun a h1 b h2 e => (hA a h1).2.1 (e ▸ h2)⟩) fun a ha => List.mem_append.mp ha
          refine k1 _ _ _ _ ⟨fun b o e n => ⟨?_, fun h => h.elim n fun h => by rw [fr b h] at e; cases e⟩, [], (List.append_nil _).symm⟩ s3
          have ne : b ≠ p := fun q => by
            subst q
            rcases lp with lp | lp
            · exact n lp
            · rw [fr b lp] at e; cases e
          rw [upd_ne ne]
          exact e1 b o e fun hr => n (s.inL hr)
        · cases q
      · rw [if_neg (by decide)] at q; cases q
      · cases q
  · exact k.elim
end
end BP
end

section
set_option autoImplicit false
set_option linter.all false
set_option maxRecDepth 100000
/-! BP3: x[k] = v. -/
namespace BP
open PySem PySem.Spec PyProof.Rows L2

theorem orA_self {L : Addr → Prop} {d : Addr} (h : L d) : orA L d = L := funext fun a => propext ⟨fun q => q.elim id fun e => e ▸ h, .inl⟩
def rSetA (g : Gx) : TSet := fun o i v H Q => rSetL o i v H Q ∨ ∃ nk D, o = .ref D ∧ putG g nk D i v H Q
theorem set_A {g : Gx} {X : Cx} (xg : Xg g X) : PSet X (rSetA g) := by
  intro pins s σ H o i v ov iv u Q I ro ri rv h
  have hu := xg.hu; have hP := xg.prog; have hw := xg.w
  rcases h with h | ⟨nk, D, rfl, h⟩
  · exact set_list pins s σ H o i v ov iv u Q I ro ri rv h
  · obtain rfl : ov = Value.ref D := ro
    cases nk with
    | false =>
      obtain ⟨kvs, k, rfl, hD, hz, q⟩ := h
      exact d_setItem (by omega) I (DPut.k hD hz) ri rv fun s' I' => ⟨_, I', q⟩
    | true =>
      obtain ⟨es, k, b, rfl, n1, n2, hD, hk, hz, q⟩ := h
      obtain rfl : iv = Value.ref b := ri
      rw [← hP, ← hw] at hD q
      exact n_setItem hu I hD hk n1 n2 hz rv fun s' I' => ⟨_, I', q⟩
section
variable {dr : Nat} {g : Gx} {Lo : Out} {W : WX} {X : Cx} {c : Ck} {P : Prg} {sc : Scope} {n : Nat} {L : Addr → Prop} {ρ : List Addr} {env env' : Env} {S S' : List D} {σ : L2.St} {H H' : Hp} {a b : Expr} {y : Str} {pos apos cpos py tpos : Pos} {fa : EF}
theorem setD_cont {k v c w : D} (h : setD c k v = some w) : c.cont = true := by
  unfold setD at h
  split at h
  · rfl
  · rfl
  · cases h
/-- a dict, one deep -/
theorem own1_dct {p : Addr} {nk : Bool} {ds : List (Ky × D)} (r : OwnR g L ρ H 1 [p] (.ref p) (.dct nk ds)) : AccD g L ρ p nk H ds := by
  generalize e : [p] = A at r
  cases r with
  | imm r z => cases e
  | dK h r => exact ⟨_, h, r⟩
  | dN h q r => exact ⟨_, h, q, r⟩
theorem dct_own1 {p : Addr} {nk : Bool} {ds : List (Ky × D)} (r : AccD g L ρ p nk H ds) : OwnR g L ρ H 1 [p] (.ref p) (.dct nk ds) := by
  cases nk with
  | false => obtain ⟨kvs, h, r⟩ := r; exact .dK h r
  | true => obtain ⟨es, h, hk, r⟩ := r; exact .dN h hk r
theorem all2_set {α β : Type} {R : α → β → Prop} : ∀ {xs : List α} {ys : List β} (j : Nat) {x : α} {y : β}, All2 R xs ys → R x y → All2 R (xs.set j x) (ys.set j y)
  | _, _, _, _, _, .nil, _ => .nil
  | _, _, 0, _, _, .cons _ t, r => .cons r t
  | _, _, j + 1, _, _, .cons h t, r => .cons h (all2_set j t r)
/-- an own thing gets an entry -/
theorem set_own (s : Sim g Lo L ρ env S σ H) {p : Addr} (lp : L p) {cd k v w : D} {yk z : V} (ro : OwnR g L ρ H 1 [p] (.ref p) cd) (e : setD cd k v = some w) (rk : Rep g L ρ H yk k) (rv : Rep g L ρ H z v) {Q : Hp → Prop}
    (q : ∀ o, IsMut o → OwnR g L ρ (upd H p o) 1 [p] (.ref p) w → Q (upd H p o)) : rSetA g (.ref p) yk z H Q := by
  unfold setD at e
  split at e
  · rename_i ds i
    obtain ⟨j, hj, e⟩ := Option.map_eq_some_iff.mp e
    subst e
    obtain ⟨xs, h1, rs⟩ := own1_lst ro
    cases rk
    refine .inl ⟨p, xs, i, j, rfl, rfl, h1, ?_, q _ True.intro (lst_own1 upd_same ((all2_set j rs rv).imp fun _ _ r => r.turn s lp))⟩
    rw [rs.length]
    exact hj
  · rename_i nk kvs
    split at e
    · rename_i hl
      obtain ⟨kk, hk, e⟩ := Option.map_eq_some_iff.mp e
      subst e
      have ac := own1_dct ro
      rw [← orA_self lp] at ac rk rv
      refine .inr ⟨nk, p, rfl, ac.put hl rk hk rv fun o mo ac' => q o mo (dct_own1 ?_)⟩
      rw [orA_self lp] at ac'
      exact ac'
    · cases e
  · cases e
theorem atK_has (s : Sim g Lo L ρ env S σ H) {i : Nat} {kk : D → Bool} (h : atK env S i kk = true) : ∃ x, σ[i]? = some (some x) := by
  unfold atK at h
  split at h
  · rename_i d v e
    obtain ⟨x, h1, _⟩ := s.ownSlot e
    exact ⟨x, h1⟩
  · rename_i k e
    obtain ⟨x, h1, _⟩ := s.slot e
    exact ⟨x, h1⟩
  · cases h
theorem kp_upd {p : Addr} {o : HO} (lp : L p) : Kp L ρ H L ρ (upd H p o) := ⟨fun b w e n => ⟨by rw [upd_ne (fun q : b = p => n (by rw [q]; exact lp))]; exact e, n⟩, [], (List.append_nil _).symm⟩
/-- x[k] = v, x one deep -/
theorem s_setI1 (C : Csx g c P X sc n W) {i : Nat} (ke ve : Ex) (h1 : varOk c sc i y = true) (h2 : ke.ck c sc (.weak 0) b = true) (h3 : ve.ck c sc (.weak 0) a = true) (hns : notSlice b = true) : PSm g Lo W dr X (.Assign [.Subscript (.Name y py) b tpos] a pos) (setIF i 1 (ke.ev P false) (ve.ev P false)) := by
  obtain ⟨q1, q2, q3, q4⟩ := varOk_ok C.tt h1
  refine PS.sub (ps_asg (ve.sound Lo _ _ C.tt h3) (pg_sub (pe_var q1 q2 q3 q4) (ke.sound Lo _ _ C.tt h2) (set_A C.tt.xg) (fun v => by cases b <;> first | rfl | cases hns)) (by cases a <;> rfl) (by cases a <;> rfl) rfl) fun D σ H ⟨L, ρ, env, S, s, k⟩ => ?_
  unfold setIF gdF at k
  split at k
  · rename_i hk
    obtain ⟨x, hx⟩ := atK_has s hk
    refine partS s k fun z v S1 H1 e1 s1 r k1 => ?_
    have r : Rep g L ρ H1 z v := r
    refine ⟨x, hx, ?_⟩
    refine partS s1 k1 fun yk kd S2 H2 e2 s2 r2 k2 => ?_
    have r2 : Rep g L ρ H2 yk kd := r2
    cases q : chg env S2 i 1 (fun c => setD c kd v) with
    | none => rw [q] at k2; exact k2.elim
    | some w =>
      obtain ⟨env', S'⟩ := w
      rw [q] at k2
      obtain ⟨p, u, w, h5, h6, lp, ro, tn⟩ := s2.chg1 (fun _ _ h => setD_cont h) q
      rw [hx] at h5
      cases h5
      exact set_own s2 lp ro h6 r2 (e2.rep s1 r) fun o mo r' => k2 _ _ _ _ (kp_upd lp) (tn _ upd_keep r')
  · exact k.elim
end
end BP
end

section
set_option autoImplicit false
set_option linter.all false
set_option maxRecDepth 100000
/-! BP4: x += e, x[k] += e. -/
namespace BP
open PySem PySem.Spec PyProof.Rows L2

def rGetL (K : PySem.W.Frag) : V → V → Hp → VK → Prop := fun x y H Q => ∃ p xs i v, x = .ref p ∧ y = .int i ∧ SqL K H p xs ∧ atI xs i = some v ∧ Q v H
theorem get_L {X : Cx} : PGet X (rGetL X.K) := by
  intro pins s σ H x y v u Q I rx ry h
  obtain ⟨p, xs, i, z, rfl, rfl, hq, he, q⟩ := h
  cases rx
  obtain ⟨t, rfl⟩ := ry
  obtain ⟨its, r, pl, hz⟩ := I.list hq
  obtain ⟨j, h1, h2, h3, h4, h5⟩ := atI_get he
  obtain ⟨w, ew, rw'⟩ := r.get h2
  have hl := r.length
  have hn := line63
  have fin : EP X pins σ Q w s := ⟨z, H, I, rw', q⟩
  by_cases h0 : 0 ≤ i
  · have hj : i.toNat = j := by
      rw [seqIndex_of h0 h5] at h1
      exact Option.some.inj h1
    exact wpAny_getItem_list pl.isList h0 (by omega) (by rw [hj]; simpa using ew) fin
  · have hj : (i + (its.toArray.size : Int)).toNat = j := by
      rw [seqIndex_neg (by omega) h4] at h1
      rw [List.size_toArray, ← hl]
      exact Option.some.inj h1
    exact wpAny_getItem_list_neg pl.isList (by omega) (by rw [List.size_toArray] <;> omega) (by omega) (by rw [hj]; simpa using ew) fin
theorem incD_ok {x y z : D} (h : incD x y = some z) : ∃ i j, x = .int i ∧ y = .int j ∧ z = .int (i + j) := by
  unfold incD at h
  split at h
  · cases h; exact ⟨_, _, rfl, rfl, rfl⟩
  · cases h
section
variable {dr : Nat} {g : Gx} {Lo : Out} {W : WX} {X : Cx} {c : Ck} {P : Prg} {sc : Scope} {n : Nat} {L : Addr → Prop} {ρ : List Addr} {env env' : Env} {S S' : List D} {σ : L2.St} {H H' : Hp} {a b : Expr} {y : Str} {pos apos cpos py tpos : Pos} {fa : EF}
/-- x += e -/
theorem s_aug (C : Csx g c P X sc n W) {i : Nat} {o : Bop} (e : Ex) (h1 : nmOk c sc i y = true) (h2 : e.ck c sc (.weak 0) a = true) : PSm g Lo W dr X (.AugAssign (.Name y py) .Add a pos) (augF i o (e.ev P false)) := by
  obtain ⟨hN, hi, hl, hf⟩ := nm_ok C h1
  refine PS.sub (ps_aug hN hi hl (e.sound Lo _ _ C.tt h2) ip_add hf) fun D σ H ⟨L, ρ, env, S, s, k⟩ => ?_
  unfold augF at k
  split at k
  · rename_i v ei
    obtain ⟨x, hx, rx⟩ := s.slot ei
    refine ⟨x, hx, partS s k fun z d S1 H1 e1 s1 r k1 => ?_⟩
    have r : Rep g L ρ H1 z d := r
    cases q : incD v d with
    | none => rw [q] at k1; exact k1.elim
    | some w =>
      obtain ⟨i', j', rfl, rfl, rfl⟩ := incD_ok q
      cases rx
      cases r
      exact ⟨_, _, rfl, rfl, k1 _ _ _ _ (.refl _ _ _) (s1.setVal _ (.int _))⟩
  · exact k.elim
theorem lookS_ok (s : Sim g Lo L ρ env S σ H) {i : Nat} {kd x : D} (h : lookS env S i kd = some x) : ∃ p xs ds d, σ[i]? = some (some (.ref p)) ∧ H p = some (.lst xs) ∧ All2 (RepW g L ρ H d) xs ds ∧ idxD (.lst ds) kd = some x := by
  unfold lookS at h
  split at h
  · rename_i d ds e
    obtain ⟨z, h1, A, hA, _, r⟩ := s.ownSlot e
    have r := (r.weak fun a ha => (hA a ha).2.2).succ
    have r : RepR g L ρ H d z (.lst ds) := by
      rcases r with r | r
      · exact .inl r
      · exact .inr (r.imp (fun _ _ q => q) fun _ _ => True.intro)
    obtain ⟨p, xs, rfl, h2, h3⟩ := r.lst
    exact ⟨p, xs, ds, _, h1, h2, h3, h⟩
  · rename_i k e
    split at h
    · rename_i ds q
      obtain ⟨z, h1, r⟩ := s.slot e
      obtain ⟨p, ha, ro, _, _⟩ := s.recell q
      have ex : z = .ref p := by
        cases r with
        | ref z => rw [ha] at z; cases z; rfl
      subst ex
      obtain ⟨xs, h2, h3⟩ := own1_lst ro
      exact ⟨p, xs, ds, 0, h1, h2, h3, h⟩
    · cases h
  · cases h
/-- x[k] += e -/
theorem s_augI (C : Csx g c P X sc n W) {i : Nat} {o : Bop} (ke e : Ex) (h1 : varOk c sc i y = true) (h2 : ke.ck c sc (.weak 0) b = true) (h3 : e.ck c sc (.weak 0) a = true) (hns : notSlice b = true) : PSm g Lo W dr X (.AugAssign (.Subscript (.Name y py) b tpos) .Add a pos) (augIF i (ke.ev P false) o (e.ev P false)) := by
  obtain ⟨q1, q2, q3, q4⟩ := varOk_ok C.tt h1
  refine PS.sub (ps_augS (pe_var q1 q2 q3 q4) (ke.sound Lo _ _ C.tt h2) get_L (e.sound Lo _ _ C.tt h3) ip_add (set_A C.tt.xg) (fun _ _ _ => by cases b <;> first | rfl | cases hns)) fun D σ H ⟨L, ρ, env, S, s, k⟩ => ?_
  unfold augIF gdF at k
  split at k
  · rename_i hk
    obtain ⟨x, hx⟩ := atK_has s hk
    refine ⟨x, hx, partS s k fun yk kd S1 H1 e1 s1 r1 k1 => ?_⟩
    have r1 : Rep g L ρ H1 yk kd := r1
    obtain ⟨xd, h4, k1⟩ := k1.opt
    obtain ⟨p, xs, ds, d, h5, h6, rs, h7⟩ := lookS_ok s1 h4
    rw [hx] at h5
    cases h5
    cases kd with
    | int j =>
      have h7 : atD ds j = some xd := h7
      cases r1
      obtain ⟨z, h8, r8⟩ := atD_eq rs h7
      refine ⟨p, xs, j, z, rfl, rfl, .of h6, h8, partS s1 k1 fun w vd S2 H2 e2 s2 r2 k2 => ?_⟩
      have r2 : Rep g L ρ H2 w vd := r2
      obtain ⟨zd, h9, k2⟩ := k2.opt
      obtain ⟨i', j', rfl, rfl, rfl⟩ := incD_ok h9
      cases r2
      have hz : z = .int i' := by
        cases d with
        | zero => cases (show Rep g L ρ H1 z _ from r8); rfl
        | succ d => rcases r8 with r8 | r8 <;> cases r8; rfl
      subst hz
      refine ⟨_, _, rfl, rfl, ?_⟩
      cases q : chg env S2 i 1 (fun c => setD c (.int j) (.int (i' + j'))) with
      | none => rw [q] at k2; exact k2.elim
      | some w =>
        obtain ⟨env', S'⟩ := w
        rw [q] at k2
        obtain ⟨p', u, w, h5, h6, lp, ro, tn⟩ := s2.chg1 (fun _ _ h => setD_cont h) q
        rw [hx] at h5
        cases h5
        exact set_own s2 lp ro h6 (.int _) (.int _) fun o mo r' => k2 _ _ _ _ (kp_upd lp) (tn _ upd_keep r')
    | _ => cases h7
  · exact k.elim
end
end BP
end

section
set_option autoImplicit false
set_option linter.all false
set_option maxRecDepth 100000
/-! BP5: x[k] = a fresh thing, x two deep; x[j][k] = v. -/
namespace BP
open PySem PySem.Spec PyProof.Rows L2

section
variable {dr : Nat} {g : Gx} {Lo : Out} {W : WX} {X : Cx} {c : Ck} {P : Prg} {sc : Scope} {n : Nat} {L : Addr → Prop} {ρ : List Addr} {env env' : Env} {S S' : List D} {σ : L2.St} {H H' : Hp} {a b b2 : Expr} {y : Str} {pos apos cpos py tpos tpos2 : Pos} {fa : EF}
theorem flat_set {As : List (List Addr)} {B : List Addr} {j : Nat} {a : Addr} (h : a ∈ (As.set j B).flatten) : a ∈ As.flatten ∨ a ∈ B := by
  obtain ⟨C, hC, h⟩ := List.mem_flatten.mp h
  rcases List.mem_or_eq_of_mem_set hC with q | q
  · exact .inl (List.mem_flatten.mpr ⟨C, q, h⟩)
  · exact .inr (q ▸ h)
theorem nodup_flat_set {B : List Addr} : ∀ {As : List (List Addr)} (j : Nat), As.flatten.Nodup → B.Nodup → (∀ a ∈ As.flatten, a ∉ B) → (As.set j B).flatten.Nodup
  | [], _, _, _, _ => by simp
  | A :: As, 0, nd, nb, dj => by
    rw [List.flatten_cons, List.nodup_append] at nd
    rw [List.set_cons_zero, List.flatten_cons, List.nodup_append]
    exact ⟨nb, nd.2.1, fun a h1 b h2 e => dj b (by rw [List.flatten_cons]; exact List.mem_append_right _ h2) (e ▸ h1)⟩
  | A :: As, j + 1, nd, nb, dj => by
    rw [List.flatten_cons, List.nodup_append] at nd
    rw [List.set_cons_succ, List.flatten_cons, List.nodup_append]
    refine ⟨nd.1, nodup_flat_set j nd.2.1 nb fun a ha => dj a (by rw [List.flatten_cons]; exact List.mem_append_right _ ha), fun a h1 b h2 e => ?_⟩
    rcases flat_set h2 with q | q
    · exact nd.2.2 a h1 b q e
    · exact dj a (by rw [List.flatten_cons]; exact List.mem_append_left _ h1) (e ▸ q)
/-- a list of own lists gets one in the place of another -/
theorem own_set {B A : List Addr} {x : V} {ds : List D} {d : Nat} (r : OwnR g L ρ H (d + 1) A x (.lst ds)) : ∃ p xs, x = .ref p ∧ p ∈ A ∧ H p = some (.lst xs) ∧ xs.length = ds.length ∧
    ∀ {z : V} {v : D} (j : Nat), OwnR g L ρ H d B z v → (∀ a ∈ A, a ∉ B) → A.Nodup → B.Nodup → L p → ∃ A', OwnR g L ρ (upd H p (.lst (xs.set j z))) (d + 1) A' x (.lst (ds.set j v)) ∧ A'.Nodup ∧ ∀ a ∈ A', a ∈ A ∨ a ∈ B := by
  cases r with
  | imm r z => rcases z with z | z; cases z; cases z
  | @lst _ p xs _ As h1 hl hA r =>
    refine ⟨p, xs, rfl, List.mem_cons_self, h1, hl, fun {z v} j rz dj nd nb lp => ?_⟩
    have nd0 := List.nodup_cons.mp nd
    have kp : Keep L L H (upd H p (.lst (xs.set j z))) := fun a w e na => ⟨by
      have ne : a ≠ p := fun q => na (by rw [q]; exact lp)
      rw [upd_ne ne]; exact e, na⟩
    have tk : TupK H (upd H p (.lst (xs.set j z))) := fun a us eu => by
      have ne : a ≠ p := fun q => by subst q; rw [h1] at eu; cases eu
      rw [upd_ne ne]; exact eu
    refine ⟨p :: (As.set j B).flatten, .lst upd_same (by simp [hl]) (by simp [hA]) fun i x f A' h1 h2 h3 => ?_, ?_, fun a ha => ?_⟩
    · have go : OwnR g L ρ H d A' x f ∧ p ∉ A' := by
        rw [List.getElem?_set] at h1 h2 h3
        by_cases hj : j = i
        · subst hj
          rw [if_pos rfl] at h1 h2 h3
          split at h1 <;> split at h2 <;> split at h3 <;> first | (cases h1; cases h2; cases h3; exact ⟨rz, dj p List.mem_cons_self⟩) | contradiction
        · rw [if_neg hj] at h1 h2 h3
          exact ⟨r i x f A' h1 h2 h3, fun q => nd0.1 (List.mem_flatten.mpr ⟨A', List.mem_of_getElem? h3, q⟩)⟩
      refine go.1.keep kp tk (fun _ _ h => h) fun a ha o h => ?_
      have ne : a ≠ p := fun q => go.2 (by rw [← q]; exact ha)
      rw [upd_ne ne]
      exact h
    · refine List.nodup_cons.mpr ⟨fun h => ?_, nodup_flat_set j nd0.2 nb fun a ha => dj a (List.mem_cons_of_mem _ ha)⟩
      rcases flat_set h with q | q
      · exact nd0.1 q
      · exact dj p List.mem_cons_self q
    · rcases List.mem_cons.mp ha with rfl | ha
      · exact .inl List.mem_cons_self
      · rcases flat_set ha with q | q
        · exact .inl (List.mem_cons_of_mem _ q)
        · exact .inr q
theorem own2_lst {A : List Addr} {x : V} {v k z w : D} (r : OwnR g L ρ H 2 A x v) (e : setD v k z = some w) : ∃ ds i j, v = .lst ds ∧ k = .int i ∧ ixI ds.length i = some j ∧ w = .lst (ds.set j z) := by
  unfold setD at e
  split at e
  · rename_i ds i
    obtain ⟨j, hj, e⟩ := Option.map_eq_some_iff.mp e
    exact ⟨ds, i, j, rfl, rfl, hj, e.symm⟩
  · cases r with
    | imm r z => rcases z with z | z; cases z; cases z
  · cases e
/-- .. still told from an earlier point -/
theorem FinS.bindB {α : Type} {D : Ends} {H1 : Hp} {r : Res α} {f : α → List BP.D → Res (Fl × Env)} (s1 : Sim g Lo L ρ env S σ H1) (e1 : Kp L ρ H L ρ H1) (h : FinS g Lo W dr D L ρ H (r.bind f)) : Fin g Lo W L ρ env σ (fun v S2 H2 => Ev ρ H1 H2 ∧ Sim g Lo L ρ env S2 σ H2 ∧ FinS g Lo W dr D L ρ H (f v S2)) r H1 := by
  cases r with
  | ok v S2 => exact fun H2 e s2 => ⟨e, s2, h⟩
  | exc c fs S2 => exact fun d H2 e s2 x => h L ρ env σ H2 d (e1.trans (e.kp s1)) s2 x
  | stuck => exact h
/-- x[k] = v, x two deep -/
theorem s_setI2d (C : Csx g c P X sc n W) {i : Nat} (ke ve : Ex) (h1 : varOk c sc i y = true) (h2 : ke.ck c sc (.weak 0) b = true) (h3 : ve.ck c sc (.fresh 1) a = true) (hns : notSlice b = true) : PSm g Lo W dr X (.Assign [.Subscript (.Name y py) b tpos] a pos) (setIF i 2 (ke.ev P false) (ve.ev P false)) := by
  obtain ⟨q1, q2, q3, q4⟩ := varOk_ok C.tt h1
  refine PS.sub (ps_asg (ve.sound Lo _ _ C.tt h3) (pg_sub (pe_var q1 q2 q3 q4) (PE.ex fun Lo' => ke.sound Lo' (.weak 0) _ C.tt h2) (set_A C.tt.xg) (fun v => by cases b <;> first | rfl | cases hns)) (by cases a <;> rfl) (by cases a <;> rfl) rfl) fun D σ H ⟨L, ρ, env, S, s, k⟩ => ?_
  unfold setIF gdF at k
  split at k
  · rename_i hk
    obtain ⟨x, hx⟩ := atK_has s hk
    refine partS0 s k fun z v S1 H1 e1 s1 r k1 => ?_
    obtain ⟨B, ro, nd, fr, cl⟩ := r
    have s2 := s.grow e1 s1 cl fr ro.mut
    refine ⟨x, hx, Lo.mores B, ?_⟩
    have kE := (FinS.bindB s1 (e1.kp s) k1).enterL (B := B) (.refl _ _) s.out
    refine tE_of s2 (kE.imp fun kd S2 H2 ⟨s3, e2, e3, s4, k2⟩ yk r2 => ?_)
    have r2 : Rep g (orL L B) ρ H2 yk kd := r2
    cases q : chg env S2 i 2 (fun c => setD c kd v) with
    | none => rw [q] at k2; exact k2.elim
    | some w =>
      obtain ⟨env', S'⟩ := w
      rw [q] at k2
      unfold chg at q
      split at q
      · rename_i d' u ei
        split at q
        · rename_i hd
          subst hd
          obtain ⟨w, hw, q⟩ := Option.map_eq_some_iff.mp q
          cases q
          have nB : ∀ a ∈ B, Lo.H0 a = none ∧ ¬ Lo.lo a := fun a ha => ⟨s.old (fr a ha), fun h => s.nlive (fr a ha) (s.out a h)⟩
          obtain ⟨x', A, h5, rA, ndA, hA, tn⟩ := s3.reown nB ei
          obtain ⟨ds, ii, j, rfl, rfl, hj, rfl⟩ := own2_lst rA hw
          obtain ⟨p, ys, rfl, hp, h6, hys, mk⟩ := own_set (B := B) rA
          rw [hx] at h5
          cases h5
          have lp := (hA p hp).1
          have ro2 : OwnR g (orL L B) ρ H2 1 B z v := ro.keep (fun a o q na => ⟨e2 a o q fun hr => na (.inl (s.inL hr)), na⟩) (e2.tup s1) (fun _ _ h => h) fun a ha o q => e2 a o q fun hr => by
            obtain ⟨u, z, _⟩ := s.live a (s.inL hr)
            rw [fr a ha] at z; cases z
          obtain ⟨A', o2, nd2, hA'⟩ := mk j ro2 (fun a ha => (hA a ha).2.1) ndA nd lp
          cases r2
          refine .inl ⟨p, ys, ii, j, rfl, rfl, h6, by rw [hys]; exact hj, ?_⟩
          have s5 := tn (upd H2 p (.lst (ys.set j z))) _ A' (fun a o e n => by rw [upd_ne (fun q : a = p => n (by rw [q]; exact hp))]; exact e) (fun a ha => by
            by_cases hap : a = p
            · subst hap; exact ⟨_, upd_same, True.intro⟩
            · rw [upd_ne hap]; exact rA.mut a ha) o2 nd2 hA'
          refine k2 _ _ _ _ ⟨fun b o e n => ⟨?_, fun h => h.elim n fun h => by rw [fr b h] at e; cases e⟩, [], (List.append_nil _).symm⟩ s5
          have ne : b ≠ p := fun q => by
            subst q
            rcases lp with lp | lp
            · exact n lp
            · rw [fr b lp] at e; cases e
          rw [upd_ne ne]
          exact e2 b o (e1 b o e fun hr => n (s.inL hr)) fun hr => n (s.inL hr)
        · cases q
      · rw [if_neg (by decide)] at q; cases q
      · cases q
  · exact k.elim
/-- an element of one's own is changed -/
theorem own_in {A : List Addr} {p : Addr} {ds : List D} (r : OwnR g L ρ H 2 A (.ref p) (.lst ds)) (nd : A.Nodup) {j : Nat} {xd : D} (e : ds[j]? = some xd) (c : xd.cont = true) : ∃ xs q, H p = some (.lst xs) ∧ xs.length = ds.length ∧ xs[j]? = some (.ref q) ∧ q ∈ A ∧ OwnR g L ρ H 1 [q] (.ref q) xd ∧
    ∀ H' w, (∀ b o, H b = some o → b ≠ q → H' b = some o) → L q → OwnR g L ρ H' 1 [q] (.ref q) w → OwnR g L ρ H' 2 A (.ref p) (.lst (ds.set j w)) := by
  cases r with
  | imm r z => rcases z with z | z; cases z; cases z
  | @lst _ p xs _ As h1 hl hA r =>
    have hj : j < ds.length := (List.getElem?_eq_some_iff.mp e).1
    have hx : j < xs.length := by rw [hl]; exact hj
    have hAj : j < As.length := by rw [hA]; exact hj
    have ex := List.getElem?_eq_getElem hx
    have eA := List.getElem?_eq_getElem hAj
    have ro := r j _ _ _ ex e eA
    obtain ⟨q, h2, h3⟩ := own1 ro c
    rw [h2] at ex ro
    rw [h3] at eA ro
    have hq : q ∈ As.flatten := List.mem_flatten.mpr ⟨_, List.mem_of_getElem? eA, by simp⟩
    have nd0 := List.nodup_cons.mp nd
    refine ⟨xs, q, h1, hl, ex, List.mem_cons_of_mem _ hq, ro, fun H' w k lq rw' => ?_⟩
    have hpq : p ≠ q := fun z => nd0.1 (z ▸ hq)
    obtain ⟨u, hu, mu⟩ := ro.mut q (by simp)
    refine .lst (k p _ h1 hpq) (by simp [hl]) (by simp [hA]) fun i x f A' e1 e2 e3 => ?_
    rw [List.getElem?_set] at e2
    by_cases hji : j = i
    · subst hji
      rw [if_pos rfl, if_pos hj] at e2
      cases e2
      rw [ex] at e1
      rw [eA] at e3
      cases e1; cases e3
      exact rw'
    · rw [if_neg hji] at e2
      refine (r i x f A' e1 e2 e3).keep (fun a o z na => ⟨k a o z fun h => na (h ▸ lq), na⟩) (fun a us z => k a _ z fun h => by subst h; rw [z] at hu; cases hu; exact mu) (fun _ _ h => h) fun a ha o z => k a o z fun h => ?_
      subst h
      have key : ∀ (l : List (List Addr)) (i j : Nat) (A B : List Addr) (a : Addr), l.flatten.Nodup → l[i]? = some A → l[j]? = some B → a ∈ A → a ∈ B → i = j := by
        intro l
        induction l with
        | nil => intro i j A B a _ h _ _ _; simp at h
        | cons C l ih =>
          intro i j A B a nd h1 h2 h3 h4
          rw [List.flatten_cons, List.nodup_append] at nd
          cases i with
          | zero =>
            cases j with
            | zero => rfl
            | succ j =>
              simp at h1 h2
              subst h1
              exact absurd rfl (nd.2.2 a h3 a (List.mem_flatten.mpr ⟨_, List.mem_of_getElem? h2, h4⟩))
          | succ i =>
            cases j with
            | zero =>
              simp at h1 h2
              subst h2
              exact absurd rfl (nd.2.2 a h4 a (List.mem_flatten.mpr ⟨_, List.mem_of_getElem? h1, h3⟩))
            | succ j =>
              simp at h1 h2
              rw [ih i j A B a nd.2.1 h1 h2 h3 h4]
      exact hji (key As j i _ _ a nd0.2 eA e3 (by simp) ha)
theorem idxD_at {ds : List D} {kd x : D} (h : idxD (.lst ds) kd = some x) : ∃ i j, kd = .int i ∧ ixI ds.length i = some j ∧ ds[j]? = some x := by
  cases kd with
  | int i =>
    have h : atD ds i = some x := h
    obtain ⟨j, h1, h2⟩ := Option.bind_eq_some_iff.mp h
    exact ⟨i, j, rfl, h1, h2⟩
  | _ => cases h
/-- x[j][k] = v -/
theorem s_setI2 (C : Csx g c P X sc n W) {i : Nat} (je ke ve : Ex) (h1 : varOk c sc i y = true) (h2 : je.ck c sc (.weak 0) b = true) (h3 : ke.ck c sc (.weak 0) b2 = true) (h4 : ve.ck c sc (.weak 0) a = true) (hns : notSlice b = true) (hns2 : notSlice b2 = true) :
    PSm g Lo W dr X (.Assign [.Subscript (.Subscript (.Name y py) b tpos2) b2 tpos] a pos) (setI2F i (je.ev P false) (ke.ev P false) (ve.ev P false)) := by
  obtain ⟨q1, q2, q3, q4⟩ := varOk_ok C.tt h1
  refine PS.sub (ps_asg (ve.sound Lo _ _ C.tt h4) (pg_sub (pe_ix ix_list (pe_var q1 q2 q3 q4) (je.sound Lo _ _ C.tt h2) (fun _ _ => by cases b <;> first | rfl | cases hns)) (ke.sound Lo _ _ C.tt h3) (set_A C.tt.xg) (fun v => by cases b2 <;> first | rfl | cases hns2)) (by cases a <;> rfl) (by cases a <;> rfl) rfl) fun D σ H ⟨L, ρ, env, S, s, k⟩ => ?_
  unfold setI2F gdF at k
  split at k
  · rename_i hk
    obtain ⟨x, hx⟩ := atK_has s hk
    refine partS s k fun z v S1 H1 e1 s1 r k1 => ?_
    have r : Rep g L ρ H1 z v := r
    refine ⟨x, hx, partS s1 k1 fun yj jd S2 H2 e2 s2 r2 k2 => ?_⟩
    have r2 : Rep g L ρ H2 yj jd := r2
    obtain ⟨xd, hlook, k2⟩ := k2.opt
    obtain ⟨p, xs, ds, d, h5, h6, rs, h7⟩ := lookS_ok s2 hlook
    rw [hx] at h5
    cases h5
    obtain ⟨ji, j, rfl, hj, hdj⟩ := idxD_at h7
    obtain ⟨z', h8, r8⟩ := atD_eq rs (show atD ds ji = some xd from h7)
    cases r2
    refine ⟨p, xs, ji, z', rfl, rfl, .of h6, h8, partS s2 k2 fun yk kd S3 H3 e3 s3 r3 k3 => ?_⟩
    have r3 : Rep g L ρ H3 yk kd := r3
    cases q : chg env S3 i 2 (fun c => (idxD c (.int ji)).bind fun x => (setD x kd v).bind fun x => setD c (.int ji) x) with
    | none => rw [q] at k3; exact k3.elim
    | some w =>
      obtain ⟨env', S'⟩ := w
      rw [q] at k3
      unfold chg at q
      split at q
      · rename_i d' u ei
        split at q
        · rename_i hd
          subst hd
          obtain ⟨w, hw, q⟩ := Option.map_eq_some_iff.mp q
          cases q
          obtain ⟨x1, hx1, hw⟩ := Option.bind_eq_some_iff.mp hw
          obtain ⟨x2, hx2, hw⟩ := Option.bind_eq_some_iff.mp hw
          have s3' : Sim g (Lo.mores []) L ρ env S3 σ H3 := mores_nil.symm ▸ s3
          obtain ⟨x', A, h5, rA, ndA, hA, tn⟩ := s3'.reown (fun a ha => by cases ha) ei
          rw [hx] at h5
          cases h5
          obtain ⟨ds3, i3, j3, rfl, e3', hj3, rfl⟩ := own2_lst rA hw
          cases e3'
          obtain ⟨i4, j4, e4, hj4, hd4⟩ := idxD_at hx1
          cases e4
          rw [hj3] at hj4
          cases hj4
          obtain ⟨xs3, q, h9, hl3, h10, hqA, roq, mk⟩ := own_in rA ndA hd4 (setD_cont hx2)
          have hpA : p ∈ A := by
            obtain ⟨b, e, h⟩ := rA.head rfl (by decide)
            cases e; exact h
          have h11 := e3 p _ h6 (hA p hpA).2.2.1
          rw [h9] at h11
          cases h11
          have hz : z' = .ref q := by
            unfold atI at h8
            have : ixN xs.length ji = some j3 := by rw [hl3]; exact hj3
            rw [this] at h8
            have h8 : xs[j3]? = some z' := h8
            rw [h10] at h8
            exact (Option.some.inj h8).symm
          subst hz
          have lq := (hA q hqA).1
          exact set_own s3 lq roq hx2 r3 ((e3.rep s2 (e2.rep s1 r))) fun o mo r' => by
            have s5 := tn (upd H3 q o) _ A (fun a o' e n => by rw [upd_ne (fun z : a = q => n (by rw [z]; exact hqA))]; exact e) (fun a ha => by
              by_cases haq : a = q
              · subst haq; exact ⟨_, upd_same, mo⟩
              · rw [upd_ne haq]; exact rA.mut a ha) (mk _ _ upd_keep lq r') ndA fun a ha => .inl ha
            exact k3 _ _ _ _ (kp_upd lq) s5
        · cases q
      · rw [if_neg (by decide)] at q; cases q
      · cases q
  · exact k.elim
end
end BP
end

section
set_option autoImplicit false
set_option linter.all false
set_option maxRecDepth 100000
/-! BP6: x.pop(), x.pop(k). -/
namespace BP
open PySem PySem.Spec PyProof.Rows L2

section
variable {dr : Nat} {g : Gx} {Lo : Out} {W : WX} {X : Cx} {c : Ck} {P : Prg} {sc : Scope} {n : Nat} {L : Addr → Prop} {ρ : List Addr} {env env' : Env} {S S' : List D} {σ : L2.St} {H H' : Hp} {a b b2 : Expr} {x y : Str} {pos apos cpos apos2 cpos2 py px tpos tpos2 : Pos} {fa : EF}
theorem Sim.pop1 (s : Sim g Lo L ρ env S σ H) {i : Nat} {o : Option Int} {y : D} (h : pops env S i o = some (y, env', S')) :
    ∃ a v w, σ[i]? = some (some (.ref a)) ∧ popAt o v = some (y, w) ∧ L a ∧ OwnR g L ρ H 1 [a] (.ref a) v ∧ ∀ H', (∀ b o, H b = some o → b ≠ a → H' b = some o) → OwnR g L ρ H' 1 [a] (.ref a) w → Sim g Lo L ρ env' S' σ H' := by
  have hc : ∀ v w, popAt o v = some w → v.cont = true := fun v w h => by
    unfold popAt at h
    split at h
    · rfl
    · cases h
  unfold pops at h
  split at h
  · rename_i d' v e
    split at h
    · rename_i hd
      subst hd
      obtain ⟨w, hw, h⟩ := Option.map_eq_some_iff.mp h
      cases h
      have s' : Sim g (Lo.mores []) L ρ env S σ H := mores_nil.symm ▸ s
      obtain ⟨x, A, h1, r, _, hA, k⟩ := s'.reown (fun a ha => by cases ha) e
      obtain ⟨a, rfl, rfl⟩ := own1 r (hc _ _ hw)
      refine ⟨a, v, w.2, h1, hw, (hA a List.mem_cons_self).1, r, fun H' hk r' => k H' w.2 [a] (fun b o q n => hk b o q fun e => n (by rw [e]; exact List.mem_cons_self)) (fun b hb => ?_) r' (by simp) fun b hb => .inl hb⟩
      obtain ⟨u, hu, mu⟩ := r.mut b hb
      have e : b = a := by simpa using hb
      subst e
      obtain ⟨ds, e2⟩ : ∃ ds, w.2 = .lst ds := by
        unfold popAt at hw
        split at hw
        · split at hw
          · obtain ⟨z, _, e⟩ := Option.map_eq_some_iff.mp hw
            rw [← e]; exact ⟨_, rfl⟩
          · split at hw
            · obtain ⟨z, _, hw⟩ := Option.bind_eq_some_iff.mp hw
              obtain ⟨z', _, e⟩ := Option.map_eq_some_iff.mp hw
              rw [← e]; exact ⟨_, rfl⟩
            · cases hw
        · cases hw
      rw [e2] at r'
      obtain ⟨xs, h, _⟩ := own1_lst r'
      exact ⟨_, h, True.intro⟩
    · cases h
  · rename_i n e
    obtain ⟨v, hv, h⟩ := Option.bind_eq_some_iff.mp h
    obtain ⟨w, hw, h⟩ := Option.map_eq_some_iff.mp h
    cases h
    obtain ⟨x, e1, r⟩ := s.slot e
    obtain ⟨a, ha, ro, la, k⟩ := s.recell hv
    have ex : x = .ref a := by
      cases r with
      | ref q => rw [ha] at q; cases q; rfl
    subst ex
    exact ⟨a, v, w.2, e1, hw, la, ro, fun H' hk r' => k H' w.2 hk r'⟩
  · cases h
theorem popAt_no {v y w : D} (h : popAt none v = some (y, w)) : ∃ ds, v = .lst ds ∧ ds[ds.length - 1]? = some y ∧ w = .lst ds.dropLast := by
  unfold popAt at h
  split at h
  · obtain ⟨z, hz, e⟩ := Option.map_eq_some_iff.mp h
    cases e
    rw [List.getLast?_eq_getElem?] at hz
    exact ⟨_, rfl, hz, rfl⟩
  · cases h
theorem popAt_so {v y w : D} {i : Int} (h : popAt (some i) v = some (y, w)) : ∃ ds j, v = .lst ds ∧ smallI i = true ∧ ixI ds.length i = some j ∧ ds[j]? = some y ∧ w = .lst (ds.eraseIdx j) := by
  unfold popAt at h
  split at h
  · have h : (if smallI i = true then _ else _) = _ := h
    split at h
    · rename_i hs
      obtain ⟨j, hj, h⟩ := Option.bind_eq_some_iff.mp h
      obtain ⟨z, hz, e⟩ := Option.map_eq_some_iff.mp h
      cases e
      exact ⟨_, j, rfl, hs, hj, hz, rfl⟩
    · cases h
  · cases h
/-- x.pop(..) in an expression -/
def tPop (g : Gx) (Lo : Out) (W : WX) (j : Nat) (fk : OF) : TE := fun σ H Q => ∃ L ρ env S, Sim g Lo L ρ env S σ H ∧ atK env S j isL = true ∧
  Fin g Lo W L ρ env σ (fun o S1 H1 => ∃ y env2 S2, pops env S1 j o = some (y, env2, S2) ∧ ∀ x H2, Kp L ρ H1 L ρ H2 → Sim g Lo L ρ env2 S2 σ H2 → Rep g L ρ H2 x y → Q x H2) (fk env S) H
theorem meth1_few0 {pos : Pos} {env : PySem.Env} {e : Expr} (he : plainE e = true) : ((backTo pos (starEach [e] env)).all (fun x => !x.1) && (backToKw pos (keywordEach [] env)).all (fun x => x.1.isSome)
    && decide ((e :: ([] : List Expr)).length + ([] : List Keyword).length + (if ([] : List Keyword).isEmpty then 0 else 1) < 30)) = true := meth1_few he
theorem pe_pop0 (C : Csx g c P X sc n W) {j : Nat} (h1 : varOk c sc j y = true) (hl : (apos.endLine == cpos.line) = true) : PE X (.Call (.Attribute (.Name y py) "pop" apos) [] [] cpos) (tPop g Lo W j noF) := by
  obtain ⟨q1, q2, q3, q4⟩ := varOk_ok C.tt h1
  refine PE.sub (pe_bm0 PySem.F.plainAttrs_list PySem.F.slot_list_pop PySem.F.type_list_pop mt_pop (pe_var q1 q2 q3 q4) (attr_plain rfl) hl) fun σ H Q ⟨L, ρ, env, S, s, hk, h⟩ => ?_
  obtain ⟨p, xs, h3, h4⟩ := atK_lst s hk
  refine ⟨_, h3, .inl ⟨rfl, _, .of h4⟩, ?_⟩
  obtain ⟨y', env2, S2, hp, k⟩ := h.ok s
  obtain ⟨a, v, w, h5, h6, la, ro, tn⟩ := s.pop1 hp
  rw [h3] at h5
  cases h5
  obtain ⟨ds, rfl, hy, rfl⟩ := popAt_no h6
  obtain ⟨ys, h7, rs⟩ := own1_lst ro
  obtain ⟨z, hz, rz⟩ := rs.get hy
  exact ⟨p, ys, z, rfl, rfl, h7, by rw [rs.length]; exact hz, k z _ (kp_upd la) (tn _ upd_keep (lst_own1 upd_same (rs.dropLast.imp fun _ _ q => q.turn s la))) (rz.turn s la)⟩
theorem small_ok {i : Int} (h : smallI i = true) : -(2 ^ 63) ≤ i ∧ i < 2 ^ 63 := by
  rw [smallI_iff] at h
  rw [Bool.and_eq_true, decide_eq_true_eq, decide_eq_true_eq] at h
  omega
theorem pe_pop1 (C : Csx g c P X sc n W) {j : Nat} (e : Ex) (h1 : varOk c sc j y = true) (h2 : e.ck c sc (.weak 0) a = true) (hp : plainE a = true) (hl : (apos.endLine == cpos.line) = true) : PE X (.Call (.Attribute (.Name y py) "pop" apos) [a] [] cpos) (tPop g Lo W j (oxF (e.ev P false))) := by
  obtain ⟨q1, q2, q3, q4⟩ := varOk_ok C.tt h1
  refine PE.sub (pe_bm PySem.F.plainAttrs_list PySem.F.slot_list_pop PySem.F.type_list_pop mt_popAt (pe_var q1 q2 q3 q4) (pa_cons (e.sound Lo (.weak 0) _ C.tt h2) pa_nil (star_one hp)) (attr_plain rfl) (meth1_few hp) hl (star_one hp) rfl) fun σ H Q ⟨L, ρ, env, S, s, hk, h⟩ => ?_
  obtain ⟨p, xs, h3, h4⟩ := atK_lst s hk
  refine ⟨_, h3, .inl ⟨rfl, _, .of h4⟩, ?_⟩
  refine part s h fun x v S1 H1 e1 s1 r h1 => ?_
  have r : Rep g L ρ H1 x v := r
  cases v with
  | int i =>
    obtain ⟨y', env2, S2, hp, k⟩ := h1.ok s1
    obtain ⟨a, v, w, h5, h6, la, ro, tn⟩ := s1.pop1 hp
    rw [h3] at h5
    cases h5
    obtain ⟨ds, jj, rfl, hs, hj, hy, rfl⟩ := popAt_so h6
    obtain ⟨ys, h7, rs⟩ := own1_lst ro
    obtain ⟨z, hz, rz⟩ := rs.get hy
    cases r
    obtain ⟨b1, b2⟩ := small_ok hs
    exact ⟨p, ys, i, jj, z, rfl, rfl, h7, b1, b2, (ixN_seq (by rw [rs.length]; exact hj)).1, hz, k z _ (kp_upd la) (tn _ upd_keep (lst_own1 upd_same ((rs.eraseIdx jj).imp fun _ _ q => q.turn s1 la))) (rz.turn s1 la)⟩
  | _ => exact h1.elim
theorem popF_fin {D : Ends} {j : Nat} {fk : OF} {kk : BP.D → Env → List BP.D → Res (Fl × Env)} (s : Sim g Lo L ρ env S σ H) (k : FinS g Lo W dr D L ρ H (popF fk j kk env S)) : atK env S j isL = true ∧
    Fin g Lo W L ρ env σ (fun o S1 H1 => ∃ y env2 S2, pops env S1 j o = some (y, env2, S2) ∧ Kp L ρ H L ρ H1 ∧ FinS g Lo W dr D L ρ H1 (kk y env2 S2)) (fk env S) H := by
  unfold popF gdF at k
  split at k
  · rename_i hk
    refine ⟨hk, (FinS.bind s k).impS fun o S1 H1 _ s1 ⟨e, _, k1⟩ => ?_⟩
    split at k1
    · rename_i y env2 S2 hp
      exact ⟨y, env2, S2, hp, e.kp s, k1⟩
    · exact k1.elim
  · exact k.elim
/-- the form of a pop -/
def popA (c : Ck) (sc : Scope) (j : Nat) (k : Ox) (x : Expr) : Bool := match k, x with
  | .no, .Call (.Attribute (.Name y _) f apos) [] [] cpos => decide (f = "pop") && varOk c sc j y && (apos.endLine == cpos.line)
  | .so e, .Call (.Attribute (.Name y _) f apos) [a] [] cpos => decide (f = "pop") && varOk c sc j y && e.ck c sc (.weak 0) a && plainE a && (apos.endLine == cpos.line)
  | _, _ => false
theorem pe_pop (C : Csx g c P X sc n W) {j : Nat} (k : Ox) {x : Expr} (h : popA c sc j k x = true) : PE X x (tPop g Lo W j (k.evo P)) := by
  unfold popA at h
  split at h
  · obtain ⟨h, h3⟩ := ands h
    obtain ⟨h1, h2⟩ := ands h
    have e := of_decide_eq_true h1
    subst e
    exact pe_pop0 C h2 h3
  · obtain ⟨h, h5⟩ := ands h
    obtain ⟨h, h4⟩ := ands h
    obtain ⟨h, h3⟩ := ands h
    obtain ⟨h1, h2⟩ := ands h
    have e := of_decide_eq_true h1
    subst e
    exact pe_pop1 C _ h2 h3 h4 h5
  · cases h
theorem pop_notComp {j : Nat} {k : Ox} {x : Expr} (h : popA c sc j k x = true) (t : Option Expr) (l : Nat) (env : PySem.Env) : swapsWith x t l env = pure false := by
  unfold popA at h
  split at h
  · rfl
  · rfl
  · cases h
theorem s_dropPop (C : Csx g c P X sc n W) {j : Nat} (k : Ox) (h : popA c sc j k a = true) : PSm g Lo W dr X (.Expr a pos) (popF (k.evo P) j fun _ env S => .ok (.nx, env) S) := by
  refine PS.sub (ps_expr (pe_pop (Lo := Lo) C k h) (pop_notComp h _ _ _)) fun D σ H ⟨L, ρ, env, S, s, kk⟩ => ?_
  obtain ⟨hk, f⟩ := popF_fin s kk
  exact ⟨L, ρ, env, S, s, hk, f.imp fun o S1 H1 ⟨y, env2, S2, hp, kp, k1⟩ => ⟨y, env2, S2, hp, fun x H2 kp2 s2 _ => k1 _ _ _ _ kp2 s2⟩⟩
theorem s_asgPop (C : Csx g c P X sc n W) {i j : Nat} (k : Ox) (h1 : nmOk c sc i x = true) (h : popA c sc j k a = true) : PSm g Lo W dr X (.Assign [.Name x px] a pos) (popF (k.evo P) j fun y env S => .ok (.nx, env.set i (.val y)) S) := by
  obtain ⟨hN, hi, hl, hf⟩ := nm_ok C h1
  refine PS.sub (ps_set hN hi hl (pe_pop (Lo := Lo) C k h) (pop_notComp h _ _ _) hf) fun D σ H ⟨L, ρ, env, S, s, kk⟩ => ?_
  obtain ⟨hk, f⟩ := popF_fin s kk
  exact ⟨L, ρ, env, S, s, hk, f.imp fun o S1 H1 ⟨y, env2, S2, hp, kp, k1⟩ => ⟨y, env2, S2, hp, fun x H2 kp2 s2 r => k1 _ _ _ _ kp2 (s2.setVal _ r)⟩⟩
/-- x.append(y.pop(..)) -/
theorem s_appPop (C : Csx g c P X sc n W) {i j : Nat} (k : Ox) (h1 : varOk c sc i y = true) (h : popA c sc j k a = true) (hp : plainE a = true) (hl : (apos.endLine == cpos.line) = true) :
    PSm g Lo W dr X (.Expr (.Call (.Attribute (.Name y py) "append" apos) [a] [] cpos) pos) (gdF i isL (popF (k.evo P) j fun z env S => chgR (chg env S i 1 (appD z)))) := by
  obtain ⟨q1, q2, q3, q4⟩ := varOk_ok C.tt h1
  refine PS.sub (ps_expr (pe_bm PySem.F.plainAttrs_list PySem.F.slot_list_append PySem.F.type_list_append mt_append (pe_var q1 q2 q3 q4) (pa_cons (pe_pop (Lo := Lo) C k h) pa_nil (star_one hp)) (attr_plain rfl) (meth1_few hp) hl (star_one hp) rfl) rfl) fun D σ H ⟨L, ρ, env, S, s, kk⟩ => ?_
  unfold gdF at kk
  split at kk
  · rename_i hk0
    obtain ⟨p, xs, h3, h4⟩ := atK_lst s hk0
    refine ⟨_, h3, .inl ⟨rfl, _, .of h4⟩, ?_⟩
    obtain ⟨hk, f⟩ := popF_fin s kk
    refine ⟨L, ρ, env, S, s, hk, f.imp fun o S1 H1 ⟨y, env2, S2, hp, kp, k1⟩ => ⟨y, env2, S2, hp, fun x H2 kp2 s2 r => ?_⟩⟩
    cases q : chg env2 S2 i 1 (appD y) with
    | none => rw [q] at k1; exact k1.elim
    | some z =>
      obtain ⟨env', S'⟩ := z
      rw [q] at k1
      obtain ⟨p', u, w, h5, h6, la, ro, tn⟩ := s2.chg1 (fun v w h => by obtain ⟨_, rfl, _⟩ := appD_ok h; rfl) q
      rw [h3] at h5
      cases h5
      obtain ⟨ds, rfl, hl, rfl⟩ := appD_ok h6
      obtain ⟨ys, h7, rs⟩ := own1_lst ro
      refine ⟨p, ys, x, rfl, rfl, h7, by rw [rs.length, ← lim_eq]; exact hl, ?_⟩
      have s3 := tn (upd H2 p (.lst (ys ++ [x]))) upd_keep (lst_own1 upd_same ((rs.append (.cons r .nil)).imp fun _ _ q => q.turn s2 la))
      exact k1 _ _ _ _ (kp2.trans (kp_upd la)) s3
  · exact kk.elim
end
end BP
end

section
set_option autoImplicit false
set_option linter.all false
set_option maxRecDepth 100000
/-! BP7: self.f = v; return of an own thing; an own thing is frozen, or shared. -/
namespace BP
open PySem PySem.Spec PyProof.Rows L2

theorem putF_new {f : Str} {v : V} : ∀ {fs : List (Str × V)}, f ∉ fs.map (·.1) → putF f v fs = fs ++ [(f, v)]
  | [], _ => rfl
  | (g, x) :: r, h => by
    rw [List.map_cons, List.mem_cons, not_or] at h
    show (if g = f then (g, v) :: r else (g, x) :: putF f v r) = _
    rw [if_neg (fun e => h.1 e.symm), putF_new h.2]
    rfl
section
variable {dr : Nat} {g : Gx} {Lo : Out} {W : WX} {X : Cx} {c : Ck} {P : Prg} {sc : Scope} {n : Nat} {L : Addr → Prop} {ρ : List Addr} {env env' : Env} {S S' : List D} {σ : L2.St} {H H' : Hp} {a b b2 : Expr} {x y : Str} {pos apos cpos apos2 cpos2 py px tpos tpos2 : Pos} {fa : EF}
/-- the instance that is being made gets a field -/
theorem Sim.refld (s : Sim g Lo L ρ env S σ H) {ci : Nat} {ds : List D} (e : env[0]? = some (.new ci ds)) : ∃ dx fs, σ[0]? = some (some (.ref Lo.me)) ∧ H Lo.me = some (.ins (g.ca ci) dx fs) ∧ All2 (Rep g L ρ H) (fs.map (·.2)) ds ∧ fs.map (·.1) = (g.flds ci).take ds.length ∧ L Lo.me ∧
    ∀ fs' ds', All2 (Rep g L ρ (upd H Lo.me (.ins (g.ca ci) dx fs'))) (fs'.map (·.2)) ds' → fs'.map (·.1) = (g.flds ci).take ds'.length → Sim g Lo L ρ (env.set 0 (.new ci ds')) S σ (upd H Lo.me (.ins (g.ca ci) dx fs')) := by
  obtain ⟨C, ow, sl⟩ := s.own
  have hs := sl 0
  rw [getD_of e] at hs
  obtain ⟨e1, e2, dx, fs, h1, r1, n1⟩ := hs
  have hx : σ[0]? = some (some (.ref Lo.me)) := by
    cases q : σ[0]? with
    | none => rw [q] at e1; cases e1
    | some y => rw [q] at e1; exact congrArg some e1
  have hi : 0 < env.length := (List.getElem?_eq_some_iff.mp e).1
  have hme : Lo.me ∈ C 0 := by rw [e2]; exact List.mem_cons_self
  refine ⟨dx, fs, hx, h1, r1, n1, (ow.inL 0 _ hme).1, fun fs' ds' r' n' => ?_⟩
  have k : ∀ a o, H a = some o → a ≠ Lo.me → upd H Lo.me (.ins (g.ca ci) dx fs') a = some o := fun a o q n => by rw [upd_ne n]; exact q
  have kp : Keep L L H (upd H Lo.me (.ins (g.ca ci) dx fs')) := fun a o q n => ⟨k a o q fun h => n (by rw [h]; exact (ow.inL 0 _ hme).1), n⟩
  have tk : TupK H (upd H Lo.me (.ins (g.ca ci) dx fs')) := fun a xs q => k a _ q fun h => by subst h; rw [h1] at q; cases q
  refine ⟨by rw [List.length_set]; exact s.len, fun a ha => ?_, ?_, ?_, fun a o h n => ?_, s.pre⟩
  · by_cases h : a = Lo.me
    · subst h; exact ⟨_, upd_same, True.intro⟩
    · obtain ⟨o, q, m⟩ := s.live a ha
      exact ⟨o, k a o q h, m⟩
  · refine ⟨C, ow, fun j => ?_⟩
    rw [getD_set]
    by_cases hj : 0 = j
    · subst hj
      rw [if_pos ⟨rfl, hi⟩]
      exact ⟨e1, e2, dx, fs', upd_same, r', n'⟩
    · rw [if_neg (fun h => hj h.1)]
      exact (sl j).keep kp tk (fun _ _ h => h) fun a ha o q => k a o q fun h => hj (ow.dj 0 j a (h ▸ hme) ha)
  · have go : ∀ {rs : List Addr} {vs : List D}, (∀ a ∈ rs, a ∈ ρ) → All2 (fun a v => OwnR g L ρ H 1 [a] (.ref a) v) rs vs → All2 (fun a v => OwnR g L ρ (upd H Lo.me (.ins (g.ca ci) dx fs')) 1 [a] (.ref a) v) rs vs := by
      intro rs vs hr q
      induction q with
      | nil => exact .nil
      | @cons a v as vs r t ih =>
        refine .cons (r.keep kp tk (fun _ _ h => h) fun b hb w hw => k b w hw fun hc => ?_) (ih fun c hc => hr c (List.mem_cons_of_mem _ hc))
        have e : b = a := by simpa using hb
        exact ow.djr 0 Lo.me hme (hc ▸ e ▸ hr a List.mem_cons_self)
    exact go (fun a h => h) s.cells
  · refine k a o (s.base a o h n) fun ha => ?_
    rw [ha, (ow.inL 0 _ hme).2.2] at h; cases h
/-- self.f = v -/
theorem s_setF (C : Csx g c P X sc n W) {ci fi : Nat} {f : Str} (e : Ex) (h1 : varOk c sc 0 y = true) (hf : (c.fl.getD ci [])[fi]? = some f) (hfi : fi < 1000) (h2 : e.ck c sc (.weak 0) a = true) (hsw : ∀ t l, swapsWith a t l X.env = pure false) :
    PSm g Lo W dr X (.Assign [.Attribute (.Name y py) f apos] a pos) (setFF ci fi (e.ev P false)) := by
  obtain ⟨q1, q2, q3, q4⟩ := varOk_ok C.tt h1
  have hf : (g.flds ci)[fi]? = some f := by rw [C.tt.fl]; exact hf
  refine PS.sub (ps_fld (pe_var q1 q2 q3 q4) (e.sound Lo (.weak 0) _ C.tt h2) (hsw _ _)) fun D σ H ⟨L, ρ, env, S, s, k⟩ => ?_
  unfold setFF at k
  refine partS s k fun z v S1 H1 e1 s1 r k1 => ?_
  have r : Rep g L ρ H1 z v := r
  split at k1
  · rename_i c' ds e0
    split at k1
    · rename_i hc
      obtain ⟨rfl, hlen⟩ := hc
      obtain ⟨dx, fs, h3, h4, r4, n4, lm, tn⟩ := s1.refld e0
      obtain ⟨k1', k2'⟩ := C.tt.cls.cls c' fi f hf
      rw [← C.tt.xg.K] at k1' k2'
      have hl : fs.length = fi := by
        have := r4.length
        rw [List.length_map] at this
        rw [this, hlen]
      have hfi' : fi < (g.flds c').length := (List.getElem?_eq_some_iff.mp hf).1
      have nf : f ∉ fs.map (·.1) := by
        rw [n4, hlen]
        intro hm
        obtain ⟨j, hj, e⟩ := List.getElem_of_mem hm
        have hj2 : j < fi := by
          have := hj
          rw [List.length_take] at this
          omega
        have e2 : (g.flds c')[j]? = some f := by
          have := List.getElem?_eq_getElem hj
          rw [e, List.getElem?_take_of_lt hj2] at this
          exact this
        have := nodup_idx (C.tt.cls.nd c') e2 hf
        omega
      refine ⟨_, h3, Lo.me, _, dx, fs, rfl, h4, k1', k2', by rw [hl]; exact hfi, ?_⟩
      have s2 := tn (fs ++ [(f, z)]) (ds ++ [v]) (by
        rw [List.map_append]
        exact (r4.append (.cons r .nil)).imp fun _ _ q => q.turn s1 lm) (by
        rw [List.map_append, n4, List.length_append, List.length_singleton, hlen, List.take_succ, hf]
        rfl)
      rw [putF_new nf]
      exact k1 _ _ _ _ (kp_upd lm) s2
    · exact k1.elim
  · exact k1.elim
/-- return x, x one's own -/
theorem s_retO (C : Csx g c P X sc n W) {i : Nat} (h1 : varOk c sc i y = true) (hd : dr = 1) : PSm g Lo W dr X (.Return (some (.Name y py)) pos) (retOF i) := by
  subst hd
  obtain ⟨q1, q2, q3, q4⟩ := varOk_ok C.tt h1
  refine PS.sub (ps_ret (pe_var q1 q2 q3 q4)) fun D σ H ⟨L, ρ, env, S, s, k⟩ => ?_
  unfold retOF at k
  split at k
  · rename_i v e
    obtain ⟨x, h2, A, hA, nd, r⟩ := s.ownSlot e
    exact ⟨x, h2, k _ _ _ _ _ (.refl _ _ _) s ⟨A, L, r, nd, fun a ha => ⟨(hA a ha).2.1.2, (hA a ha).1⟩, fun _ h => h, s.cells⟩⟩
  · exact k.elim
/-- an own thing is frozen -/
theorem Sim.freeze (s : Sim g Lo L ρ env S σ H) {i d : Nat} {v : D} (e : env[i]? = some (.own d v)) : ∃ L', Kp L ρ H L' ρ H ∧ Sim g Lo L' ρ (env.set i (.val v)) S σ H := by
  obtain ⟨C, ow, sl⟩ := s.own
  have hs := sl i
  rw [getD_of e] at hs
  obtain ⟨x, e1, r⟩ := hs
  have hi : i < env.length := (List.getElem?_eq_some_iff.mp e).1
  let L' : Addr → Prop := fun a => L a ∧ a ∉ C i
  have kp : Keep L L' H H := fun a o q n => ⟨q, fun h => n h.1⟩
  have tk : TupK H H := fun _ _ q => q
  refine ⟨L', ⟨kp, [], (List.append_nil _).symm⟩, by rw [List.length_set]; exact s.len, fun a ha => s.live a ha.1, ?_, s.cells.imp fun a v r => r.keep kp tk (fun _ _ h => h) fun _ _ _ q => q, s.base, s.pre⟩
  refine ⟨fun j => if i = j then [] else C j, ⟨fun j => ?_, fun j k a h1 h2 => ?_, ow.ndr, fun j a h1 => ?_, fun j a h1 => ?_, fun a ha => ?_, fun a h => ⟨ow.out a h, fun q => (ow.inL i a q).2.1 h⟩⟩, fun j => ?_⟩
  · show (if i = j then [] else C j).Nodup
    split
    · exact List.nodup_nil
    · exact ow.nd j
  · split at h1
    · cases h1
    · split at h2
      · cases h2
      · exact ow.dj j k a h1 h2
  · split at h1
    · cases h1
    · exact ow.djr j a h1
  · split at h1
    · cases h1
    · rename_i hj
      exact ⟨⟨(ow.inL j a h1).1, fun q => hj (ow.dj i j a q h1)⟩, (ow.inL j a h1).2⟩
  · exact ⟨⟨(ow.inLr a ha).1, fun q => ow.djr i a q ha⟩, (ow.inLr a ha).2⟩
  · show SlotR g Lo.me L' ρ H ((env.set i (.val v)).getD j .no) ((σ[j]?).join) (if i = j then [] else C j)
    rw [getD_set]
    by_cases hj : i = j
    · subst hj
      rw [if_pos ⟨rfl, hi⟩, if_pos rfl]
      exact ⟨rfl, x, e1, (r.keep kp tk (fun _ _ h => h) fun _ _ _ q => q).frozen fun a ha h => h.2 ha⟩
    · rw [if_neg (fun h => hj h.1), if_neg hj]
      exact (sl j).keep kp tk (fun _ _ h => h) fun _ _ _ q => q
/-- .. is shared from now on -/
theorem Sim.share (s : Sim g Lo L ρ env S σ H) {i : Nat} {v : D} (e : env[i]? = some (.own 1 v)) (hc : v.cont = true) : ∃ ρ', Kp L ρ H L ρ' H ∧ Sim g Lo L ρ' (env.set i (.val (.ref S.length))) (S ++ [v]) σ H := by
  obtain ⟨C, ow, sl⟩ := s.own
  have hs := sl i
  rw [getD_of e] at hs
  obtain ⟨x, e1, r⟩ := hs
  have hi : i < env.length := (List.getElem?_eq_some_iff.mp e).1
  obtain ⟨p, rfl, hp⟩ := own1 r hc
  rw [hp] at r
  have hpi : p ∈ C i := by rw [hp]; exact List.mem_cons_self
  have kp : Keep L L H H := .refl _ _
  have tk : TupK H H := fun _ _ q => q
  have hρ : ∀ (n : Nat) (a : Addr), ρ[n]? = some a → (ρ ++ [p])[n]? = some a := fun n a h => by
    rw [List.getElem?_append_left (List.getElem?_eq_some_iff.mp h).1]; exact h
  obtain ⟨r0, p1, p2⟩ := s.pre
  refine ⟨ρ ++ [p], ⟨kp, [p], rfl⟩, by rw [List.length_set]; exact s.len, s.live, ?_, ?_, s.base, r0 ++ [p], by rw [p1, List.append_assoc], fun a ha => ?_⟩
  · refine ⟨fun j => if i = j then [] else C j, ⟨fun j => ?_, fun j k a h1 h2 => ?_, ?_, fun j a h1 => ?_, fun j a h1 => ?_, fun a ha => ?_, ow.out⟩, fun j => ?_⟩
    · show (if i = j then [] else C j).Nodup
      split
      · exact List.nodup_nil
      · exact ow.nd j
    · split at h1
      · cases h1
      · split at h2
        · cases h2
        · exact ow.dj j k a h1 h2
    · rw [List.nodup_append]
      exact ⟨ow.ndr, by simp, fun a h1 b h2 e => by
        have : b = p := by simpa using h2
        subst this
        subst e
        exact ow.djr i _ hpi h1⟩
    · split at h1
      · cases h1
      · rename_i hj
        intro hr
        rcases List.mem_append.mp hr with hr | hr
        · exact ow.djr j a h1 hr
        · have : a = p := by simpa using hr
          subst this
          exact hj (ow.dj i j _ hpi h1)
    · split at h1
      · cases h1
      · exact ow.inL j a h1
    · rcases List.mem_append.mp ha with ha | ha
      · exact ow.inLr a ha
      · have : a = p := by simpa using ha
        subst this
        exact ⟨(ow.inL i _ hpi).1, (ow.inL i _ hpi).2.1⟩
    · show SlotR g Lo.me L (ρ ++ [p]) H ((env.set i (.val (.ref S.length))).getD j .no) ((σ[j]?).join) (if i = j then [] else C j)
      rw [getD_set]
      by_cases hj : i = j
      · subst hj
        rw [if_pos ⟨rfl, hi⟩, if_pos rfl]
        refine ⟨rfl, _, e1, .ref ?_⟩
        rw [← s.cells.length, List.getElem?_append_right (Nat.le_refl _)]
        simp
      · rw [if_neg (fun h => hj h.1), if_neg hj]
        exact (sl j).keep kp tk hρ fun _ _ _ q => q
  · exact (s.cells.imp fun a v r => r.keep kp tk hρ fun _ _ _ q => q).append (.cons (r.keep kp tk hρ fun _ _ _ q => q) .nil)
  · rcases List.mem_append.mp ha with ha | ha
    · exact p2 a ha
    · have : a = p := by simpa using ha
      subst this
      exact (ow.inL i _ hpi).2.2
variable {ss : List Stmt} {h : SF}
theorem ss_frz {i : Nat} (hr : PSsm g Lo W dr X ss h) : PSsm g Lo W dr X ss (seqS (frzF i) h) := ss_skip (fun D σ H ⟨L, ρ, env, S, s, k⟩ => by
  unfold seqS frzF at k
  cases q : env[i]? with
  | none => simp only [q] at k; exact k.elim
  | some sl =>
    cases sl with
    | own d v =>
      simp only [q] at k
      obtain ⟨L', kp, s'⟩ := s.freeze q
      exact ⟨L', ρ, _, S, s', FinS.later kp k⟩
    | _ => simp only [q] at k; exact k.elim) hr
theorem ss_cell {i : Nat} (hr : PSsm g Lo W dr X ss h) : PSsm g Lo W dr X ss (seqS (cellF i) h) := ss_skip (fun D σ H ⟨L, ρ, env, S, s, k⟩ => by
  unfold seqS cellF at k
  cases q : env[i]? with
  | none => simp only [q] at k; exact k.elim
  | some sl =>
    cases sl with
    | own d v =>
      match d, q with
      | 0, q => simp only [q] at k; exact k.elim
      | 1, q =>
        simp only [q] at k
        cases hc : v.cont with
        | false => simp only [hc] at k; exact k.elim
        | true =>
          simp only [hc] at k
          obtain ⟨ρ', kp, s'⟩ := s.share q hc
          exact ⟨L, ρ', _, _, s', FinS.later kp k⟩
      | d + 2, q => simp only [q] at k; exact k.elim
    | _ => simp only [q] at k; exact k.elim) hr
end
end BP
end

section
set_option autoImplicit false
set_option linter.all false
set_option maxRecDepth 100000
/-! BPEx: raise C(), and try: e / except C as x: return isinstance(x, ValueError). -/
namespace BP
open PySem PySem.Spec PyProof.Rows L2
section
variable {g : Gx} {c : Ck} {P : Prg} {n dr : Nat} {X : Cx} {sc : Scope} {W : WX} {Lo : Out}
theorem s_raise (C : Csx g c P X sc n W) {x : Str} {i : Nat} {p pos pos' : Pos} (hg : glb sc x = true) (hx : c.look x = some (.exc i)) : PSm g Lo W dr X (.Raise (some (.Call (.Name x p) [] [] pos)) none pos') (fun _ S => .exc i [] S) := by
  obtain ⟨file, ea, hf, htop, hms, hm, hdb⟩ := C.tt.exc x i hx
  refine PS.sub (ps_raise C.tt.cok.calm C.tt.cok.tk (pmk_sup ea.sup hf htop hms C.tt.cok.room (glb_ok C.tt hg) hm hdb)) fun D σ H ⟨L, ρ, env, S, s, k⟩ => ?_
  exact k L ρ env σ H none (.refl _ _ _) s (.inl ⟨rfl, rfl⟩)
theorem Ctt.tr (C : Ctt g c P X sc n W) {pn : List (Addr × Obj)} {xe : Value → Shared → Prop} {W' : WX} (tk : Takes (X.tr pn xe) W') (hp : PassesOwn (model X.prog X.w) X.A X.env xe) : Ctt g c P (X.tr pn xe) sc n W' where
  cok := ⟨C.cok.prog, C.cok.w, C.cok.K, C.cok.nm, C.cok.nd, C.cok.calm, C.cok.room, C.cok.vis, C.cok.fn, tk, hp⟩
  cls := C.cls
  fl := C.fl
  fd := C.fd
  fn := C.fn
  mkc := C.mkc
  con := C.con
  blt := C.blt
  exc := C.exc
theorem s_tryB (C : Csx g c P X sc n W) {x y : Str} {i j : Nat} {a : Expr} {f : EF} {p1 np q1 q2 q3 q4 rp hp pos : Pos} (hg : glb sc x = true) (hx : c.look x = some (.exc i)) (hj : c.N[j]? = some y) (hl : sc.names.lookup y = some .local) (hb : glb sc "isinstance" = true) (hbm : c.look "isinstance" = some .blt) (hv : glb sc "ValueError" = true) (hvm : c.look "ValueError" = some .blt) (hdy : (y == ("__debug__" : Str)) = false) (hcy : (y == ("__classdict__" : Str)) = false)
    (ha : ∀ (W' : WX) (pn : List (Addr × Obj)) (xe : Value → Shared → Prop), Takes (X.tr pn xe) W' → PassesOwn (model X.prog X.w) X.A X.env xe → PEm g Lo W' (X.tr pn xe) (.weak 1) a f) (hs : swapsWith a none p1.line X.env = pure false) :
    PSm g Lo W dr X (.Try [.Expr a p1] [.ExceptHandler (some (.Name x np)) (some y) [.Return (some (.Call (.Name "isinstance" q1) [.Name y q2, .Name "ValueError" q3] [] q4)) rp] hp] [] [] pos) (tryF f i j true) := by
  obtain ⟨file, ea, hf, htop, hms, hm, hdb⟩ := C.tt.exc x i hx
  have hN : X.N[j]? = some y := by rw [C.tt.cok.nm]; exact hj
  have hk : X.env.kindOf y = some .local := by show X.env.scope.names.lookup y = _; rw [C.sc]; exact hl
  refine PS.sub (ps_try_as (tb := fun W' D σ H => tE g Lo W' (.weak 1) f σ H fun _ H' => D.nx σ H') (ts := fun a cls d D σ H => cls = .ref (g.ca i) ∧ d = none ∧ σ[j]? = some (some (.ref a)) ∧ D.rt (.bl true) H)
    C.stk C.frm (by rw [C.tt.cok.nm]; exact C.tt.cok.nd) hN hk ⟨glb_ok C.tt hg, hdb, .inl hm⟩ C.tt.cok.tk (fun W' pn xe tk pa => pss_one (ps_expr (ha W' pn xe tk pa) hs)) fun a oe cls d pn hz hfs => ?_) fun D σ H ⟨L, ρ, env, S, s, k0⟩ => ?_
  · refine ⟨fun pins s σ H D I h => ?_⟩
    obtain ⟨rfl, rfl, hσ, hq⟩ := h
    have pv : PE (X.suite a ((a, oe) :: pn)) (.Name y q2) (tVar j) := pe_var (X := X.suite a ((a, oe) :: pn)) hN (.inl hk) hdy hcy
    have pt : PE (X.suite a ((a, oe) :: pn)) (.Name "ValueError" q3) (tC (.ty "ValueError")) := pe_bltn (X := X.suite a ((a, oe) :: pn)) (u := .type "ValueError") (glb_ok C.tt hv) (C.tt.blt _ hvm) (by decide +kernel) rfl
    have pc := pe_callB (X := X.suite a ((a, oe) :: pn)) (call_isE ea.exc hz hfs) (glb_ok C.tt hb) (C.tt.blt _ hbm) (by decide +kernel) (pa_cons pv (pa_cons pt pa_nil)) (pos := q4) (p := q1)
    refine (pss_one (ps_ret pc)).run pins s σ H D I ?_
    refine ⟨.ref a, hσ, ?_⟩
    exact ⟨.ty "ValueError", .type "ValueError", true, rfl, fun u hu => hu, ea.val, hq⟩
  · have k : FinS g Lo W dr D L ρ H (tryF f i j true env S) := k0
    clear k0
    unfold tryF at k
    refine ⟨L, ρ, env, S, s, ?_⟩
    cases e : f env S with
    | ok v S' =>
      rw [e] at k
      exact fun x1 H' ev s1 _ => k L ρ σ H' (ev.kp s) s1
    | stuck => rw [e] at k; exact k
    | exc c' fs S' =>
      rw [e] at k
      dsimp only at k
      intro d H' ev s1 xr
      by_cases hc : c' = i ∧ fs = [] ∧ j < env.length
      · rw [if_pos hc] at k
        obtain ⟨rfl, rfl, hj2⟩ := hc
        have hd : d = none := by
          rcases xr with ⟨_, h⟩ | ⟨a, xs, _, h2, h3⟩
          · exact h
          · exact absurd rfl h3.2
        refine ⟨true, ea.self, fun _ a hn => ⟨rfl, hd, ?_, ?_⟩, fun h => Bool.noConfusion h⟩
        · rw [List.getElem?_set]; simp [← s1.len, hj2]
        · refine k L ρ σ H' (.bl true) (ev.kp s) s1 (RT.rep s1 (.bl _) (.inr rfl))
      · rw [if_neg hc] at k; exact k.elim
end
end BP
end

section
set_option autoImplicit false
set_option linter.all false
set_option maxRecDepth 100000
/-! BP8: the checker of statements; what it passes keeps its promise. -/
namespace BP
open PySem PySem.Spec PyProof.Rows L2

def notComp : Expr → Bool
  | .ListComp _ _ _ _ | .SetComp _ _ _ _ | .DictComp _ _ _ _ _ => false
  | _ => true
theorem noComp {a : Expr} (h : notComp a = true) (t : Option Expr) (l : Nat) (env : PySem.Env) : swapsWith a t l env = pure false := by
  cases a <;> first | rfl | cases h
def unpOk : Expr → Expr → Bool
  | .Tuple _ _ _, .Tuple vs _ _ => vs.all (foldedForSure 8)
  | .Tuple _ _ _, .List _ _ => false
  | .Tuple _ _ _, _ => true
  | _, _ => false
theorem unp_ok {b a : Expr} (h : unpOk b a = true) (env : PySem.Env) : (∃ ts k p, b = .Tuple ts k p) ∧ swappedStores [b] a env = pure none := by
  cases b with
  | Tuple ts k p =>
    refine ⟨⟨ts, k, p, rfl⟩, ?_⟩
    cases a with
    | Tuple vs k2 p2 => exact sp_none h
    | List _ _ => cases h
    | _ => rfl
  | _ => cases h
/-- a test -/
def Ex.ckB (c : Ck) (sc : Scope) (e : Ex) (x : Expr) : Bool := e.ckT c sc x || (plainT x && e.ck c sc (.weak 2) x)
mutual
def St.ck (c : Ck) (sc : Scope) (dr : Nat) (s : St) (x : Stmt) : Bool := match s with
  | .asg i d e => (match x with
    | .Assign [.Name y py] a _ => nmOk c sc i y && e.ck c sc (slM d) a && (!swB sc y py a || e.isComp)
    | _ => false)
  | .par is ds es => (match is, ds, es, x with
    | [i, j], [d, d'], .cons u (.cons v .nil), .Assign [.Tuple [.Name x px, .Name y py] _ _] (.Tuple [e1, e2] _ _) _ => decide (c.N[i]? = some x) && decide (c.N[j]? = some y) && locB sc x && locB sc y && (py.line == px.line) && !decide (x = y) && parB [e1, e2] && u.ck c sc (slM d) e1 && v.ck c sc (slM d') e2 && plainE e1 && plainE e2 || nmOk c sc i x && nmOk c sc j y && !(locB sc x && locB sc y) && u.ck c sc (slM d) e1 && v.ck c sc (slM d') e2 && plainE e1 && plainE e2
    | [i, j, l], [d, d', d''], .cons u (.cons v (.cons w .nil)), .Assign [.Tuple [.Name x px, .Name y py, .Name z pz] _ _] (.Tuple [e1, e2, e3] _ _) _ =>
      decide (c.N[i]? = some x) && decide (c.N[j]? = some y) && decide (c.N[l]? = some z) && locB sc x && locB sc y && locB sc z && (py.line == px.line) && (pz.line == px.line) && !decide (x = y) && !decide (x = z) && !decide (y = z) && parB [e1, e2, e3] && u.ck c sc (slM d) e1 && v.ck c sc (slM d') e2 && w.ck c sc (slM d'') e3 && plainE e1 && plainE e2 && plainE e3 || nmOk c sc i x && nmOk c sc j y && nmOk c sc l z && !(locB sc x && locB sc y && locB sc z) && u.ck c sc (slM d) e1 && v.ck c sc (slM d') e2 && w.ck c sc (slM d'') e3 && plainE e1 && plainE e2 && plainE e3
    | _, _, _, _ => false)
  | .unp tg e => (match x with
    | .Assign [b] a _ => tg.ck c.N sc b && e.ck c sc (.weak 0) a && unpOk b a
    | _ => false)
  | .app i d e => (match x with
    | .Expr (.Call (.Attribute (.Name y _) f apos) [a] [] cpos) _ => decide (f = "append") && varOk c sc i y && plainE a && (apos.endLine == cpos.line) && (match d with
      | 1 => e.ck c sc (.weak 0) a
      | 2 => e.ck c sc (.fresh 1) a
      | _ => false)
    | _ => false)
  | .ext i e => (match x with
    | .Expr (.Call (.Attribute (.Name y _) f apos) [a] [] cpos) _ => decide (f = "extend") && varOk c sc i y && plainE a && (apos.endLine == cpos.line) && e.ck c sc (.weak 1) a
    | _ => false)
  | .upd _ _ => false
  | .setI i d k v => (match x with
    | .Assign [.Subscript (.Name y _) b _] a _ => varOk c sc i y && k.ck c sc (.weak 0) b && notSlice b && (match d with
      | 1 => v.ck c sc (.weak 0) a
      | 2 => v.ck c sc (.fresh 1) a
      | _ => false)
    | _ => false)
  | .setI2 i j k v => (match x with
    | .Assign [.Subscript (.Subscript (.Name y _) b _) b2 _] a _ => varOk c sc i y && j.ck c sc (.weak 0) b && k.ck c sc (.weak 0) b2 && v.ck c sc (.weak 0) a && notSlice b && notSlice b2
    | _ => false)
  | .augI i k _ v => (match x with
    | .AugAssign (.Subscript (.Name y _) b _) .Add a _ => varOk c sc i y && k.ck c sc (.weak 0) b && v.ck c sc (.weak 0) a && notSlice b
    | _ => false)
  | .aug i _ e => (match x with
    | .AugAssign (.Name y _) .Add a _ => nmOk c sc i y && e.ck c sc (.weak 0) a
    | _ => false)
  | .asgPop i j k => (match x with
    | .Assign [.Name y _] a _ => nmOk c sc i y && popA c sc j k a
    | _ => false)
  | .dropPop j k => (match x with
    | .Expr a _ => popA c sc j k a
    | _ => false)
  | .appPop i j k => (match x with
    | .Expr (.Call (.Attribute (.Name y _) f apos) [a] [] cpos) _ => decide (f = "append") && varOk c sc i y && popA c sc j k a && plainE a && (apos.endLine == cpos.line)
    | _ => false)
  | .setF ci fi e => (match x with
    | .Assign [.Attribute (.Name y _) f _] a _ => varOk c sc 0 y && decide ((c.fl.getD ci [])[fi]? = some f) && decide (fi < 1000) && e.ck c sc (.weak 0) a && notComp a
    | _ => false)
  | .ex e => (match x with
    | .Expr a _ => e.ck c sc (.weak 1) a && notComp a
    | _ => false)
  | .ret e => (match x with
    | .Return (some a) _ => e.ck c sc (.fresh dr) a
    | _ => false)
  | .retO i => (match x with
    | .Return (some (.Name y _)) _ => varOk c sc i y && decide (dr = 1)
    | _ => false)
  | .retN => (match x with
    | .Return none _ => true
    | _ => false)
  | .ite t a b => (match x with
    | .If y as bs _ => t.ckB c sc y && a.ck c sc dr as && b.ck c sc dr bs
    | _ => false)
  | .for_ tg it b => (match x with
    | .For t i body [] _ => it.ck c sc 0 t i && tg.ck c.N sc t && b.ck c sc dr body && notSet i
    | _ => false)
  | .whl t b => (match x with
    | .While y body [] _ => t.ckB c sc y && b.ck c sc dr body
    | _ => false)
  | .pass => (match x with
    | .Pass _ => true
    | _ => false)
  | .brk => (match x with
    | .Break _ => true
    | _ => false)
  | .cnt => (match x with
    | .Continue _ => true
    | _ => false)
  | .never => true
  | .raise i => (match x with
    | .Raise (some (.Call (.Name y _) [] [] _)) none _ => glb sc y && (match c.look y with
      | some (.exc k) => k == i
      | _ => false)
    | _ => false)
  | .tryB e i j b => (match x with
    | .Try [.Expr a p1] [.ExceptHandler (some (.Name y _)) (some z) [.Return (some (.Call (.Name f1 _) [.Name z2 _, .Name v _] [] _)) _] _] [] [] _ =>
      b && (decide (f1 = "isinstance") && (decide (v = "ValueError") && (decide (z2 = z) && (glb sc y && ((match c.look y with
      | some (.exc k) => k == i
      | _ => false) && (decide (c.N[j]? = some z) && (decide (sc.names.lookup z = some .local) && (glb sc "isinstance" && ((match c.look "isinstance" with
      | some .blt => true
      | _ => false) && (glb sc "ValueError" && ((match c.look "ValueError" with
      | some .blt => true
      | _ => false) && (!(z == ("__debug__" : Str)) && (!(z == ("__classdict__" : Str)) && (notComp a && e.ck c sc (.weak 1) a))))))))))))))
    | _ => false)
  | .frz _ => false
  | .cell _ => false
def Sts.ck (c : Ck) (sc : Scope) (dr : Nat) (s : Sts) (xs : List Stmt) : Bool := match s with
  | .nil => xs.isEmpty
  | .cons (.frz _) r => r.ck c sc dr xs
  | .cons (.cell _) r => r.ck c sc dr xs
  | .cons s r => (match xs with
    | x :: xs => s.ck c sc dr x && r.ck c sc dr xs
    | [] => false)
end
section
variable {g : Gx} {c : Ck} {P : Prg} {n dr : Nat} {X : Cx} {sc : Scope} {W : WX}
theorem tst_B (C : Ctt g c P X sc n W) (Lo : Out) (e : Ex) {x : Expr} (h : e.ckB c sc x = true) : PTm g Lo W X x (e.ev P true) :=
  (tst_of (fun h => e.sound Lo _ _ C h) (fun h => e.soundT Lo _ C h) h).1
mutual
theorem St.sound (s : St) (Lo : Out) (x : Stmt) (C : Csx g c P X sc n W) (h : s.ck c sc dr x = true) : PSm g Lo W dr X x (s.go P) := by
  cases s with
  | asg i d e =>
    unfold St.ck at h
    split at h
    · obtain ⟨h, h3⟩ := ands h
      obtain ⟨h1, h2⟩ := ands h
      exact s_asg C e h1 h2 h3
    · cases h
  | par is ds es =>
    unfold St.ck at h
    split at h
    · rw [Bool.or_eq_true] at h
      rcases h with h | h
      · obtain ⟨h, h11⟩ := ands h
        obtain ⟨h, h10⟩ := ands h
        obtain ⟨h, h9⟩ := ands h
        obtain ⟨h, h8⟩ := ands h
        obtain ⟨h, h7⟩ := ands h
        obtain ⟨h, h6⟩ := ands h
        obtain ⟨h, h5⟩ := ands h
        obtain ⟨h, h4⟩ := ands h
        obtain ⟨h, h3⟩ := ands h
        obtain ⟨h1, h2⟩ := ands h
        exact s_par2 C _ _ (of_decide_eq_true h1) (of_decide_eq_true h2) h3 h4 h5 (of_decide_eq_false (nots h6)) h7 h8 h9 h10 h11
      · obtain ⟨h, h7⟩ := ands h
        obtain ⟨h, h6⟩ := ands h
        obtain ⟨h, h5⟩ := ands h
        obtain ⟨h, h4⟩ := ands h
        obtain ⟨h, h3⟩ := ands h
        obtain ⟨h1, h2⟩ := ands h
        exact s_par2U C _ _ h1 h2 (nots h3) h4 h5 h6 h7
    · rw [Bool.or_eq_true] at h
      rcases h with h | h
      · obtain ⟨h, h18⟩ := ands h
        obtain ⟨h, h17⟩ := ands h
        obtain ⟨h, h16⟩ := ands h
        obtain ⟨h, h15⟩ := ands h
        obtain ⟨h, h14⟩ := ands h
        obtain ⟨h, h13⟩ := ands h
        obtain ⟨h, h12⟩ := ands h
        obtain ⟨h, h11⟩ := ands h
        obtain ⟨h, h10⟩ := ands h
        obtain ⟨h, h9⟩ := ands h
        obtain ⟨h, h8⟩ := ands h
        obtain ⟨h, h7⟩ := ands h
        obtain ⟨h, h6⟩ := ands h
        obtain ⟨h, h5⟩ := ands h
        obtain ⟨h, h4⟩ := ands h
        obtain ⟨h, h3⟩ := ands h
        obtain ⟨h1, h2⟩ := ands h
        exact s_par3 C _ _ _ (of_decide_eq_true h1) (of_decide_eq_true h2) (of_decide_eq_true h3) h4 h5 h6 h7 h8 (of_decide_eq_false (nots h9)) (of_decide_eq_false (nots h10)) (of_decide_eq_false (nots h11)) h12 h13 h14 h15 h16 h17 h18
      · obtain ⟨h, h10⟩ := ands h
        obtain ⟨h, h9⟩ := ands h
        obtain ⟨h, h8⟩ := ands h
        obtain ⟨h, h7⟩ := ands h
        obtain ⟨h, h6⟩ := ands h
        obtain ⟨h, h5⟩ := ands h
        obtain ⟨h, h4⟩ := ands h
        obtain ⟨h, h3⟩ := ands h
        obtain ⟨h1, h2⟩ := ands h
        exact s_par3U C _ _ _ h1 h2 h3 (nots h4) h5 h6 h7 h8 h9 h10
    · cases h
  | unp tg e =>
    unfold St.ck at h
    split at h
    · obtain ⟨h, h3⟩ := ands h
      obtain ⟨h1, h2⟩ := ands h
      obtain ⟨q1, q2⟩ := unp_ok h3 X.env
      exact s_unp C tg e h1 h2 q1 q2
    · cases h
  | app i d e =>
    unfold St.ck at h
    split at h
    · obtain ⟨h, h5⟩ := ands h
      obtain ⟨h, h4⟩ := ands h
      obtain ⟨h, h3⟩ := ands h
      obtain ⟨h1, h2⟩ := ands h
      have e1 := of_decide_eq_true h1
      subst e1
      split at h5
      · exact s_app1 C e h2 h5 h3 h4
      · exact s_app2 C e h2 h5 h3 h4
      · cases h5
    · cases h
  | ext i e =>
    unfold St.ck at h
    split at h
    · obtain ⟨h, h5⟩ := ands h
      obtain ⟨h, h4⟩ := ands h
      obtain ⟨h, h3⟩ := ands h
      obtain ⟨h1, h2⟩ := ands h
      have e1 := of_decide_eq_true h1
      subst e1
      exact s_ext C e h2 h5 h3 h4
    · cases h
  | upd i e => unfold St.ck at h; cases h
  | setI i d k v =>
    unfold St.ck at h
    split at h
    · obtain ⟨h, h4⟩ := ands h
      obtain ⟨h, h3⟩ := ands h
      obtain ⟨h1, h2⟩ := ands h
      split at h4
      · exact s_setI1 C k v h1 h2 h4 h3
      · exact s_setI2d C k v h1 h2 h4 h3
      · cases h4
    · cases h
  | setI2 i j k v =>
    unfold St.ck at h
    split at h
    · obtain ⟨h, h6⟩ := ands h
      obtain ⟨h, h5⟩ := ands h
      obtain ⟨h, h4⟩ := ands h
      obtain ⟨h, h3⟩ := ands h
      obtain ⟨h1, h2⟩ := ands h
      exact s_setI2 C j k v h1 h2 h3 h4 h5 h6
    · cases h
  | augI i k o v =>
    unfold St.ck at h
    split at h
    · obtain ⟨h, h4⟩ := ands h
      obtain ⟨h, h3⟩ := ands h
      obtain ⟨h1, h2⟩ := ands h
      exact s_augI (o := o) C k v h1 h2 h3 h4
    · cases h
  | aug i o e =>
    unfold St.ck at h
    split at h
    · obtain ⟨h1, h2⟩ := ands h
      exact s_aug (o := o) C e h1 h2
    · cases h
  | asgPop i j k =>
    unfold St.ck at h
    split at h
    · obtain ⟨h1, h2⟩ := ands h
      exact s_asgPop C k h1 h2
    · cases h
  | dropPop j k =>
    unfold St.ck at h
    split at h
    · exact s_dropPop C k h
    · cases h
  | appPop i j k =>
    unfold St.ck at h
    split at h
    · obtain ⟨h, h5⟩ := ands h
      obtain ⟨h, h4⟩ := ands h
      obtain ⟨h, h3⟩ := ands h
      obtain ⟨h1, h2⟩ := ands h
      have e1 := of_decide_eq_true h1
      subst e1
      exact s_appPop C k h2 h3 h4 h5
    · cases h
  | setF ci fi e =>
    unfold St.ck at h
    split at h
    · obtain ⟨h, h5⟩ := ands h
      obtain ⟨h, h4⟩ := ands h
      obtain ⟨h, h3⟩ := ands h
      obtain ⟨h1, h2⟩ := ands h
      exact s_setF C e h1 (of_decide_eq_true h2) (of_decide_eq_true h3) h4 fun t l => noComp h5 t l _
    · cases h
  | ex e =>
    unfold St.ck at h
    split at h
    · obtain ⟨h1, h2⟩ := ands h
      exact s_ex (e.sound Lo _ _ C.tt h1) (noComp h2 _ _ _)
    · cases h
  | ret e =>
    unfold St.ck at h
    split at h
    · exact s_ret (e.sound Lo _ _ C.tt h)
    · cases h
  | retO i =>
    unfold St.ck at h
    split at h
    · obtain ⟨h1, h2⟩ := ands h
      exact s_retO C h1 (of_decide_eq_true h2)
    · cases h
  | retN =>
    unfold St.ck at h
    split at h
    · exact s_retN
    · cases h
  | ite t a b =>
    unfold St.ck at h
    split at h
    · obtain ⟨h, h3⟩ := ands h
      obtain ⟨h1, h2⟩ := ands h
      exact s_ite (tst_B C.tt Lo t h1) (a.sound Lo _ C h2) (b.sound Lo _ C h3)
    · cases h
  | for_ tg it b =>
    unfold St.ck at h
    split at h
    · obtain ⟨h, h4⟩ := ands h
      obtain ⟨h, h3⟩ := ands h
      obtain ⟨h1, h2⟩ := ands h
      exact s_for C.tt.cok.pass C.tt.cok.calm (it.sound Lo _ _ _ C.tt h1) (s_tg C.tt.cok tg _ h2) (b.sound Lo _ C h3) (fold_ok h4 _)
    · cases h
  | whl t b =>
    unfold St.ck at h
    split at h
    · obtain ⟨h1, h2⟩ := ands h
      exact s_whl C.tt.cok.pass (tst_B C.tt Lo t h1) (b.sound Lo _ C h2)
    · cases h
  | pass =>
    unfold St.ck at h
    split at h
    · exact s_pass
    · cases h
  | brk =>
    unfold St.ck at h
    split at h
    · exact s_brk
    · cases h
  | cnt =>
    unfold St.ck at h
    split at h
    · exact s_cnt
    · cases h
  | never => exact s_never
  | raise i =>
    unfold St.ck at h
    split at h
    · obtain ⟨h1, h2⟩ := ands h
      split at h2
      · rename_i k hk
        have e := beq_iff_eq.mp h2
        subst e
        exact s_raise C h1 hk
      · cases h2
    · cases h
  | tryB e i j b =>
    unfold St.ck at h
    split at h
    · obtain ⟨hb, h⟩ := ands h
      obtain ⟨h1, h⟩ := ands h
      obtain ⟨h2, h⟩ := ands h
      obtain ⟨h3, h⟩ := ands h
      obtain ⟨h4, h⟩ := ands h
      obtain ⟨h5, h⟩ := ands h
      obtain ⟨h6, h⟩ := ands h
      obtain ⟨h7, h⟩ := ands h
      obtain ⟨h8, h⟩ := ands h
      obtain ⟨h9, h⟩ := ands h
      obtain ⟨h10, h⟩ := ands h
      obtain ⟨h11, h⟩ := ands h
      obtain ⟨h12, h⟩ := ands h
      obtain ⟨h13, h⟩ := ands h
      obtain ⟨h14, h15⟩ := ands h
      have e1 := of_decide_eq_true h1
      have e2 := of_decide_eq_true h2
      have e3 := of_decide_eq_true h3
      subst e1 e2 e3 hb
      split at h5
      · rename_i k hk
        have e := beq_iff_eq.mp h5
        subst e
        split at h9
        · rename_i hk2
          split at h11
          · rename_i hk3
            exact s_tryB C h4 hk (of_decide_eq_true h6) (of_decide_eq_true h7) h8 hk2 h10 hk3 (nots h12) (nots h13) (fun W' pn xe tk pa => e.sound Lo _ _ (C.tt.tr tk pa) h15) (noComp h14 _ _ _)
          · cases h11
        · cases h9
      · cases h5
    · cases h
  | frz i => unfold St.ck at h; cases h
  | cell i => unfold St.ck at h; cases h
theorem Sts.sound (s : Sts) (Lo : Out) (xs : List Stmt) (C : Csx g c P X sc n W) (h : s.ck c sc dr xs = true) : PSsm g Lo W dr X xs (s.go P) := by
  cases s with
  | nil =>
    unfold Sts.ck at h
    cases xs with
    | nil => exact ss_nil
    | cons _ _ => cases h
  | cons s r =>
    cases s with
    | frz i => unfold Sts.ck at h; exact ss_frz (r.sound Lo _ C h)
    | cell i => unfold Sts.ck at h; exact ss_cell (r.sound Lo _ C h)
    | _ =>
      unfold Sts.ck at h
      cases xs with
      | nil => cases h
      | cons x xs =>
        obtain ⟨h1, h2⟩ := ands h
        exact ss_cons (St.sound _ Lo _ C h1) (r.sound Lo _ C h2)
end
end
end BP
end

section
set_option autoImplicit false
set_option linter.all false
set_option maxRecDepth 100000
/-! BP9: defs and classes keep their promises. -/
namespace BP
open PySem PySem.Spec PyProof.Rows L2

section
variable {g : Gx} {Lo : Out} {L L' M : Addr → Prop} {ρ ρ' : List Addr} {env env' : Env} {S S' : List D} {σ σ' : L2.St} {H H0 H' : Hp}
theorem Rep.imm {x : V} {v : D} (r : Rep g L ρ H x v) (h : v.imm = true) : Rep g L' ρ' H' x v := by
  cases v with
  | non => cases r; exact .non
  | bl b => cases r; exact .bl b
  | int i => cases r; exact .int i
  | str s => cases r; exact .str s
  | _ => cases h
theorem OwnR.immO {d : Nat} {A : List Addr} {x : V} {v : D} (r : OwnR g L ρ H d A x v) (h : v.imm = true) : A = [] ∧ Rep g L' ρ' H' x v ∧ v.cont = false := by
  cases r with
  | imm r _ => exact ⟨rfl, r.imm h, by cases v <;> first | rfl | cases h⟩
  | lst _ _ _ _ => cases h
  | dK _ _ => cases h
  | dN _ _ _ => cases h
/-- the live things of the caller are among ours -/
theorem Sim.above (s : Sim g Lo L' ρ' env S σ H) (h : ∀ a, L a → Lo.lo a ∨ a ∈ Lo.ρ0) : ∀ a, L a → L' a := fun a ha => by
  obtain ⟨A, ow, _⟩ := s.own
  rcases h a ha with q | q
  · exact ow.out a q
  · obtain ⟨r, e, _⟩ := s.pre
    exact (ow.inLr a (by rw [e]; exact List.mem_append_left _ q)).1
theorem Sim.fewer (s : Sim g Lo L' ρ' env S' σ H) (h : S'.length ≤ Lo.ρ0.length) : ρ' = Lo.ρ0 := by
  obtain ⟨r, e, _⟩ := s.pre
  have := s.cells.length
  rw [e, List.length_append] at this
  have : r = [] := List.eq_nil_of_length_eq_zero (by omega)
  rw [e, this, List.append_nil]
theorem tupK_refl : TupK H H := fun _ _ h => h
/-- what is so behind a def -/
theorem Sim.back (st : Start g L ρ S H0) (s : Sim g Lo L' ρ env S' σ H) (e0 : Lo.ρ0 = ρ) (up : ∀ a, L a → L' a) : Start g L ρ S' H :=
  ⟨fun a ha => s.live a (up a ha), st.nd, st.inL, s.cells.imp fun _ _ r => r.keep (fun a o e n => ⟨e, fun h => n (up a h)⟩) tupK_refl (fun _ _ h => h) fun _ _ _ h => h⟩
theorem Start.nil (st : Start g L [] S H0) (live : ∀ a, L a → ∃ o, H a = some o ∧ IsMut o) : Start g L [] [] H := ⟨live, List.nodup_nil, (fun a ha => by cases ha), All2.nil⟩
/-- an exception, behind -/
theorem XRep.back {d : Option Addr} {fs : List D} (x : XRep g L' ρ H d fs) (up : ∀ a, L a → L' a) : XRep g L ρ H d fs := by
  rcases x with x | ⟨a, xs, h1, h2, h3⟩
  · exact .inl x
  · exact .inr ⟨a, xs, h1, h2, h3.1.imp fun _ _ r => r.keep (fun a o e n => ⟨e, fun h => n (up a h)⟩) tupK_refl fun _ _ h => h, h3.2⟩
theorem XRep.backI {d : Option Addr} {fs : List D} (x : XRep g L' ρ' H d fs) (h : fs.all D.imm = true) : XRep g L ρ H d fs := by
  rcases x with x | ⟨a, xs, h1, h2, h3⟩
  · exact .inl x
  · refine .inr ⟨a, xs, h1, h2, ?_⟩
    have key : ∀ {vs : List V} {ds : List D}, All2 (Rep g L' ρ' H) vs ds → ds.all D.imm = true → All2 (Rep g L ρ H) vs ds := by
      intro vs ds r
      induction r with
      | nil => intro _; exact .nil
      | cons r _ ih => intro h; rw [List.all_cons, Bool.and_eq_true] at h; exact .cons (r.imm h.1) (ih h.2)
    exact ⟨key h3.1 h, h3.2⟩
/-- what a run leaves -/
def RunOk (g : Gx) (L : Addr → Prop) (ρ : List Addr) (H0 : Hp) (d : Nat) (Q : VK) (E : XK) (r : Res BP.D) : Prop := match r with
  | .ok v S' => ∀ x H', Ev ρ H0 H' → Start g L ρ S' H' → RM g L ρ H0 H' S' (.fresh d) x v → Q x H'
  | .exc c fs S' => ∀ d H', Ev ρ H0 H' → Start g L ρ S' H' → XRep g L ρ H' d fs → E (.ref (g.ca c)) d H'
  | .stuck => False
/-- the end of a def -/
theorem ends_R {d : Nat} {D : Ends} {Q : VK} {E : XK} {r : Res (Fl × Env)} (st : Start g L ρ S H0) (e0 : Lo.ρ0 = ρ) (eH : Lo.H0 = H0) (lo : ∀ a, L a → Lo.lo a ∨ a ∈ Lo.ρ0) (hD : ∀ x H', D.rt x H' = Q x H') (hN : ∀ σ H', D.nx σ H' = Q .non H')
    (h : RunOk g L ρ H0 d Q E (endR S r)) {L1 : Addr → Prop} {ρ1 : List Addr} {H1 : Hp} : FinS g Lo (fun cls d _ H => E cls d H) d D L1 ρ1 H1 r := by
  have ev : ∀ {L' ρ' env' S' σ' H'}, Sim g Lo L' ρ' env' S' σ' H' → Ev ρ H0 H' := fun s a o h n => s.base a o (by rw [eH]; exact h) (by rw [e0]; exact n)
  have lenS := st.cells.length
  -- a result
  have res : ∀ {v : BP.D} {S' : List BP.D}, RunOk g L ρ H0 d Q E (BP.back S v S') → ∀ {L' ρ' env' σ' H' x}, Sim g Lo L' ρ' env' S' σ' H' → RT g Lo d L' ρ' S' H' x v → Q x H' := by
    intro v S' h L' ρ' env' σ' H' x s rt
    have up := s.above lo
    unfold BP.back at h
    by_cases hl : S'.length ≤ S.length
    · rw [if_pos hl] at h
      have e : ρ' = ρ := by rw [← e0]; exact s.fewer (by rw [e0, lenS]; exact hl)
      subst e
      obtain ⟨A, M, ro, nd, hA, hM, cl⟩ := rt
      have hM' : ∀ a, orL L A a → M a := fun a ha => ha.elim (fun h => hM a (up a h)) fun h => (hA a h).2
      refine h x H' (ev s) (Sim.back st s e0 up) ⟨A, ro.keep (fun a o e n => ⟨e, fun h => n (hM' a h)⟩) tupK_refl (fun _ _ h => h) fun _ _ _ h => h, nd, fun a ha => by rw [← eH]; exact (hA a ha).1, ?_⟩
      exact cl.imp fun _ _ r => r.keep (fun a o e n => ⟨e, fun h => n (hM' a h)⟩) tupK_refl (fun _ _ h => h) fun _ _ _ h => h
    · rw [if_neg hl] at h
      by_cases hi : (S.isEmpty && v.imm) = true
      · rw [if_pos hi] at h
        rw [Bool.and_eq_true] at hi
        have hS : S = [] := List.isEmpty_iff.mp hi.1
        have hρ : ρ = [] := List.eq_nil_of_length_eq_zero (by rw [lenS, hS]; rfl)
        obtain ⟨A, M, ro, nd, hA, hM, cl⟩ := rt
        obtain ⟨rfl, rx, hc⟩ := ro.immO (L' := L) (ρ' := ρ) (H' := H') hi.2
        subst hρ
        exact h x H' (ev s) (st.nil fun a ha => s.live a (up a ha)) ⟨[], .imm0 rx (.inr hc), by simp, (fun a ha => by cases ha), All2.nil⟩
      · rw [if_neg hi] at h
        exact h.elim
  cases r with
  | ok p S' =>
    obtain ⟨fl, env1⟩ := p
    cases fl with
    | rt v =>
      intro L' ρ' σ' H' x _ s rt
      rw [hD]
      exact res (v := v) h s rt
    | nx =>
      intro L' ρ' σ' H' _ s
      rw [hN]
      exact res (v := .non) h s (.rep s .non (.inr rfl))
    | bk => exact h.elim
    | ct => exact h.elim
  | exc c fs S' =>
    intro L' ρ' env' σ' H' dd _ s x
    have up := s.above lo
    have h : RunOk g L ρ H0 d Q E (backX S c fs S') := h
    unfold backX at h
    by_cases hl : S'.length ≤ S.length
    · rw [if_pos hl] at h
      have e : ρ' = ρ := by rw [← e0]; exact s.fewer (by rw [e0, lenS]; exact hl)
      subst e
      exact h dd H' (ev s) (Sim.back st s e0 up) (x.back up)
    · rw [if_neg hl] at h
      by_cases hi : (S.isEmpty && fs.all BP.D.imm) = true
      · rw [if_pos hi] at h
        rw [Bool.and_eq_true] at hi
        have hS : S = [] := List.isEmpty_iff.mp hi.1
        have hρ : ρ = [] := List.eq_nil_of_length_eq_zero (by rw [lenS, hS]; rfl)
        subst hρ
        exact h dd H' (ev s) (st.nil fun a ha => s.live a (up a ha)) (x.backI hi.2)
      · rw [if_neg hi] at h
        exact h.elim
  | stuck => exact h.elim
/-- where a def begins -/
abbrev outOf (L : Addr → Prop) (ρ : List Addr) (H : Hp) : Out := ⟨fun a => L a ∧ a ∉ ρ, H, ρ, 0⟩
theorem start_sim {vs : List V} {args : List BP.D} (st : Start g L ρ S H) (r : All2 (Rep g L ρ H) vs args) (k : Nat) : Sim g (outOf L ρ H) L ρ (args.map Slot.val ++ List.replicate k .no) S (vs.map some ++ List.replicate k none) H := by
  refine ⟨by simp [r.length], st.live, ⟨fun _ => [], ⟨fun _ => List.nodup_nil, fun _ _ _ h => (by cases h), st.nd, fun _ _ h => (by cases h), fun _ _ h => (by cases h), fun a ha => ⟨st.inL a ha, fun h => h.2 ha⟩, fun a h => h.1⟩, fun i => ?_⟩, st.cells, fun a o h _ => h, [], (List.append_nil _).symm, fun a ha => by cases ha⟩
  rw [List.getD_eq_getElem?_getD]
  by_cases hi : i < args.length
  · have hv : i < vs.length := by rw [r.length]; exact hi
    rw [List.getElem?_append_left (by simpa using hi), List.getElem?_append_left (by simpa using hv), List.getElem?_map, List.getElem?_map, List.getElem?_eq_getElem hi, List.getElem?_eq_getElem hv]
    obtain ⟨x, e, q⟩ := r.get (List.getElem?_eq_getElem hi)
    rw [List.getElem?_eq_getElem hv] at e
    cases e
    exact ⟨rfl, _, rfl, q⟩
  · have hv : ¬ i < vs.length := by rw [r.length]; exact hi
    rw [List.getElem?_append_right (by simpa using Nat.le_of_not_lt hi), List.getElem?_replicate]
    split <;> rfl
/-- where an __init__ begins -/
abbrev outI (L : Addr → Prop) (ρ : List Addr) (H : Hp) (x : Addr) : Out := ⟨fun a => L a ∧ a ∉ ρ, H, ρ, x⟩
theorem start_simI {vs : List V} {args : List BP.D} {x dx : Addr} {c : Nat} (st : Start g L ρ S H) (r : All2 (Rep g L ρ H) vs args) (hx : H x = none) (hd : H dx = none) (k : Nat) :
    Sim g (outI L ρ H x) (fun a => L a ∨ a = x) ρ (.new c [] :: args.map Slot.val ++ List.replicate k .no) S ((.ref x :: vs).map some ++ List.replicate k none) (upd (upd H dx (.own x)) x (.ins (g.ca c) dx [])) := by
  have ev : ∀ a o, H a = some o → upd (upd H dx (.own x)) x (.ins (g.ca c) dx []) a = some o := fun a o h => by
    rw [upd_ne (ne_of_none h hx), upd_ne (ne_of_none h hd)]; exact h
  have nx : ¬ L x := fun h => by
    obtain ⟨o, e, _⟩ := st.live x h
    rw [hx] at e; cases e
  have kp : Keep L (fun a => L a ∨ a = x) H (upd (upd H dx (.own x)) x (.ins (g.ca c) dx [])) := fun a o h n => ⟨ev a o h, fun q => q.elim n fun e => by rw [e, hx] at h; cases h⟩
  have tk : TupK H (upd (upd H dx (.own x)) x (.ins (g.ca c) dx [])) := fun a xs h => ev a _ h
  have xr : x ∉ ρ := fun h => nx (st.inL x h)
  refine ⟨by simp [r.length], fun a ha => ?_, ⟨fun i => if i = 0 then [x] else [], ⟨fun i => ?_, fun i j a h1 h2 => ?_, st.nd, fun i a h => ?_, fun i a h => ?_, fun a ha => ⟨.inl (st.inL a ha), fun h => h.2 ha⟩, fun a h => .inl h.1⟩, fun i => ?_⟩, st.cells.imp fun _ _ r => r.keep kp tk (fun _ _ h => h) fun a _ o h => ev a o h, fun a o h _ => ev a o h, [], (List.append_nil _).symm, fun a ha => by cases ha⟩
  · rcases ha with ha | ha
    · obtain ⟨o, e, m⟩ := st.live a ha
      exact ⟨o, ev a o e, m⟩
    · subst ha; exact ⟨_, upd_same, True.intro⟩
  · show (if i = 0 then [x] else []).Nodup
    split <;> simp
  · split at h1
    · split at h2
      · omega
      · cases h2
    · cases h1
  · split at h
    · have : a = x := by simpa using h
      subst this; exact xr
    · cases h
  · split at h
    · have : a = x := by simpa using h
      subst this; exact ⟨.inr rfl, fun q => nx q.1, hx⟩
    · cases h
  · rw [List.getD_eq_getElem?_getD]
    cases i with
    | zero => exact ⟨rfl, rfl, dx, [], upd_same, .nil, by simp⟩
    | succ i =>
      by_cases hi : i < args.length
      · have hv : i < vs.length := by rw [r.length]; exact hi
        rw [List.cons_append, List.getElem?_cons_succ, List.map_cons, List.cons_append, List.getElem?_cons_succ]
        rw [List.getElem?_append_left (by simpa using hi), List.getElem?_append_left (by simpa using hv), List.getElem?_map, List.getElem?_map, List.getElem?_eq_getElem hi, List.getElem?_eq_getElem hv]
        obtain ⟨z, e, q⟩ := r.get (List.getElem?_eq_getElem hi)
        rw [List.getElem?_eq_getElem hv] at e
        cases e
        exact ⟨rfl, _, rfl, q.keep kp tk fun _ _ h => h⟩
      · have hv : ¬ i < vs.length := by rw [r.length]; exact hi
        rw [List.cons_append, List.getElem?_cons_succ, List.map_cons, List.cons_append, List.getElem?_cons_succ]
        rw [List.getElem?_append_right (by simpa using Nat.le_of_not_lt hi), List.getElem?_replicate]
        split <;> rfl
/-- the end of an __init__ -/
theorem ends_M {x : Addr} {D : Ends} {Q : VK} {E : XK} {r : Res (Fl × Env)} (st : Start g L ρ S H0) (hx : H0 x = none) (hN : ∀ σ H', D.nx σ H' = Q .non H')
    (h : match endM S r with
      | .ok v S' => ∀ H', Ev ρ H0 H' → Start g L ρ S' H' → Rep g L ρ H' (.ref x) v → Q .non H'
      | .exc c fs S' => ∀ d H', Ev ρ H0 H' → Start g L ρ S' H' → XRep g L ρ H' d fs → E (.ref (g.ca c)) d H'
      | .stuck => False) {d : Nat} {L1 : Addr → Prop} {ρ1 : List Addr} {H1 : Hp} : FinS g (outI L ρ H0 x) (fun cls d _ H => E cls d H) d D L1 ρ1 H1 r := by
  have ev : ∀ {L' ρ' env' S' σ' H'}, Sim g (outI L ρ H0 x) L' ρ' env' S' σ' H' → Ev ρ H0 H' := fun s a o h n => s.base a o h n
  have lenS := st.cells.length
  have lo : ∀ a, L a → (outI L ρ H0 x).lo a ∨ a ∈ (outI L ρ H0 x).ρ0 := fun a ha => by
    by_cases hr : a ∈ ρ
    · exact .inr hr
    · exact .inl ⟨ha, hr⟩
  have nx : ¬ L x := fun h => by
    obtain ⟨o, e, _⟩ := st.live x h
    rw [hx] at e; cases e
  cases r with
  | ok p S' =>
    obtain ⟨fl, env1⟩ := p
    cases fl with
    | nx =>
      intro L' ρ' σ' H' _ s
      rw [hN]
      have up := s.above lo
      cases env1 with
      | nil => exact h.elim
      | cons sl env1 =>
        cases sl with
        | new c fs =>
          by_cases hl : S'.length ≤ S.length
          · have h : (match (if S'.length ≤ S.length then Res.ok (BP.D.ins c fs) S' else Res.stuck) with
              | .ok v S' => ∀ H', Ev ρ H0 H' → Start g L ρ S' H' → Rep g L ρ H' (.ref x) v → Q .non H'
              | .exc c fs S' => ∀ d H', Ev ρ H0 H' → Start g L ρ S' H' → XRep g L ρ H' d fs → E (.ref (g.ca c)) d H'
              | .stuck => False) := h
            rw [if_pos hl] at h
            have e : ρ' = ρ := s.fewer (by show S'.length ≤ ρ.length; rw [lenS]; exact hl)
            subst e
            refine h H' (ev s) (Sim.back st s rfl up) ?_
            obtain ⟨A, ow, sl⟩ := s.own
            obtain ⟨_, _, dx, fs', h1, h2, h3⟩ := sl 0
            exact .ins h1 nx (Reps.of (h2.imp fun _ _ r => r.keep (fun a o e n => ⟨e, fun h => n (up a h)⟩) tupK_refl fun _ _ h => h)) h3
          · have h : (match (if S'.length ≤ S.length then Res.ok (BP.D.ins c fs) S' else Res.stuck) with
              | .ok v S' => ∀ H', Ev ρ H0 H' → Start g L ρ S' H' → Rep g L ρ H' (.ref x) v → Q .non H'
              | .exc c fs S' => ∀ d H', Ev ρ H0 H' → Start g L ρ S' H' → XRep g L ρ H' d fs → E (.ref (g.ca c)) d H'
              | .stuck => False) := h
            rw [if_neg hl] at h
            exact h.elim
        | _ => exact h.elim
    | _ => exact h.elim
  | exc c fs S' =>
    intro L' ρ' env' σ' H' dd _ s x
    have up := s.above lo
    have h : (match backX S c fs S' with
      | .ok v S' => ∀ H', Ev ρ H0 H' → Start g L ρ S' H' → Rep g L ρ H' (.ref _) v → Q .non H'
      | .exc c fs S' => ∀ d H', Ev ρ H0 H' → Start g L ρ S' H' → XRep g L ρ H' d fs → E (.ref (g.ca c)) d H'
      | .stuck => False) := h
    unfold backX at h
    by_cases hl : S'.length ≤ S.length
    · rw [if_pos hl] at h
      have e : ρ' = ρ := s.fewer (by show S'.length ≤ ρ.length; rw [lenS]; exact hl)
      subst e
      exact h dd H' (ev s) (Sim.back st s rfl up) (x.back up)
    · rw [if_neg hl] at h
      by_cases hi : (S.isEmpty && fs.all BP.D.imm) = true
      · rw [if_pos hi] at h
        rw [Bool.and_eq_true] at hi
        have hS : S = [] := List.isEmpty_iff.mp hi.1
        have hρ : ρ = [] := List.eq_nil_of_length_eq_zero (by rw [lenS, hS]; rfl)
        subst hρ
        exact h dd H' (ev s) (st.nil fun a ha => s.live a (up a ha)) (x.backI hi.2)
      · rw [if_neg hi] at h
        exact h.elim
  | stuck => exact h.elim
end
end BP
end

section
set_option autoImplicit false
set_option linter.all false
set_option maxRecDepth 100000
/-! BPA1: all defs of a program keep their promises, at every depth. -/
namespace BP
open PySem PySem.Spec PyProof.Rows L2

/-- what is known of the written part -/
structure Top (g : Gx) (mg : Str → Option Value) (T : Tab) (gl : List (Str × GV)) (fl : List (List Str)) (fd : List Nat) : Prop where
  flE : ∀ i, g.flds i = fl.getD i []
  fdE : ∀ i, g.fd i = fd.getD i 0
  cls : ClsOk g
  con : ∀ x m, gl.lookup x = some (.con (.int m)) → ∃ t, mg x = some (.int m t)
  blt : ∀ x, gl.lookup x = some .blt → mg x = none
  exc : ∀ x i, gl.lookup x = some (.exc i) → ∃ file : Str, BPX.ExAt file g.K (g.ca i) ∧ ((g.P.main.file : Str) == file) = true ∧ (g.P.main.scope.names.lookup ("super" : Str)).isSome = false ∧ mg "super" = none ∧ mg x = some (.ref (g.ca i)) ∧ (x == ("__debug__" : Str)) = false
  fnm : ∀ x i, gl.lookup x = some (.fn i) → mg x = some (.ref (g.fa i)) ∧ ∃ F, T.fns[i]? = some F
  clm : ∀ x i, gl.lookup x = some (.cls i) → mg x = some (.ref (g.ca i)) ∧ ∃ C, T.cls[i]? = some C
  fns : ∀ i F, T.fns[i]? = some F → ∃ (x q : Str) (pa : Arguments) (bd : List Stmt) (sc : Scope) (fD : FuncData), FunD g.K x q pa bd sc [] [] (g.fa i) fD ∧ FnScope F.N (F.N.take F.np) sc ∧ F.np ≤ F.N.length ∧ F.body.ck ⟨F.N, gl, fl, fd⟩ sc (fd.getD i 0) bd = true ∧ Binds g.K fD (F.N.take F.np) []
  ins : ∀ i C, T.cls[i]? = some C → ∃ (x q : Str) (pa : Arguments) (bd : List Stmt) (sc : Scope) (f : Addr) (fD : FuncData), Mk g.K (g.ca i) f ∧ FunD g.K x q pa bd sc [] [] f fD ∧ FnScope C.init.N (C.init.N.take C.init.np) sc ∧ C.init.np ≤ C.init.N.length ∧ C.init.body.ck ⟨C.init.N, gl, fl, fd⟩ sc 0 bd = true ∧ Binds g.K fD (C.init.N.take C.init.np) []
section
variable {g : Gx} {mg : Str → Option Value} {T : Tab} {gl : List (Str × GV)} {fl : List (List Str)} {fd : List Nat} {base : Heap}
/-- at a depth -/
def FnsAt (g : Gx) (mg : Str → Option Value) (T : Tab) (base : Heap) (j : Nat) : Prop := ∀ i F, T.fns[i]? = some F → ∃ (fD : FuncData) (ps : List Str), FnOk g.P g.w g.K mg base (L2.CX g.P g.w) (j + 1) (g.fa i) fD ps (spF g ((T.at j).run i) ps.length (g.fd i)) ∧
  PySem.W.keepIn g.K (.ref (g.fa i)) = true ∧ Binds g.K fD ps [] ∧ ∀ vs S, (T.at j).run i vs S ≠ .stuck → vs.length = ps.length
def InsAt (g : Gx) (mg : Str → Option Value) (T : Tab) (base : Heap) (j : Nat) : Prop := ∀ i C, T.cls[i]? = some C → ∃ (f : Addr) (fD : FuncData) (ps : List Str), Mk g.K (g.ca i) f ∧ FnOk g.P g.w g.K mg base (L2.CX g.P g.w) j f fD ps (spI g i ((T.at j).make i) ps.length) ∧
  Binds g.K fD ps [] ∧ (∀ vs S, (T.at j).make i vs S ≠ .stuck → vs.length + 1 = ps.length) ∧ ∀ vs S v S', (T.at j).make i vs S = .ok v S' → v.cont = false
theorem ctt_of (t : Top g mg T gl fl fd) {j : Nat} (hF : FnsAt g mg T base j) (hI : InsAt g mg T base j) {N : List Str} (nd : N.Nodup) {qual : Str} {scope : Scope} (hk : scope.kind = .function) {f : Addr} {cdv : Value} {A : Around} {outer : List PySem.Env} {s : Shared} {H : Hp} {E : XK} (hr : Room (j + 1) (A.deeper (envOfC qual scope s.heap.objs.size f cdv))) :
    Csx g ⟨N, gl, fl, fd⟩ (T.at j) (cxOf (L2.CX g.P g.w) g.P g.w g.K mg base N qual scope f cdv A outer s H E) scope j (fun cls d _ H => E cls d H) where
  tt := {
    cok := ⟨rfl, rfl, rfl, rfl, nd, rfl, hr, fun x k h => .inl h, fun _ _ => rfl, takes_of rfl rfl rfl rfl, passes_of rfl⟩
    cls := t.cls
    fl := t.flE
    fd := t.fdE
    fn := fun x i h => by
      obtain ⟨h1, F, h2⟩ := t.fnm x i h
      obtain ⟨fD, ps, q1, q2, q3, q4⟩ := hF i F h2
      exact ⟨fD, ps, q1, h1, q2, q3, q4⟩
    mkc := fun x i h => by
      obtain ⟨h1, C, h2⟩ := t.clm x i h
      obtain ⟨f, fD, ps, q1, q2, q3, q4, q5⟩ := hI i C h2
      exact ⟨f, fD, ps, q1, q2, h1, q3, q4, q5⟩
    con := t.con
    blt := t.blt
    exc := t.exc }
  sc := rfl
  kd := hk
  stk := rfl
  frm := rfl
theorem take_len {N : List Str} {k : Nat} (h : k ≤ N.length) : (N.take k).length = k := by rw [List.length_take]; omega
theorem run_at {i : Nat} {F : Fn} (hi : T.fns[i]? = some F) {j : Nat} : ∀ vs S, (T.at (j + 1)).run i vs S = F.runs (T.at j) vs S := fun vs S => by
  cases j with
  | zero => show (match T.fns[i]? with | some F => F.runs (T.at 0) vs S | none => .stuck) = _; rw [hi]
  | succ j => show (match T.fns[i]? with | some F => F.runs (T.at (j + 1)) vs S | none => .stuck) = _; rw [hi]
theorem fn_step (t : Top g mg T gl fl fd) {j : Nat} (hF : FnsAt g mg T base j) (hI : InsAt g mg T base j) {i : Nat} {F : Fn} (hi : T.fns[i]? = some F) {x q : Str} {pa : Arguments} {bd : List Stmt} {sc : Scope} {fD : FuncData} (FD : FunD g.K x q pa bd sc [] [] (g.fa i) fD) (Sc : FnScope F.N (F.N.take F.np) sc) (hnp : F.np ≤ F.N.length)
    (hck : F.body.ck ⟨F.N, gl, fl, fd⟩ sc (fd.getD i 0) bd = true) : FnOk g.P g.w g.K mg base (L2.CX g.P g.w) (j + 2) (g.fa i) fD (F.N.take F.np) (spF g ((T.at (j + 1)).run i) (F.N.take F.np).length (g.fd i)) := by
  refine FD.ok Sc (fun vs H Q E h => ?_) fun cdv A outer s H vs Q E hr h => ?_
  · obtain ⟨L, ρ, S, args, _, _, h, _⟩ := h
    exact h
  · obtain ⟨L, ρ, S, args, st, rs, hlen, h⟩ := h
    refine ⟨tS g (outOf L ρ H) (fun cls d _ H => E cls d H) (g.fd i) (F.body.go (T.at j)), ?_, ?_⟩
    · exact F.body.sound _ bd (ctt_of t hF hI Sc.nd Sc.kind hr) (by rw [t.fdE]; exact hck)
    · rw [run_at hi] at h
      unfold Fn.runs at h
      have e : args.length = F.np := by rw [← rs.length, hlen, take_len hnp]
      rw [if_pos e] at h
      have hs : L2.start F.N vs = vs.map some ++ List.replicate (F.N.length - F.np) none := by
        unfold L2.start
        rw [rs.length, e]
      rw [hs]
      refine ⟨L, ρ, _, S, start_sim st rs (F.N.length - F.np), ?_⟩
      refine ends_R (Q := Q) (E := E) st rfl rfl (fun a ha => ?_) (fun _ _ => rfl) (fun _ _ => rfl) h
      by_cases hr : a ∈ ρ
      · exact .inr hr
      · exact .inl ⟨ha, hr⟩
theorem fns_step (t : Top g mg T gl fl fd) {j : Nat} (hF : FnsAt g mg T base j) (hI : InsAt g mg T base j) : FnsAt g mg T base (j + 1) := by
  intro i F hi
  obtain ⟨x, q, pa, bd, sc, fD, FD, Sc, hnp, hck, hb⟩ := t.fns i F hi
  refine ⟨fD, F.N.take F.np, fn_step t hF hI hi FD Sc hnp hck, FD.kp, hb, fun vs S h => ?_⟩
  rw [run_at hi] at h
  unfold Fn.runs at h
  rw [take_len hnp]
  by_cases e : vs.length = F.np
  · exact e
  · rw [if_neg e] at h; exact absurd rfl h
theorem ins_step (t : Top g mg T gl fl fd) {j : Nat} (hF : FnsAt g mg T base j) (hI : InsAt g mg T base j) : InsAt g mg T base (j + 2) := by
  intro i C hi
  obtain ⟨x, q, pa, bd, sc, f, fD, Mk', FD, Sc, hnp, hck, hb⟩ := t.ins i C hi
  have hrun : ∀ vs S, (T.at (j + 2)).make i vs S = C.init.makes i (T.at j) vs S := fun vs S => by
    show (match T.cls[i]? with | some C => C.init.makes i (T.at j) vs S | none => .stuck) = _; rw [hi]
  have hl : ∀ vs S, (T.at (j + 2)).make i vs S ≠ .stuck → vs.length + 1 = (C.init.N.take C.init.np).length := fun vs S h => by
    rw [hrun] at h
    unfold Fn.makes at h
    rw [take_len hnp]
    by_cases e : vs.length + 1 = C.init.np
    · exact e
    · rw [if_neg e] at h; exact absurd rfl h
  refine ⟨f, fD, C.init.N.take C.init.np, Mk', ?_, hb, hl, fun vs S v S' h => ?_⟩
  · refine FD.ok Sc (fun vs H Q E h => ?_) fun cdv A outer s H vs Q E hr h => ?_
    · obtain ⟨L, ρ, S, args, x, dx, xs, H0, _, _, _, _, _, _, _, h, _⟩ := h
      exact h
    · obtain ⟨L, ρ, S, args, x, dx, xs, H0, rfl, rfl, hx, hd, _, st, rs, hlen, h⟩ := h
      refine ⟨tS g (outI L ρ H0 x) (fun cls d _ H => E cls d H) 0 (C.init.body.go (T.at j)), ?_, ?_⟩
      · exact C.init.body.sound _ bd (ctt_of t hF hI Sc.nd Sc.kind hr) hck
      · rw [hrun] at h
        unfold Fn.makes at h
        have e : args.length + 1 = C.init.np := by
          rw [← rs.length]
          rw [take_len hnp, List.length_cons] at hlen
          exact hlen
        rw [if_pos e] at h
        have hs : L2.start C.init.N (V.ref x :: xs) = (V.ref x :: xs).map some ++ List.replicate (C.init.N.length - C.init.np) none := by
          unfold L2.start
          rw [List.length_cons, rs.length, e]
        rw [hs]
        exact ⟨_, ρ, _, S, start_simI st rs hx hd (C.init.N.length - C.init.np), ends_M (E := E) st hx (fun _ _ => rfl) h⟩
  · rw [hrun] at h
    unfold Fn.makes at h
    split at h
    · unfold endM at h
      split at h
      · split at h
        · split at h
          · cases h; rfl
          · cases h
        · cases h
      · unfold backX at h
        split at h
        · cases h
        · split at h <;> cases h
      · cases h
    · cases h
theorem fns_zero (t : Top g mg T gl fl fd) : FnsAt g mg T base 0 := by
  intro i F hi
  obtain ⟨x, q, pa, bd, sc, fD, FD, Sc, hnp, hck, hb⟩ := t.fns i F hi
  refine ⟨fD, F.N.take F.np, ?_, FD.kp, hb, fun vs S h => absurd rfl h⟩
  refine FD.ok Sc (fun vs H Q E h => ?_) fun cdv A outer s H vs Q E hr h => ?_
  · obtain ⟨L, ρ, S, args, _, _, h, _⟩ := h
    exact h
  · obtain ⟨L, ρ, S, args, _, _, _, h⟩ := h
    exact h.elim
theorem ins_zero (t : Top g mg T gl fl fd) {j : Nat} (hj : j < 2) : InsAt g mg T base j := by
  intro i C hi
  obtain ⟨x, q, pa, bd, sc, f, fD, Mk', FD, Sc, hnp, hck, hb⟩ := t.ins i C hi
  have hrun : ∀ vs S, (T.at j).make i vs S = .stuck := fun vs S => by
    match j, hj with
    | 0, _ => rfl
    | 1, _ => rfl
  refine ⟨f, fD, C.init.N.take C.init.np, Mk', ⟨fun vs H Q E h => ?_, fun A outer s H args us vs Q E hr he hb hv h => ?_⟩, hb, fun vs S h => absurd (hrun vs S) h, fun vs S v S' h => by rw [hrun] at h; cases h⟩
  · obtain ⟨L, ρ, S, args, x, dx, xs, H0, _, _, _, _, _, _, _, h, _⟩ := h
    exact h
  · obtain ⟨L, ρ, S, args, x, dx, xs, H0, _, _, _, _, _, _, _, _, h⟩ := h
    rw [hrun] at h
    exact h.elim
theorem all_at (t : Top g mg T gl fl fd) : ∀ j, (FnsAt g mg T base j ∧ InsAt g mg T base j) ∧ (FnsAt g mg T base (j + 1) ∧ InsAt g mg T base (j + 1))
  | 0 => ⟨⟨fns_zero t, ins_zero t (by decide)⟩, fns_step t (fns_zero t) (ins_zero t (by decide)), ins_zero t (by decide)⟩
  | j + 1 => ⟨(all_at t j).2, fns_step t (all_at t j).2.1 (all_at t j).2.2, ins_step t (all_at t j).1.1 (all_at t j).1.2⟩
/-- the law's promise -/
theorem law_sp {i j n : Nat} (hrun : ∀ ns : List Int, ns.length ≤ n → ∃ S', (T.at j).run i [.scr ns] [] = .ok (.bl true) S') {H : Hp} {a : Addr} {ns : List Int} (hn : ns.length ≤ n) (hO : Only H) (hS : SqL g.K H a (ns.map V.int)) :
    spF g ((T.at j).run i) 1 (g.fd i) [.ref a] H (fun v _ => v = .bl true) fun _ _ _ => False := by
  obtain ⟨S', h⟩ := hrun ns hn
  refine ⟨fun _ => False, [], [], [.scr ns], ⟨fun a h => h.elim, List.nodup_nil, (fun a ha => by cases ha), All2.nil⟩, .cons (.scr ?_) .nil, rfl, ?_⟩
  · rcases hS with hS | hS
    · rcases hS with hS | ⟨o, hS⟩
      · rcases hO a with q | ⟨o, xs, q⟩
        · rw [q] at hS; cases hS
        · rw [q] at hS; cases hS
      · exact .inl ⟨o, hS, fun h => h⟩
    · exact .inr fun H' => .inr hS
  · rw [h]
    intro x H' _ _ r
    obtain ⟨A, ro, _⟩ := r
    obtain ⟨_, rx, _⟩ := ro.immO (L' := fun _ => False) (ρ' := []) (H' := H') rfl
    cases rx
    rfl
end
/-- the law's call, from the run of its text -/
theorem walk_ofX {l : PySem.W.OpenLaw} {n : Nat} {q : Program} {loose : List Str} {XP : (Str → Option Value) → Heap → Prop} {YP : World → Heap → Prop} {d : DefRec} {x : Str}
    (T : Tab) (gl : List (Str × GV)) (fl : List (List Str)) (fd : List Nat) (i j : Nat) (Fn : Fn) (hi : T.fns[i]? = some Fn) (hx : Fn.N.take Fn.np = [x]) (hn : l.most = some n) (hn2 : n ≤ sizeLine) (hdf : d.params.defaults = []) (hr : Room (j + 2) callerA)
    (hrun : ∀ ns : List Int, ns.length ≤ n → ∃ S', (T.at (j + 1)).run i [.scr ns] [] = .ok (.bl true) S')
    (F : ∀ (w : World) (mg : Str → Option Value) (fa : Addr) (h : Heap), YP w h → h.Ns mainGlobals mg → mg d.name = some (.ref fa) →
      ∃ (g : Gx), g.P = l.prog ∧ g.w = w ∧ g.fa i = fa ∧ g.K.In h ∧ Top g mg T gl fl fd ∧
        ∀ (xx qq : Str) (pa : Arguments) (bd : List Stmt) (sc : Scope) (fD : FuncData), FunD g.K xx qq pa bd sc [] [] (g.fa i) fD → ∀ (s : Shared) (u : Value), BindsTo s fD ⟨[u], []⟩ [(x, u)]) :
    PySem.W.WalkO q loose XP YP l.row.toRowW d [] (fun f vs => PySem.call f vs) := by
  refine Att.attach_call hn hdf fun w s₀ s₁ mg mb fa o pm cd doc a vs ns G Y ho hd hcd hmg hobj hints hlen hg => ?_
  obtain ⟨g, hP, hw, hfa, KX, t, hb⟩ := F w mg fa _ Y G.T.g hmg
  subst hfa hw
  obtain ⟨x', q', pa, bd, sc, fD, FD, Sc, hnp, hck, hb'⟩ := t.fns i Fn hi
  have key : ∀ base : Heap, FnOk g.P g.w g.K mg base (L2.CX g.P g.w) (j + 2) (g.fa i) fD [x] (spF g ((T.at (j + 1)).run i) 1 (g.fd i)) := fun base => by
    have a := (all_at (base := base) t j).1
    have := fn_step t a.1 a.2 hi FD Sc hnp hck
    rw [hx] at this
    exact this
  rw [← hP]
  exact law_call KX G.T.g G.T.b G.T.builtins G.T.nolimit hg hobj hints (Nat.le_trans hlen hn2) hr (fun base _ _ => key base) (hb _ _ _ _ _ _ FD) (fun H hO hS => law_sp hrun hlen hO hS) fun H e s' c => by
    obtain ⟨_, _, _, _, _, _, _, _, _, _, _, _, z⟩ := c
    exact z
end BP
end

section
set_option autoImplicit false
set_option linter.all false
set_option maxRecDepth 100000
/-! BPA2: a program as data; what the head must tell of it. -/
namespace BP
open PySem PySem.Spec PyProof.Rows L2

structure Src where
  fns : List (Fn × He.DefD)
  cls : List (Cl × Str × He.DefD)
  gl : List (Str × GV)
  fd : List Nat
  exs : List Str
def Src.tab (s : Src) : Tab := ⟨s.fns.map (·.1), s.cls.map (·.1)⟩
def Src.fl (s : Src) : List (List Str) := s.cls.map (·.1.fields)
def faOf : Str × GV → List He.Fa
  | (x, .fn _) => [.glo x]
  | (x, .cls _) => [.glo x, .cls x, .mkr x]
  | (x, .con (.int m)) => [.int x m]
  | (_, .con _) => []
  | (x, .blt) => [.free x]
  | (x, .exc _) => [.glo x, .free "super"]
def Src.fa (s : Src) : List He.Fa := s.gl.flatMap faOf ++ s.cls.flatMap fun c => .cls c.2.1 :: .mkr c.2.1 :: c.1.fields.map fun f => .noat c.2.1 f
def Src.defs (s : Src) : List He.DefD := s.fns.map (·.2) ++ s.cls.map (·.2.2)
/-- a look at the names of a def's scope -/
def scB (N P : List Str) (sc : Scope) : Bool :=
  decide (sc.kind = .function) && !sc.isCoroutine && !sc.isGenerator && decide N.Nodup && decide (N.take P.length = P) && P.all (fun x => decide (sc.names.lookup x = some .local) || decide (sc.names.lookup x = some .cell)) && sc.names.all (fun y => !decide (y.2 = .free))
theorem sc_ok {N P : List Str} {sc : Scope} (h : scB N P sc = true) : FnScope N P sc := by
  unfold scB at h
  simp only [Bool.and_eq_true, Bool.not_eq_true', decide_eq_true_eq, List.all_eq_true, Bool.or_eq_true, decide_eq_false_iff_not] at h
  obtain ⟨⟨⟨⟨⟨⟨h1, h2⟩, h3⟩, h4⟩, h5⟩, h6⟩, h7⟩ := h
  exact ⟨h1, h2, h3, h4, h5, h6, h7⟩
/-- a def's text is its row's -/
def fnB (gl : List (Str × GV)) (fl : List (List Str)) (fd : List Nat) (dr : Nat) (F : Fn) (d : He.DefD) : Bool :=
  d.dfl.isEmpty && d.kwd.isEmpty && scB F.N (F.N.take F.np) d.scope && decide (F.np ≤ F.N.length) && F.body.ck ⟨F.N, gl, fl, fd⟩ d.scope dr d.body
def Src.nth (s : Src) (x : Str) (i : Nat) : Bool := match s.fns[i]? with
  | some p => decide (p.2.at_ = (x, none))
  | none => false
def Src.nthC (s : Src) (x : Str) (i : Nat) : Bool := match s.cls[i]? with
  | some p => decide (p.2.1 = x)
  | none => false
def Src.glB (s : Src) : Bool := s.gl.all fun p => match p.2 with
  | .fn i => s.nth p.1 i
  | .cls i => s.nthC p.1 i
  | .exc i => decide (s.cls.length ≤ i) && (decide (s.exs[i - s.cls.length]? = some p.1) && !(p.1 == ("__debug__" : Str)))
  | _ => true
def Src.clB (s : Src) : Bool := s.cls.all fun c => decide c.1.fields.Nodup && decide (c.2.2.at_ = (c.2.1, some ("__init__" : Str)))
def bodiesB (gl : List (Str × GV)) (fl : List (List Str)) (fd : List Nat) : Nat → List (Fn × He.DefD) → Bool
  | _, [] => true
  | i, p :: r => fnB gl fl fd (fd.getD i 0) p.1 p.2 && bodiesB gl fl fd (i + 1) r
def Src.inB (s : Src) : Bool := s.cls.all fun c => fnB s.gl s.fl s.fd 0 c.1.init c.2.2
/-- the exceptions are such -/
def Src.exB (s : Src) (file : Str) (K : PySem.W.Frag) : Bool := s.exs.all fun x => BPX.exB file K (He.ga K x)
/-- arguments are bound as they stand -/
def BindP (d : He.DefD) (ps : List Str) : Prop := ∀ (kV doc pm : Value) (an : Option Addr) (cdv ct : Value) (us : List Value), us.length = ps.length → bindArgs (PySem.W.fnOf d.name d.qual d.params d.body d.scope .none kV doc pm an cdv ct) ⟨us, []⟩ = pure (ps.zip us)
def BindAll : List (Fn × He.DefD) → Prop
  | [] => True
  | p :: r => BindP p.2 (p.1.N.take p.1.np) ∧ BindAll r
theorem BindAll.get : ∀ {l : List (Fn × He.DefD)}, BindAll l → ∀ {i : Nat} {p : Fn × He.DefD}, l[i]? = some p → BindP p.2 (p.1.N.take p.1.np)
  | [], _, _, _, h => by simp at h
  | p :: r, h, 0, q, e => by simp at e; subst e; exact h.1
  | p :: r, h, i + 1, q, e => BindAll.get h.2 (by simpa using e)
def Src.gx (s : Src) (P : Program) (w : World) (K : PySem.W.Frag) : Gx where
  P := P
  w := w
  K := K
  ca := fun i => match s.cls[i]? with
    | some c => He.ga K c.2.1
    | none => match s.exs[i - s.cls.length]? with
      | some x => He.ga K x
      | none => 0
  fa := fun i => match s.fns[i]? with
    | some p => He.fAd K p.2.at_
    | none => 0
  flds := fun i => s.fl.getD i []
  fd := fun i => s.fd.getD i 0
theorem lookup_mem' {α : Type} {x : Str} {v : α} : ∀ {l : List (Str × α)}, l.lookup x = some v → (x, v) ∈ l
  | [], h => by cases h
  | (y, u) :: r, h => by
    rw [List.lookup_cons] at h
    cases q : x == y with
    | true =>
      rw [q] at h
      have e : u = v := Option.some.inj h
      rw [beq_iff_eq.mp q, e]
      exact List.mem_cons_self
    | false =>
      rw [q] at h
      exact List.mem_cons_of_mem _ (lookup_mem' h)
theorem bodies_ok {gl : List (Str × GV)} {fl : List (List Str)} {fd : List Nat} : ∀ {l : List (Fn × He.DefD)} {i : Nat}, bodiesB gl fl fd i l = true → ∀ {j : Nat} {p : Fn × He.DefD}, l[j]? = some p → fnB gl fl fd (fd.getD (i + j) 0) p.1 p.2 = true
  | [], _, _, j, _, e => by simp at e
  | q :: r, i, h, j, p, e => by
    unfold bodiesB at h
    obtain ⟨h1, h2⟩ := ands h
    cases j with
    | zero => simp at e; subst e; exact h1
    | succ j =>
      have := bodies_ok h2 (j := j) (p := p) (by simpa using e)
      rw [show i + 1 + j = i + (j + 1) by omega] at this
      exact this
theorem fnB_ok {gl : List (Str × GV)} {fl : List (List Str)} {fd : List Nat} {dr : Nat} {F : Fn} {d : He.DefD} (h : fnB gl fl fd dr F d = true) : d.dfl = [] ∧ d.kwd = [] ∧ FnScope F.N (F.N.take F.np) d.scope ∧ F.np ≤ F.N.length ∧ F.body.ck ⟨F.N, gl, fl, fd⟩ d.scope dr d.body = true := by
  unfold fnB at h
  obtain ⟨h, h5⟩ := ands h
  obtain ⟨h, h4⟩ := ands h
  obtain ⟨h, h3⟩ := ands h
  obtain ⟨h1, h2⟩ := ands h
  exact ⟨List.isEmpty_iff.mp h1, List.isEmpty_iff.mp h2, sc_ok h3, of_decide_eq_true h4, h5⟩
theorem def_fun {fa : List He.Fa} {fn : List He.DefD} {K : PySem.W.Frag} (c : He.SaysD fa fn K) {d : He.DefD} (hd : d ∈ fn) (e1 : d.dfl = []) (e2 : d.kwd = []) : ∃ fD, FunD K d.name d.qual d.params d.body d.scope [] [] (He.fAd K d.at_) fD := by
  obtain ⟨i, hi, e⟩ := List.mem_iff_getElem.mp hd
  obtain ⟨fD, h⟩ := c.def_ i (d := d) (by rw [List.getElem?_eq_getElem hi, e])
  refine ⟨fD, ?_⟩
  have q1 : d.dvs K = [] := by unfold He.DefD.dvs; rw [e1]; rfl
  have q2 : d.kws K = [] := by unfold He.DefD.kws; rw [e2]; rfl
  rw [q1, q2] at h
  exact h
theorem fact_mem {fa : List He.Fa} {fn : List He.DefD} {K : PySem.W.Frag} (c : He.SaysD fa fn K) {f : He.Fa} (h : f ∈ fa) : f.ok K = true := by
  obtain ⟨i, hi, e⟩ := List.mem_iff_getElem.mp h
  exact c.fact i (f := f) (by rw [List.getElem?_eq_getElem hi, e])
/-- the program's promise -/
theorem Src.top (s : Src) {P : Program} {w : World} {K : PySem.W.Frag} {h : Heap} {mg : Str → Option Value} (X : K.In h) (G : h.Ns mainGlobals mg) (c : He.SaysD s.fa s.defs K)
    (h1 : s.glB = true) (h2 : s.clB = true) (h3 : bodiesB s.gl s.fl s.fd 0 s.fns = true) (h4 : s.inB = true) (b1 : BindAll s.fns) (b2 : BindAll (s.cls.map fun c => (c.1.init, c.2.2))) (hx : s.exB P.main.file K = true) (hsup : (P.main.scope.names.lookup ("super" : Str)).isSome = false) : Top (s.gx P w K) mg s.tab s.gl s.fl s.fd := by
  have clOk : ∀ {i : Nat} {C : Cl × Str × He.DefD}, s.cls[i]? = some C → C.1.fields.Nodup ∧ C.2.2.at_ = (C.2.1, some ("__init__" : Str)) := fun {i C} e => by
    obtain ⟨q1, q2⟩ := ands (List.all_eq_true.mp h2 _ (List.mem_of_getElem? e))
    exact ⟨of_decide_eq_true q1, of_decide_eq_true q2⟩
  have glo : ∀ {x : Str} {v : GV}, s.gl.lookup x = some v → ∀ f ∈ faOf (x, v), f.ok K = true := fun {x v} e f hf => fact_mem c (List.mem_append_left _ (List.mem_flatMap.mpr ⟨_, lookup_mem' e, hf⟩))
  have clf : ∀ {i : Nat} {C : Cl × Str × He.DefD}, s.cls[i]? = some C → ∀ f, f ∈ (He.Fa.cls C.2.1 :: He.Fa.mkr C.2.1 :: C.1.fields.map fun f => He.Fa.noat C.2.1 f) → f.ok K = true := fun {i C} e f hf => fact_mem c (List.mem_append_right _ (List.mem_flatMap.mpr ⟨_, List.mem_of_getElem? e, hf⟩))
  have flE : ∀ {i : Nat} {C : Cl × Str × He.DefD}, s.cls[i]? = some C → s.fl.getD i [] = C.1.fields := fun {i C} e => by
    unfold Src.fl
    rw [List.getD_eq_getElem?_getD, List.getElem?_map, e]; rfl
  refine ⟨fun _ => rfl, fun _ => rfl, ⟨fun i n f e => ?_, fun i => ?_⟩, fun x m e => ?_, fun x e => ?_, fun x i e => ?_, fun x i e => ?_, fun x i e => ?_, fun i F e => ?_, fun i C e => ?_⟩
  · have e : (s.fl.getD i [])[n]? = some f := e
    cases q : s.cls[i]? with
    | none =>
      unfold Src.fl at e
      rw [List.getD_eq_getElem?_getD, List.getElem?_map, q] at e
      simp at e
    | some C =>
      rw [flE q] at e
      have hca : (s.gx P w K).ca i = He.ga K C.2.1 := by show (match s.cls[i]? with | some c => He.ga K c.2.1 | none => (match s.exs[i - s.cls.length]? with | some x => He.ga K x | none => 0)) = _; rw [q]
      rw [hca]
      exact ⟨He.cls_ok (clf q _ List.mem_cons_self), He.noat_ok (clf q _ (List.mem_cons_of_mem _ (List.mem_cons_of_mem _ (List.mem_map.mpr ⟨f, List.mem_of_getElem? e, rfl⟩))))⟩
  · show (s.fl.getD i []).Nodup
    cases q : s.cls[i]? with
    | none =>
      unfold Src.fl
      rw [List.getD_eq_getElem?_getD, List.getElem?_map, q]
      exact List.nodup_nil
    | some C => rw [flE q]; exact (clOk q).1
  · exact He.int_ok X G (glo e _ List.mem_cons_self)
  · exact He.free_ok X G (glo e _ List.mem_cons_self)
  · have q := List.all_eq_true.mp h1 _ (lookup_mem' e)
    have q : (decide (s.cls.length ≤ i) && (decide (s.exs[i - s.cls.length]? = some x) && !(x == ("__debug__" : Str)))) = true := q
    obtain ⟨q1, q⟩ := ands q
    obtain ⟨q2, q3⟩ := ands q
    have q1 := of_decide_eq_true q1
    have q2 := of_decide_eq_true q2
    have hca : (s.gx P w K).ca i = He.ga K x := by
      show (match s.cls[i]? with | some c => He.ga K c.2.1 | none => (match s.exs[i - s.cls.length]? with | some x => He.ga K x | none => 0)) = _
      rw [List.getElem?_eq_none q1, q2]
    refine ⟨P.main.file, ?_, ?_, hsup, He.free_ok X G (glo e _ (List.mem_cons_of_mem _ List.mem_cons_self)), ?_, nots q3⟩
    · rw [hca]
      exact BPX.exB_ok (List.all_eq_true.mp hx x (List.mem_of_getElem? q2))
    · show ((P.main.file : Str) == P.main.file) = true
      exact beq_self_eq_true _
    · rw [hca]
      exact He.glo_ok X G (glo e _ List.mem_cons_self)
  · have q := List.all_eq_true.mp h1 _ (lookup_mem' e)
    have q : s.nth x i = true := q
    unfold Src.nth at q
    split at q
    · rename_i p hp
      have ea := of_decide_eq_true q
      refine ⟨?_, p.1, by show (s.fns.map (·.1))[i]? = _; rw [List.getElem?_map, hp]; rfl⟩
      have hfa : (s.gx P w K).fa i = He.ga K x := by
        show (match s.fns[i]? with | some p => He.fAd K p.2.at_ | none => 0) = _
        rw [hp]
        show He.fAd K p.2.at_ = _
        rw [ea]
        rfl
      rw [hfa]
      exact He.glo_ok X G (glo e _ List.mem_cons_self)
    · cases q
  · have q := List.all_eq_true.mp h1 _ (lookup_mem' e)
    have q : s.nthC x i = true := q
    unfold Src.nthC at q
    split at q
    · rename_i p hp
      have ea := of_decide_eq_true q
      refine ⟨?_, p.1, by show (s.cls.map (·.1))[i]? = _; rw [List.getElem?_map, hp]; rfl⟩
      have hca : (s.gx P w K).ca i = He.ga K x := by show (match s.cls[i]? with | some c => He.ga K c.2.1 | none => (match s.exs[i - s.cls.length]? with | some x => He.ga K x | none => 0)) = _; rw [hp, ← ea]
      rw [hca]
      exact He.glo_ok X G (glo e _ List.mem_cons_self)
    · cases q
  · have e : (s.fns.map (·.1))[i]? = some F := e
    rw [List.getElem?_map] at e
    cases hp : s.fns[i]? with
    | none => rw [hp] at e; cases e
    | some p =>
      rw [hp] at e
      cases e
      have hb := bodies_ok h3 hp
      rw [Nat.zero_add] at hb
      obtain ⟨q1, q2, q3, q4, q5⟩ := fnB_ok hb
      obtain ⟨fD, FD⟩ := def_fun c (d := p.2) (List.mem_append_left _ (List.mem_map.mpr ⟨p, List.mem_of_getElem? hp, rfl⟩)) q1 q2
      have hfa : (s.gx P w K).fa i = He.fAd K p.2.at_ := by show (match s.fns[i]? with | some p => He.fAd K p.2.at_ | none => 0) = _; rw [hp]
      rw [← hfa] at FD
      exact ⟨_, _, _, _, _, fD, FD, q3, q4, q5, FD.bindsN (b1.get hp)⟩
  · have e : (s.cls.map (·.1))[i]? = some C := e
    rw [List.getElem?_map] at e
    cases hp : s.cls[i]? with
    | none => rw [hp] at e; cases e
    | some p =>
      rw [hp] at e
      cases e
      have hb := List.all_eq_true.mp h4 _ (List.mem_of_getElem? hp)
      obtain ⟨q1, q2, q3, q4, q5⟩ := fnB_ok hb
      obtain ⟨fD, FD⟩ := def_fun c (d := p.2.2) (List.mem_append_right _ (List.mem_map.mpr ⟨p, List.mem_of_getElem? hp, rfl⟩)) q1 q2
      have hca : (s.gx P w K).ca i = He.ga K p.2.1 := by show (match s.cls[i]? with | some c => He.ga K c.2.1 | none => (match s.exs[i - s.cls.length]? with | some x => He.ga K x | none => 0)) = _; rw [hp]
      have mk := He.mkr_ok (clf hp _ (List.mem_cons_of_mem _ List.mem_cons_self))
      have ea : He.fAd K p.2.2.at_ = He.ma K (He.ga K p.2.1) "__init__" := by rw [(clOk hp).2]; rfl
      rw [ea] at FD
      exact ⟨_, _, _, _, _, _, fD, by rw [hca]; exact mk, FD, q3, q4, q5, FD.bindsN (b2.get (i := i) (p := (p.1.init, p.2.2)) (by rw [List.getElem?_map, hp]; rfl))⟩
/-- the law's one argument is bound -/
theorem bind_law (s : Src) {P : Program} {w : World} {K : PySem.W.Frag} (c : He.SaysD s.fa s.defs K) {i : Nat} {p : Fn × He.DefD} (hp : s.fns[i]? = some p) {x : Str} (hb : BindP p.2 [x]) (h3 : bodiesB s.gl s.fl s.fd 0 s.fns = true) {xx qq : Str} {pa : Arguments} {bd : List Stmt} {sc : Scope} {fD : FuncData} (FD : FunD K xx qq pa bd sc [] [] ((s.gx P w K).fa i) fD) (sh : Shared) (u : Value) : BindsTo sh fD ⟨[u], []⟩ [(x, u)] := by
  have hb' := bodies_ok h3 hp
  rw [Nat.zero_add] at hb'
  obtain ⟨q1, q2, _⟩ := fnB_ok hb'
  obtain ⟨fD', FD'⟩ := def_fun c (d := p.2) (List.mem_append_left _ (List.mem_map.mpr ⟨p, List.mem_of_getElem? hp, rfl⟩)) q1 q2
  have hfa : (s.gx P w K).fa i = He.fAd K p.2.at_ := by show (match s.fns[i]? with | some p => He.fAd K p.2.at_ | none => 0) = _; rw [hp]
  rw [hfa] at FD
  have e : fD = fD' := by
    obtain ⟨oc, od, dV, kV, doc, pm, an, cdv, ct, osl, e1, lk, _⟩ := FD.ex
    obtain ⟨oc', od', dV', kV', doc', pm', an', cdv', ct', osl', e1', lk', _⟩ := FD'.ex
    rw [lk] at lk'
    cases lk'
    rfl
  subst e
  exact FD'.bindsA (ps := [x]) hb sh [u] rfl
end BP
end

section
set_option autoImplicit false
set_option linter.all false
set_option maxRecDepth 100000
/-! BPA3: what the head tells, with the exceptions' facts. -/
namespace BP
open PySem PySem.Spec PyProof.Rows L2
def obsB (n : Nat) (fa : List He.Fa) (fn : List He.DefD) (ex : PySem.W.Frag → Bool) (g : Addr → Option Obj) : He.AlD × Bool := (He.obsD fa fn (He.frG g (He.asD g n ++ [cStatics])), ex (He.frG g (He.asD g n ++ [cStatics])))
def hookB (n : Nat) (fa : List He.Fa) (fn : List He.DefD) (ex : PySem.W.Frag → Bool) : PySem.W.Hook where
  α := He.AlD × Bool
  obs := fun s => obsB n fa fn ex s.heap.get?
  val := fun _ => (He.valD fn, true)
  says := fun _ h => ∃ K : PySem.W.Frag, K.In h ∧ He.SaysD fa fn K ∧ ex K = true
  of := fun _ _ e => ⟨_, He.frG_in, congrArg (fun z : He.AlD × Bool => z.1) e, congrArg (fun z : He.AlD × Bool => z.2) e⟩
  keeps := fun _ _ _ ⟨K, hK, c⟩ k => ⟨K, PySem.W.Frag.In.keeps hK k, c⟩
theorem obsB_eq {n : Nat} {fa : List He.Fa} {fn : List He.DefD} {ex : PySem.W.Frag → Bool} {g : Addr → Option Obj} {s : Shared} (h : ∀ a, g a = s.heap.get? a) : obsB n fa fn ex g = (hookB n fa fn ex).obs s := by
  have e : g = s.heap.get? := funext h
  rw [e] <;> rfl
end BP
end

section
set_option autoImplicit false
set_option linter.all false
set_option maxRecDepth 100000
/-! PL1: the small language, read by simp. -/
namespace BP
open PySem

/-- ends well, so -/
def Ok {α : Type} (r : Res α) (Q : α → List D → Prop) : Prop := match r with
  | .ok a S => Q a S
  | _ => False
section
variable {α β : Type}
@[simp] theorem Ok_ok (a : α) (S : List D) (Q : α → List D → Prop) : Ok (.ok a S) Q ↔ Q a S := Iff.rfl
@[simp] theorem Ok_stuck (Q : α → List D → Prop) : Ok (.stuck) Q ↔ False := Iff.rfl
@[simp] theorem Ok_bind (r : Res α) (f : α → List D → Res β) (Q : β → List D → Prop) : Ok (r.bind f) Q ↔ Ok r fun a S => Ok (f a S) Q := by cases r <;> rfl
theorem Ok.mono {r : Res α} {Q Q' : α → List D → Prop} (h : Ok r Q) (i : ∀ a S, Q a S → Q' a S) : Ok r Q' := by cases r <;> first | exact i _ _ h | exact h
theorem Ok.eq {r : Res α} {a : α} {S : List D} (h : Ok r fun b S' => b = a ∧ S' = S) : r = .ok a S := by
  cases r with
  | ok b S' => obtain ⟨rfl, rfl⟩ := h; rfl
  | _ => exact h.elim
theorem Ok.of {r : Res α} {a : α} {S : List D} {Q : α → List D → Prop} (e : r = .ok a S) (h : Q a S) : Ok r Q := by rw [e]; exact h
theorem Ok.get {r : Res α} {Q : α → List D → Prop} (h : Ok r Q) : ∃ a S, r = .ok a S ∧ Q a S := by
  cases r with
  | ok a S => exact ⟨a, S, rfl, h⟩
  | _ => exact h.elim
@[simp] theorem Ok_ite (b : Prop) [Decidable b] (r r' : Res α) (Q : α → List D → Prop) : Ok (if b then r else r') Q ↔ if b then Ok r Q else Ok r' Q := by split <;> rfl
end
/-- by a flag -/
def onB {α : Type} (k : D) (x y : Res α) : Res α := match k with
  | .bl true => x
  | .bl false => y
  | _ => .stuck
@[simp] theorem onB_bl {α : Type} (b : Bool) (x y : Res α) : onB (.bl b) x y = if b = true then x else y := by cases b <;> rfl
section
variable (env : Env) (S : List D)
@[simp] theorem andF_eq (fa fb : EF) : andF fa fb env S = (fa env S).bind fun k S => onB k (fb env S) (.ok (.bl false) S) := by
  show (fa env S).bind _ = _
  exact congrArg _ (funext fun k => funext fun S => by
    cases k with
    | bl b => cases b <;> rfl
    | _ => rfl)
@[simp] theorem orF_eq (fa fb : EF) : orF fa fb env S = (fa env S).bind fun k S => onB k (.ok (.bl true) S) (fb env S) := by
  show (fa env S).bind _ = _
  exact congrArg _ (funext fun k => funext fun S => by
    cases k with
    | bl b => cases b <;> rfl
    | _ => rfl)
@[simp] theorem ifF_eq (fc fa fb : EF) : ifF fc fa fb env S = (fc env S).bind fun k S => onB k (fa env S) (fb env S) := by
  show (fc env S).bind _ = _
  exact congrArg _ (funext fun k => funext fun S => by
    cases k with
    | bl b => cases b <;> rfl
    | _ => rfl)
@[simp] theorem iteF_eq (fc : EF) (a b : SF) : iteF fc a b env S = (fc env S).bind fun k S => onB k (a env S) (b env S) := by
  show (fc env S).bind _ = _
  exact congrArg _ (funext fun k => funext fun S => by
    cases k with
    | bl b => cases b <;> rfl
    | _ => rfl)
theorem turnF_at {α : Type} {tg : Tg} {own : List Nat} {ft : EF} {fe : Env → List D → Res α} {x : D} {env' : Env} (h : tg.store x (wipeE env own) = some env') : turnF tg own ft fe env x S = (ft env' S).bind fun k S => onB k ((fe env' S).bind fun y S => .ok (some y) S) (.ok none S) := by
  unfold turnF
  rw [h]
  show (ft env' S).bind _ = _
  exact congrArg _ (funext fun k => funext fun S => by
    cases k with
    | bl b => cases b <;> rfl
    | _ => rfl)
@[simp] theorem notF_bl (fa : EF) : notF fa env S = (fa env S).bind fun x S => match x with
    | .bl b => .ok (.bl (!b)) S
    | _ => .stuck := id rfl
end
/-! loops -/
section
variable {α β : Type}
/-- a comprehension's loop, what it makes -/
theorem plL_ok {xs : List α} {enc : α → D} {f : D → List D → Res (Option D)} {S : List D} {p : α → Bool} {g : α → D} : ∀ {acc : List D}, (∀ a ∈ xs, f (enc a) S = .ok (if p a then some (g a) else none) S) → loopL (xs.map enc) f acc S = .ok (acc ++ (xs.filter p).map g) S := by
  induction xs with
  | nil => intro acc _; simp [loopL]
  | cons a r ih =>
    intro acc h
    have h1 := h a List.mem_cons_self
    rw [List.map_cons]
    unfold loopL
    rw [h1]
    cases hp : p a with
    | true =>
      simp only [noX, Res.bind_ok, hp, if_true]
      rw [ih fun b hb => h b (List.mem_cons_of_mem _ hb), List.filter_cons, hp]
      simp
    | false =>
      simp only [noX, Res.bind_ok, Bool.false_eq_true, if_false]
      rw [ih fun b hb => h b (List.mem_cons_of_mem _ hb), List.filter_cons, hp]
      simp
/-- the state changes on the way -/
theorem loopL_wp {xs : List α} {enc : α → D} {f : D → List D → Res (Option D)} (I : List α → List D → List D → Prop) {Q : List D → List D → Prop}
    (hs : ∀ a r acc S, I (a :: r) acc S → Ok (f (enc a) S) fun o S' => match o with
      | some y => I r (acc ++ [y]) S'
      | none => I r acc S') (he : ∀ acc S, I [] acc S → Q acc S) : ∀ {acc S : List D}, I xs acc S → Ok (loopL (xs.map enc) f acc S) Q := by
  induction xs with
  | nil => intro acc S h; exact he _ _ h
  | cons a r ih =>
    intro acc S h
    obtain ⟨o, S', e, h1⟩ := (hs a r acc S h).get
    rw [List.map_cons]
    unfold loopL
    rw [e]
    cases o with
    | some y => exact ih h1
    | none => exact ih h1
theorem plL2_ok {xs : List α} {enc : α → D} {f : D → List D → List D → Res (List D)} {S : List D} {g : α → List D} : ∀ {acc : List D}, (∀ a ∈ xs, ∀ acc, f (enc a) acc S = .ok (acc ++ g a) S) → loopL2 (xs.map enc) f acc S = .ok (acc ++ (xs.map g).flatten) S := by
  induction xs with
  | nil => intro acc _; simp [loopL2]
  | cons a r ih =>
    intro acc h
    rw [List.map_cons]
    unfold loopL2
    rw [h a List.mem_cons_self]
    simp only [noX, Res.bind_ok]
    rw [ih fun b hb => h b (List.mem_cons_of_mem _ hb)]
    simp
/-- a dict comprehension's loop -/
theorem plD_ok {xs : List α} {enc : α → D} {f : D → List D → Res (Option (Ky × D))} {S : List D} {g : α → Ky × D} : ∀ {acc : List (Ky × D)}, (∀ a ∈ xs, f (enc a) S = .ok (some (g a)) S) → loopD (xs.map enc) f acc S = .ok (xs.foldl (fun acc a => dput acc (g a).1 (g a).2) acc) S := by
  induction xs with
  | nil => intro acc _; simp [loopD]
  | cons a r ih =>
    intro acc h
    rw [List.map_cons]
    unfold loopD
    rw [h a List.mem_cons_self]
    simp only [noX, Res.bind_ok]
    rw [ih fun b hb => h b (List.mem_cons_of_mem _ hb)]
    rfl
theorem plD2_ok {xs : List α} {enc : α → D} {f : D → List (Ky × D) → List D → Res (List (Ky × D))} {S : List D} {g : List (Ky × D) → α → List (Ky × D)} : ∀ {acc : List (Ky × D)}, (∀ a ∈ xs, ∀ acc, f (enc a) acc S = .ok (g acc a) S) → loopD2 (xs.map enc) f acc S = .ok (xs.foldl g acc) S := by
  induction xs with
  | nil => intro acc _; simp [loopD2]
  | cons a r ih =>
    intro acc h
    rw [List.map_cons]
    unfold loopD2
    rw [h a List.mem_cons_self]
    simp only [noX, Res.bind_ok]
    rw [ih fun b hb => h b (List.mem_cons_of_mem _ hb)]
    rfl
/-- a for loop -/
theorem forL_wp {xs : List α} {enc : α → D} {f : D → Env → List D → Res (Fl × Env)} (I : List α → Env → List D → Prop) {Q : Fl × Env → List D → Prop}
    (hs : ∀ a r env S, I (a :: r) env S → Ok (f (enc a) env S) fun p S' => match p.1 with
      | .nx => I r p.2 S'
      | .ct => I r p.2 S'
      | .bk => Q (.nx, p.2) S'
      | .rt v => Q (.rt v, p.2) S') (he : ∀ env S, I [] env S → Q (.nx, env) S) : ∀ {env : Env} {S : List D}, I xs env S → Ok (forL (xs.map enc) f env S) Q := by
  induction xs with
  | nil => intro env S h; exact he _ _ h
  | cons a r ih =>
    intro env S h
    obtain ⟨p, S', e, h1⟩ := (hs a r env S h).get
    rw [List.map_cons]
    unfold forL
    rw [e]
    obtain ⟨fl, env'⟩ := p
    cases fl with
    | nx => exact ih h1
    | ct => exact ih h1
    | bk => exact h1
    | rt v => exact h1
/-- a while loop -/
theorem whlL_wp {c : Env → List D → Res D} {f : Env → List D → Res (Fl × Env)} (m : Nat) (I : Nat → Env → List D → Prop) {Q : Fl × Env → List D → Prop}
    (hs : ∀ k env S, I k env S → Ok (c env S) fun b S' => (b = .bl false ∧ Q (.nx, env) S') ∨ (b = .bl true ∧ Ok (f env S') fun p S'' => match p.1 with
      | .nx => ∃ j, j < k ∧ I j p.2 S''
      | .ct => ∃ j, j < k ∧ I j p.2 S''
      | .bk => Q (.nx, p.2) S''
      | .rt v => Q (.rt v, p.2) S'')) : ∀ {n : Nat} {k : Nat} {env : Env} {S : List D}, k < n → I k env S → Ok (whlL n c f env S) Q := by
  intro n
  induction n with
  | zero => intro k env S h; omega
  | succ n ih =>
    intro k env S h hI
    obtain ⟨b, S', e, h1⟩ := (hs k env S hI).get
    unfold whlL
    rw [e]
    rcases h1 with ⟨rfl, h1⟩ | ⟨rfl, h1⟩
    · exact h1
    · obtain ⟨p, S'', e2, h2⟩ := h1.get
      show Ok ((f env S').bind _) Q
      rw [e2]
      obtain ⟨fl, env'⟩ := p
      cases fl with
      | nx => obtain ⟨j, hj, h2⟩ := h2; exact ih (k := j) (by omega) h2
      | ct => obtain ⟨j, hj, h2⟩ := h2; exact ih (k := j) (by omega) h2
      | bk => exact h2
      | rt v => exact h2
end
/-! numbers, lots -/
def I (n : Nat) : D := .int n
theorem I_eq (n : Nat) : I n = .int n := rfl
def lotD (l : List Nat) : D := .tup (l.map I)
theorem rgL_zero (n : Nat) : rgL 0 (n : Int) = (List.range n).map I := by
  unfold rgL I
  simp
theorem py_I (n : Nat) : (I n).py = some (.int n) := rfl
theorem pys_I (l : List Nat) : D.pys (l.map I) = some (l.map fun n => .int n) := by
  induction l with
  | nil => rfl
  | cons a l ih => rw [List.map_cons]; unfold D.pys; rw [ih, py_I]; rfl

/-- a field's value -/
def fldV (c f : Nat) (x : D) (S : List D) : Res D := match x with
  | .ins c' fs => if c' = c then Res.opt fs[f]? S else .stuck
  | _ => .stuck
/-! the forms, for simp -/
section
variable (P : Prg) (t : Bool) (env : Env) (S : List D)
@[simp] theorem ev_var (i : Nat) : (Ex.var i).ev P t = finF t (varF i) := id rfl
@[simp] theorem ev_peek (i d : Nat) : (Ex.peek i d).ev P t = finF t (peekF i d) := id rfl
@[simp] theorem ev_con (v : D) : (Ex.con v).ev P t = finF t (conF v) := id rfl
@[simp] theorem ev_glob (x : Str) (v : D) : (Ex.glob x v).ev P t = finF t (conF v) := id rfl
@[simp] theorem ev_bin (o : Bop) (a b : Ex) : (Ex.bin o a b).ev P t = finF t (binF o (a.ev P false) (b.ev P false)) := id rfl
@[simp] theorem ev_neg (a : Ex) : (Ex.neg a).ev P t = finF t (negF (a.ev P false)) := id rfl
@[simp] theorem ev_not (a : Ex) : (Ex.not a).ev P t = notF (a.ev P t) := id rfl
@[simp] theorem ev_and (a b : Ex) : (Ex.and a b).ev P t = andF (a.ev P t) (b.ev P t) := id rfl
@[simp] theorem ev_or (a b : Ex) : (Ex.or a b).ev P t = orF (a.ev P t) (b.ev P t) := id rfl
@[simp] theorem ev_cmp (o : Cop) (a b : Ex) : (Ex.cmp o a b).ev P t = cmpF o (a.ev P false) (b.ev P false) := id rfl
@[simp] theorem ev_chain (o o' : Cop) (a b c : Ex) : (Ex.chain o o' a b c).ev P t = chainF o o' (a.ev P false) (b.ev P false) (c.ev P false) := id rfl
@[simp] theorem ev_ife (c a b : Ex) : (Ex.ife c a b).ev P t = ifF (c.ev P true) (a.ev P false) (b.ev P false) := id rfl
@[simp] theorem ev_call (f : Nat) (as : Exs) : (Ex.call f as).ev P t = finF t (callF (P.run f) (as.evs P)) := id rfl
@[simp] theorem ev_make (f : Nat) (as : Exs) : (Ex.make f as).ev P t = finF t (callF (P.make f) (as.evs P)) := id rfl
@[simp] theorem ev_bi (b : Bi) (as : Exs) : (Ex.bi b as).ev P t = finF t (biF b (as.evs P)) := id rfl
@[simp] theorem ev_isi (a : Ex) (ts : List Ty) (o : Bool) : (Ex.isi a ts o).ev P t = finF t (isiF ts (a.ev P false)) := id rfl
@[simp] theorem ev_idx (a b : Ex) : (Ex.idx a b).ev P t = finF t (idxF (a.ev P false) (b.ev P false)) := id rfl
@[simp] theorem ev_slice (a : Ex) (l h : Ox) : (Ex.slice a l h).ev P t = finF t (sliceF (a.ev P false) (l.evo P) (h.evo P)) := id rfl
@[simp] theorem ev_fld (a : Ex) (c f : Nat) : (Ex.fld a c f).ev P t = finF t (fldF c f (a.ev P false)) := id rfl
@[simp] theorem ev_tup (es : Exs) : (Ex.tup es).ev P t = finF t (tupF (es.evs P)) := id rfl
@[simp] theorem ev_lst (es : Exs) : (Ex.lst es).ev P t = finF t (lstF (es.evs P)) := id rfl
theorem ev_rg1 (a : Ex) : (Ex.rg1 a).ev P t = finF t (rg1F (a.ev P false)) := id rfl
theorem ev_rg2 (a b : Ex) : (Ex.rg2 a b).ev P t = finF t (rg2F (a.ev P false) (b.ev P false)) := id rfl
@[simp] theorem ev_dct0 (nk : Bool) : (Ex.dct0 nk).ev P t = finF t (conF (.dct nk [])) := id rfl
@[simp] theorem ev_dct1 (nk : Bool) (k v : Ex) : (Ex.dct1 nk k v).ev P t = finF t (dct1F nk (k.ev P false) (v.ev P false)) := id rfl
@[simp] theorem evs_nil : Exs.nil.evs P = nilF := id rfl
@[simp] theorem evs_cons (e : Ex) (r : Exs) : (Exs.cons e r).evs P = consF (e.ev P false) (r.evs P) := id rfl
@[simp] theorem evo_no : Ox.no.evo P = noF := id rfl
@[simp] theorem evo_so (e : Ex) : (Ox.so e).evo P = oxF (e.ev P false) := id rfl
@[simp] theorem tvo_no : Ox.no.tvo P = yesF := id rfl
@[simp] theorem tvo_so (e : Ex) : (Ox.so e).tvo P = e.ev P true := id rfl
@[simp] theorem evi_seq (e : Ex) : (It.seq e).evi P = seqF (e.ev P false) := id rfl
@[simp] theorem evi_rg (e : Ex) : (It.rg e).evi P = irg1F (e.ev P false) := id rfl
@[simp] theorem evi_rg2 (a b : Ex) : (It.rg2 a b).evi P = irg2F (a.ev P false) (b.ev P false) := id rfl
@[simp] theorem evi_enum (e : Ex) : (It.enum e).evi P = enumF (e.ev P false) := id rfl
@[simp] theorem evi_zip (a b : Ex) : (It.zip a b).evi P = zipF (a.ev P false) (b.ev P false) := id rfl
@[simp] theorem finF_f (f : EF) : finF false f = f := id rfl
@[simp] theorem finF_t (f : EF) : finF true f = truF f := id rfl
@[simp] theorem varF_at (i : Nat) : varF i env S = match env[i]? with
    | some (.val v) => .ok v S
    | _ => .stuck := id rfl
@[simp] theorem peekF_at (i d : Nat) : peekF i d env S = match env[i]? with
    | some (.val v) => .ok v S
    | some (.own d' v) => if d' = d then .ok v S else .stuck
    | _ => .stuck := id rfl
@[simp] theorem conF_at (v : D) : conF v env S = .ok v S := id rfl
@[simp] theorem truF_at (fa : EF) : truF fa env S = (fa env S).bind fun x S => Res.opt (((dr S x).bind tru).map .bl) S := id rfl
@[simp] theorem binF_at (o : Bop) (fa fb : EF) : binF o fa fb env S = (fa env S).bind fun x S => (fb env S).bind fun y S => Res.opt ((dr S x).bind fun x => (dr S y).bind fun y => binD o x y) S := id rfl
@[simp] theorem negF_at (fa : EF) : negF fa env S = (fa env S).bind fun x S => match x with
    | .int i => .ok (.int (-i)) S
    | _ => .stuck := id rfl
@[simp] theorem cmpF_at (o : Cop) (fa fb : EF) : cmpF o fa fb env S = (fa env S).bind fun x S => (fb env S).bind fun y S => Res.opt ((dr S x).bind fun x => (dr S y).bind fun y => (cmpD o x y).map .bl) S := id rfl
@[simp] theorem callF_at (run : List D → List D → Res D) (fr : AF) : callF run fr env S = (fr env S).bind fun vs S => run vs S := id rfl
@[simp] theorem biF_at (b : Bi) (f : AF) : biF b f env S = (f env S).bind fun vs S => Res.opt ((vs.mapM (dr S)).bind fun vs => biD b vs) S := id rfl
@[simp] theorem isiF_at (ts : List Ty) (fa : EF) : isiF ts fa env S = (fa env S).bind fun x S => Res.opt ((dr S x).bind fun x => (isiD2 x ts).map .bl) S := id rfl
@[simp] theorem idxF_at (fa fb : EF) : idxF fa fb env S = (fa env S).bind fun x S => (fb env S).bind fun y S => Res.opt ((dr S x).bind fun x => idxD x y) S := id rfl
@[simp] theorem oxF_at (fa : EF) : oxF fa env S = (fa env S).bind fun x S => match x with
    | .int i => .ok (some i) S
    | _ => .stuck := id rfl
@[simp] theorem noF_at : noF env S = .ok none S := id rfl
@[simp] theorem sliceF_at (fa : EF) (fl fh : OF) : sliceF fa fl fh env S = (fa env S).bind fun x S => (fl env S).bind fun l S => (fh env S).bind fun h S => Res.opt ((dr S x).bind fun x => sliceD x l h) S := id rfl
@[simp] theorem fldF_at (c f : Nat) (fa : EF) : fldF c f fa env S = (fa env S).bind fun x S => fldV c f x S := id rfl
@[simp] theorem fldV_ins (c f : Nat) (fs : List D) : fldV c f (.ins c fs) S = Res.opt fs[f]? S := by
  show (if c = c then Res.opt fs[f]? S else Res.stuck) = _
  rw [if_pos rfl]
@[simp] theorem nilF_at : nilF env S = .ok [] S := id rfl
@[simp] theorem consF_at (fa : EF) (fr : AF) : consF fa fr env S = (fa env S).bind fun x S => (fr env S).bind fun xs S => .ok (x :: xs) S := id rfl
@[simp] theorem tupF_at (fr : AF) : tupF fr env S = (fr env S).bind fun vs S => if vs.length ≤ lim then .ok (.tup vs) S else .stuck := id rfl
@[simp] theorem lstF_at (fr : AF) : lstF fr env S = (fr env S).bind fun vs S => if vs.length ≤ lim then .ok (.lst vs) S else .stuck := id rfl
theorem rg1F_at (fa : EF) : rg1F fa env S = (fa env S).bind fun x S => match x with
    | .int n => if rgOk 0 n then .ok (.lst (rgL 0 n)) S else .stuck
    | _ => .stuck := id rfl
@[simp] theorem seqF_at (fa : EF) : seqF fa env S = (fa env S).bind fun x S => match x with
    | .lst xs => .ok xs S
    | .tup xs => .ok xs S
    | _ => .stuck := id rfl
theorem irg1F_at (fa : EF) : irg1F fa env S = (fa env S).bind fun x S => match x with
    | .int n => if rgOk 0 n then .ok (rgL 0 n) S else .stuck
    | _ => .stuck := id rfl
@[simp] theorem enumF_at (fa : EF) : enumF fa env S = (fa env S).bind fun x S => match x with
    | .lst xs => .ok (enumL xs) S
    | .tup xs => .ok (enumL xs) S
    | _ => .stuck := id rfl
@[simp] theorem yesF_at : yesF env S = .ok (.bl true) S := id rfl
@[simp] theorem chainF_at (o o' : Cop) (fa fb fc : EF) : chainF o o' fa fb fc env S = (fa env S).bind fun x S => (fb env S).bind fun y S => match cmpD o x y with
    | some true => (fc env S).bind fun z S => Res.opt ((cmpD o' y z).map .bl) S
    | some false => .ok (.bl false) S
    | none => .stuck := id rfl
@[simp] theorem dct1F_at (nk : Bool) (fk fv : EF) : dct1F nk fk fv env S = (fk env S).bind fun k S => (fv env S).bind fun v S => match k.ky nk with
    | some k => .ok (.dct nk [(k, v)]) S
    | none => .stuck := id rfl
/-! statements -/
@[simp] theorem go_nil : Sts.nil.go P = flF .nx := id rfl
@[simp] theorem go_cons (s : St) (r : Sts) : (Sts.cons s r).go P = seqS (s.go P) (r.go P) := id rfl
@[simp] theorem go_asg (i d : Nat) (e : Ex) : (St.asg i d e).go P = asgF i d (e.ev P false) := id rfl
@[simp] theorem go_par (is ds : List Nat) (e : Exs) : (St.par is ds e).go P = parF is ds (e.evs P) := id rfl
@[simp] theorem go_unp (tg : Tg) (e : Ex) : (St.unp tg e).go P = unpF tg (e.ev P false) := id rfl
theorem go_app (i d : Nat) (e : Ex) : (St.app i d e).go P = appF i d (e.ev P false) := id rfl
theorem go_ext (i : Nat) (e : Ex) : (St.ext i e).go P = extF i (e.ev P false) := id rfl
theorem go_setI (i d : Nat) (k v : Ex) : (St.setI i d k v).go P = setIF i d (k.ev P false) (v.ev P false) := id rfl
theorem go_setI2 (i : Nat) (j k v : Ex) : (St.setI2 i j k v).go P = setI2F i (j.ev P false) (k.ev P false) (v.ev P false) := id rfl
@[simp] theorem go_aug (i : Nat) (o : Bop) (e : Ex) : (St.aug i o e).go P = augF i o (e.ev P false) := id rfl
theorem go_appPop (i j : Nat) (k : Ox) : (St.appPop i j k).go P = gdF i isL (popF (k.evo P) j fun y env S => chgR (chg env S i 1 (appD y))) := id rfl
@[simp] theorem go_asgPop (i j : Nat) (k : Ox) : (St.asgPop i j k).go P = popF (k.evo P) j fun y env S => .ok (.nx, env.set i (.val y)) S := id rfl
@[simp] theorem go_setF (c f : Nat) (e : Ex) : (St.setF c f e).go P = setFF c f (e.ev P false) := id rfl
@[simp] theorem go_ex (e : Ex) : (St.ex e).go P = exF (e.ev P false) := id rfl
@[simp] theorem go_ret (e : Ex) : (St.ret e).go P = retF (e.ev P false) := id rfl
@[simp] theorem go_retO (i : Nat) : (St.retO i).go P = retOF i := id rfl
@[simp] theorem go_retN : St.retN.go P = flF (.rt .non) := id rfl
@[simp] theorem go_ite (c : Ex) (a b : Sts) : (St.ite c a b).go P = iteF (c.ev P true) (a.go P) (b.go P) := id rfl
theorem go_for (tg : Tg) (it : It) (b : Sts) : (St.for_ tg it b).go P = forF (it.evi P) tg (b.go P) := id rfl
theorem go_whl (c : Ex) (b : Sts) : (St.whl c b).go P = whlL fuel (c.ev P true) (b.go P) := id rfl
@[simp] theorem go_pass : St.pass.go P = flF .nx := id rfl
@[simp] theorem go_never : St.never.go P = fun _ _ => .stuck := id rfl
@[simp] theorem go_frz (i : Nat) : (St.frz i).go P = frzF i := id rfl
@[simp] theorem go_cell (i : Nat) : (St.cell i).go P = cellF i := id rfl
@[simp] theorem flF_at (k : Fl) : flF k env S = .ok (k, env) S := id rfl
@[simp] theorem seqS_at (a b : SF) : seqS a b env S = (a env S).bind fun p S => match p.1 with
    | .nx => b p.2 S
    | _ => .ok p S := id rfl
@[simp] theorem asgF_at (i d : Nat) (f : EF) : asgF i d f env S = (f env S).bind fun v S => .ok (.nx, env.set i (mkSlot d v)) S := id rfl
@[simp] theorem mkSlot0 (v : D) : mkSlot 0 v = .val v := id rfl
@[simp] theorem mkSlotS (d : Nat) (v : D) : mkSlot (d + 1) v = .own (d + 1) v := id rfl
@[simp] theorem mkSlot1 (v : D) : mkSlot 1 v = .own 1 v := id rfl
@[simp] theorem mkSlot2 (v : D) : mkSlot 2 v = .own 2 v := id rfl
@[simp] theorem exF_at (f : EF) : exF f env S = (f env S).bind fun _ S => .ok (.nx, env) S := id rfl
@[simp] theorem retF_at (f : EF) : retF f env S = (f env S).bind fun v S => .ok (.rt v, env) S := id rfl
@[simp] theorem retOF_at (i : Nat) : retOF i env S = match env[i]? with
    | some (.own 1 v) => .ok (.rt v, env) S
    | _ => .stuck := id rfl
@[simp] theorem frzF_at (i : Nat) : frzF i env S = match env[i]? with
    | some (.own _ v) => .ok (.nx, env.set i (.val v)) S
    | _ => .stuck := id rfl
@[simp] theorem parF_at (is ds : List Nat) (f : AF) : parF is ds f env S = (f env S).bind fun vs S => Res.opt ((setAll is ds vs env).map fun env => (.nx, env)) S := id rfl
@[simp] theorem unpF_at (tg : Tg) (f : EF) : unpF tg f env S = (f env S).bind fun v S => Res.opt ((tg.store v env).map fun env => (.nx, env)) S := id rfl
@[simp] theorem setFF_at (c f : Nat) (fe : EF) : setFF c f fe env S = (fe env S).bind fun v S => match env[0]? with
  | some (Slot.new c' fs) => if c' = c ∧ fs.length = f then .ok (.nx, env.set 0 (.new c (fs ++ [v]))) S else .stuck
  | _ => .stuck := id rfl
theorem forF_at (fi : AF) (tg : Tg) (b : SF) : forF fi tg b env S = (fi env S).bind fun items S => forL items (fun x env S => match tg.store x env with
  | some env => b env S
  | none => .stuck) env S := id rfl
theorem gdF_at (i : Nat) (k : D → Bool) (f : SF) : gdF i k f env S = if atK env S i k then f env S else .stuck := id rfl
end
@[simp] theorem dr_ref (S : List D) (n : Nat) : dr S (.ref n) = S[n]? := id rfl
@[simp] theorem dr_int (S : List D) (i : Int) : dr S (.int i) = some (.int i) := id rfl
@[simp] theorem dr_bl (S : List D) (i : Bool) : dr S (.bl i) = some (.bl i) := id rfl
@[simp] theorem dr_str (S : List D) (i : Str) : dr S (.str i) = some (.str i) := id rfl
@[simp] theorem dr_non (S : List D) : dr S .non = some .non := id rfl
@[simp] theorem dr_tup (S : List D) (i : List D) : dr S (.tup i) = some (.tup i) := id rfl
@[simp] theorem dr_lst (S : List D) (i : List D) : dr S (.lst i) = some (.lst i) := id rfl
@[simp] theorem dr_dct (S : List D) (nk : Bool) (i : List (Ky × D)) : dr S (.dct nk i) = some (.dct nk i) := id rfl
@[simp] theorem dr_ins (S : List D) (c : Nat) (i : List D) : dr S (.ins c i) = some (.ins c i) := id rfl
@[simp] theorem dr_scr (S : List D) (i : List Int) : dr S (.scr i) = some (.scr i) := id rfl
@[simp] theorem store_name (i : Nat) (v : D) (env : Env) : (Tg.name i).store v env = some (env.set i (.val v)) := id rfl
@[simp] theorem store_tup (ts : List Tg) (vs : List D) (env : Env) : (Tg.tup ts).store (.tup vs) env = Tg.stores ts vs env := id rfl
@[simp] theorem stores_nil (env : Env) : Tg.stores [] [] env = some env := id rfl
@[simp] theorem stores_cons (t : Tg) (ts : List Tg) (v : D) (vs : List D) (env : Env) : Tg.stores (t :: ts) (v :: vs) env = (t.store v env).bind fun env => Tg.stores ts vs env := id rfl
@[simp] theorem wipe_nil (env : Env) : wipeE env [] = env := id rfl
@[simp] theorem wipe_cons (env : Env) (i : Nat) (is : List Nat) : wipeE env (i :: is) = (wipeE env is).set i .no := id rfl
@[simp] theorem setAll_nil (env : Env) : setAll [] [] [] env = some env := id rfl
@[simp] theorem setAll_cons (i d : Nat) (is ds : List Nat) (v : D) (vs : List D) (env : Env) : setAll (i :: is) (d :: ds) (v :: vs) env = setAll is ds vs (env.set i (mkSlot d v)) := id rfl
/-! what a def gives -/
theorem runs_ok {F : Fn} {P : Prg} {args : List D} {S : List D} {v : D} {env : Env} (hl : args.length = F.np) (h : F.body.go P (args.map Slot.val ++ List.replicate (F.N.length - F.np) .no) S = .ok (.rt v, env) S) : F.runs P args S = .ok v S := by
  unfold Fn.runs
  rw [if_pos hl, h]
  show back S v S = _
  unfold back
  rw [if_pos (Nat.le_refl _)]
theorem runs_wp {F : Fn} {P : Prg} {args : List D} {S : List D} {Q : D → List D → Prop} (hl : args.length = F.np) (h : Ok (F.body.go P (args.map Slot.val ++ List.replicate (F.N.length - F.np) .no) S) fun p S' => S'.length ≤ S.length ∧ match p.1 with
    | .rt v => Q v S'
    | .nx => Q .non S'
    | _ => False) : Ok (F.runs P args S) Q := by
  obtain ⟨⟨fl, env⟩, S', e, hS, hq⟩ := h.get
  unfold Fn.runs
  rw [if_pos hl, e]
  cases fl with
  | rt v =>
    show Ok (back S v S') Q
    unfold back
    rw [if_pos hS]
    exact hq
  | nx =>
    show Ok (back S .non S') Q
    unfold back
    rw [if_pos hS]
    exact hq
  | _ => exact hq.elim
/-- a def's run, all by values: the result -/
theorem runs_eq {F : Fn} {P : Prg} {args : List D} {S : List D} {v : D} (hl : args.length = F.np) (h : Ok (F.body.go P (args.map Slot.val ++ List.replicate (F.N.length - F.np) .no) S) fun p S' => S' = S ∧ match p.1 with
    | .rt w => w = v
    | .nx => D.non = v
    | _ => False) : F.runs P args S = .ok v S := by
  refine Ok.eq (runs_wp hl (h.mono fun p S' ⟨e, q⟩ => ⟨by rw [e]; exact Nat.le_refl _, ?_⟩))
  obtain ⟨fl, env⟩ := p
  cases fl with
  | rt w => exact ⟨q, e⟩
  | nx => exact ⟨q, e⟩
  | _ => exact q
/-! comprehensions -/
section
variable {α : Type} {P : Prg} {env : Env} {S : List D} {xs : List α} {enc : α → D} {p : α → Bool} {g : α → D}
/-- [.. for .. in .. if ..] -/
theorem e_lc {elt : Ex} {tg : Tg} {it : It} {ifs : Ox} {own : List Nat} (xs : List α) (enc : α → D) (p : α → Bool) (g : α → D) (hi : it.evi P env S = .ok (xs.map enc) S)
    (ht : ∀ a ∈ xs, ∃ env', tg.store (enc a) (wipeE env own) = some env' ∧ ifs.tvo P env' S = .ok (.bl (p a)) S ∧ (p a = true → elt.ev P false env' S = .ok (g a) S)) (hl : xs.length ≤ lim) :
    (Ex.lc elt tg it ifs own).ev P false env S = .ok (.lst ((xs.filter p).map g)) S := by
  show (It.evi P it env S).bind _ = _
  rw [hi]
  show (loopL (xs.map enc) (turnF tg own (ifs.tvo P) (elt.ev P false) env) [] S).bind short = _
  rw [plL_ok (p := p) (g := g) fun a ha => ?_]
  · show short _ S = _
    unfold short
    rw [if_pos (by simp only [List.nil_append, List.length_map]; exact Nat.le_trans (List.length_filter_le _ _) hl), List.nil_append]
  · obtain ⟨env', h1, h2, h3⟩ := ht a ha
    rw [turnF_at _ _ h1, h2]
    show onB (.bl (p a)) _ _ = _
    rw [onB_bl]
    cases hp : p a with
    | true => rw [if_pos rfl, h3 hp]; rfl
    | false => rfl
/-- .. without a test -/
theorem e_lc0 {elt : Ex} {tg : Tg} {it : It} {own : List Nat} (xs : List α) (enc : α → D) (g : α → D) (hi : it.evi P env S = .ok (xs.map enc) S)
    (ht : ∀ a ∈ xs, ∃ env', tg.store (enc a) (wipeE env own) = some env' ∧ elt.ev P false env' S = .ok (g a) S) (hl : xs.length ≤ lim) :
    (Ex.lc elt tg it .no own).ev P false env S = .ok (.lst (xs.map g)) S := by
  have := e_lc (ifs := .no) xs enc (fun _ => true) g hi (fun a ha => by obtain ⟨e, h1, h2⟩ := ht a ha; exact ⟨e, h1, rfl, fun _ => h2⟩) hl
  rw [this, List.filter_eq_self.mpr fun _ _ => rfl]
end
end BP
end

section
set_option autoImplicit false
set_option linter.all false
set_option maxRecDepth 100000
/-! PL2: numbers, lots, lists of lots as plain values. -/
namespace BP
open PySem

/-- what a lot, or a list of ints, is as data -/
def pI (n : Nat) : PyData := .int n
def pL (l : List Nat) : PyData := .tuple (l.map pI)
theorem py_lot (l : List Nat) : (lotD l).py = some (pL l) := by
  show (D.pys (l.map I)).map PyData.tuple = _
  have : D.pys (l.map I) = some (l.map pI) := by
    induction l with
    | nil => rfl
    | cons a l ih => rw [List.map_cons]; unfold D.pys; rw [ih]; rfl
  rw [this]; rfl
theorem pys_I' (l : List Nat) : D.pys (l.map I) = some (l.map pI) := by
  induction l with
  | nil => rfl
  | cons a l ih => rw [List.map_cons]; unfold D.pys; rw [ih]; rfl
theorem pys_lots (ls : List (List Nat)) : D.pys (ls.map lotD) = some (ls.map pL) := by
  induction ls with
  | nil => rfl
  | cons a l ih => rw [List.map_cons]; unfold D.pys; rw [ih, py_lot]; rfl
theorem lay_I (l : List Nat) : PyData.canLayAll0 (l.map pI) = true := by
  induction l with
  | nil => rw [List.map_nil, PyData.canLayAll0]
  | cons a l ih => rw [List.map_cons, PyData.canLayAll0, ih]; simp [pI, PyData.canLay0]
theorem dep_I (l : List Nat) : PyData.depthAll (l.map pI) = 0 := by
  induction l with
  | nil => rw [List.map_nil, PyData.depthAll]
  | cons a l ih => rw [List.map_cons, PyData.depthAll, ih]; simp [pI, PyData.depth]
theorem lay_L (l : List Nat) : PyData.canLay0 (pL l) = true := by
  unfold pL; rw [PyData.canLay0]; exact lay_I l
theorem dep_L (l : List Nat) : PyData.depth (pL l) = 1 := by
  unfold pL; rw [PyData.depth, dep_I]
theorem lay_Ls (ls : List (List Nat)) : PyData.canLayAll0 (ls.map pL) = true := by
  induction ls with
  | nil => rw [List.map_nil, PyData.canLayAll0]
  | cons a l ih => rw [List.map_cons, PyData.canLayAll0, ih, lay_L]; rfl
theorem dep_Ls (ls : List (List Nat)) : PyData.depthAll (ls.map pL) ≤ 1 := by
  induction ls with
  | nil => rw [List.map_nil, PyData.depthAll]; exact Nat.zero_le _
  | cons a l ih => rw [List.map_cons, PyData.depthAll, dep_L]; omega
theorem shp_I (i : Int) : SeqAt.shaped (.int i) = true := by simp [SeqAt.shaped, PyData.canLay0, PyData.depth]
theorem shp_B (i : Bool) : SeqAt.shaped (.bool i) = true := by simp [SeqAt.shaped, PyData.canLay0, PyData.depth]
theorem shp_L (l : List Nat) : SeqAt.shaped (pL l) = true := by unfold SeqAt.shaped; rw [lay_L, dep_L]; rfl
theorem shp_Is (l : List Nat) : SeqAt.shaped (.list (l.map pI)) = true := by unfold SeqAt.shaped; rw [PyData.canLay0, lay_I, PyData.depth, dep_I]; rfl
theorem shp_Ls (ls : List (List Nat)) : SeqAt.shaped (.list (ls.map pL)) = true := by
  unfold SeqAt.shaped; rw [PyData.canLay0, lay_Ls, PyData.depth]
  have := dep_Ls ls
  rw [decide_eq_true (by omega)]; rfl
theorem shp_Lt (ls : List (List Nat)) : SeqAt.shaped (.tuple (ls.map pL)) = true := by
  unfold SeqAt.shaped; rw [PyData.canLay0, lay_Ls, PyData.depth]
  have := dep_Ls ls
  rw [decide_eq_true (by omega)]; rfl
theorem eqv_Is : ∀ l m : List Nat, PyData.eqvAll (l.map pI) (m.map pI) = decide (l = m)
  | [], [] => by simp [PyData.eqvAll]
  | [], _ :: _ => by simp [PyData.eqvAll]
  | _ :: _, [] => by simp [PyData.eqvAll]
  | a :: l, b :: m => by
    rw [List.map_cons, List.map_cons, PyData.eqvAll, eqv_Is l m]
    have : PyData.eqv (pI a) (pI b) = decide (a = b) := by
      show ((a : Int) == (b : Int)) = _
      by_cases h : a = b
      · subst h; simp
      · have : ¬ ((a : Int) = (b : Int)) := by omega
        simp [h, this]
    rw [this]
    by_cases h : a = b <;> by_cases h2 : l = m <;> simp [h, h2]
theorem eqv_L (l m : List Nat) : PyData.eqv (pL l) (pL m) = decide (l = m) := by
  unfold pL; rw [PyData.eqv]; exact eqv_Is l m
theorem eqv_Ls : ∀ l m : List (List Nat), PyData.eqvAll (l.map pL) (m.map pL) = decide (l = m)
  | [], [] => by simp [PyData.eqvAll]
  | [], _ :: _ => by simp [PyData.eqvAll]
  | _ :: _, [] => by simp [PyData.eqvAll]
  | a :: l, b :: m => by
    rw [List.map_cons, List.map_cons, PyData.eqvAll, eqv_Ls l m, eqv_L]
    by_cases h : a = b <;> by_cases h2 : l = m <;> simp [h, h2]
/-! == -/
theorem eq_lot (l m : List Nat) : eqD (.tup (l.map I)) (.tup (m.map I)) = some (decide (l = m)) := by
  show eqD (lotD l) (lotD m) = _
  unfold eqD; rw [py_lot, py_lot]
  show (if (SeqAt.shaped (pL l) && SeqAt.shaped (pL m)) = true then _ else _) = _
  rw [shp_L, shp_L, eqv_L]; rfl
theorem eq_lotT (l m : List Nat) : eqD (lotD l) (lotD m) = some (decide (l = m)) := eq_lot l m
theorem eq_Is (l m : List Nat) : eqD (.lst (l.map I)) (.lst (m.map I)) = some (decide (l = m)) := by
  have e : ∀ l : List Nat, (D.lst (l.map I)).py = some (.list (l.map pI)) := fun l => by
    show (D.pys (l.map I)).map PyData.list = _
    rw [pys_I']; rfl
  unfold eqD; rw [e, e]
  show (if (SeqAt.shaped (.list (l.map pI)) && SeqAt.shaped (.list (m.map pI))) = true then _ else _) = _
  rw [shp_Is, shp_Is, PyData.eqv, eqv_Is]; rfl
theorem eq_lots (l m : List (List Nat)) : eqD (.lst (l.map lotD)) (.lst (m.map lotD)) = some (decide (l = m)) := by
  have e : ∀ l : List (List Nat), (D.lst (l.map lotD)).py = some (.list (l.map pL)) := fun l => by
    show (D.pys (l.map lotD)).map PyData.list = _
    rw [pys_lots]; rfl
  unfold eqD; rw [e, e]
  show (if (SeqAt.shaped (.list (l.map pL)) && SeqAt.shaped (.list (m.map pL))) = true then _ else _) = _
  rw [shp_Ls, shp_Ls, PyData.eqv, eqv_Ls]; rfl
theorem eq_int (i j : Int) : eqD (.int i) (.int j) = some (decide (i = j)) := by
  have h : eqD (.int i) (.int j) = if (SeqAt.shaped (.int i) && SeqAt.shaped (.int j)) = true then some (PyData.eqv (.int i) (.int j)) else none := rfl
  rw [h, shp_I, shp_I, PyData.eqv]
  by_cases h : i = j <;> simp [h]
theorem eq_bl (i j : Bool) : eqD (.bl i) (.bl j) = some (i == j) := by
  have h : eqD (.bl i) (.bl j) = if (SeqAt.shaped (.bool i) && SeqAt.shaped (.bool j)) = true then some (PyData.eqv (.bool i) (.bool j)) else none := rfl
  rw [h, shp_B, shp_B, PyData.eqv]; rfl
/-! in -/
theorem any_I (l : List Nat) (n : Nat) : ((l.map pI).any fun z => PyData.eqv z (pI n)) = decide (n ∈ l) := by
  induction l with
  | nil => simp
  | cons a l ih =>
    rw [List.map_cons, List.any_cons, ih]
    have : PyData.eqv (pI a) (pI n) = decide (n = a) := by
      show ((a : Int) == (n : Int)) = _
      by_cases h : n = a
      · subst h; simp
      · have : ¬ ((a : Int) = (n : Int)) := by omega
        simp [h, this]
    rw [this]
    by_cases h : n = a <;> simp [h]
theorem in_lot (n : Nat) (l : List Nat) : inD (.int n) (.tup (l.map I)) = some (decide (n ∈ l)) := by
  have e : (D.tup (l.map I)).py = some (.tuple (l.map pI)) := py_lot l
  unfold inD
  show (match (D.int n).py, (D.tup (l.map I)).py with
    | some x, some (.tuple ys) => if SeqAt.shaped x && SeqAt.shaped (.tuple ys) then some (ys.any fun z => PyData.eqv z x) else none
    | _, _ => none) = _
  rw [e]
  show (if (SeqAt.shaped (.int n) && SeqAt.shaped (pL l)) = true then some ((l.map pI).any fun z => PyData.eqv z (pI n)) else none) = _
  rw [shp_I, shp_L, any_I]; rfl
theorem in_Is (n : Nat) (l : List Nat) : inD (.int n) (.lst (l.map I)) = some (decide (n ∈ l)) := by
  have e : (D.lst (l.map I)).py = some (.list (l.map pI)) := by
    show (D.pys (l.map I)).map PyData.list = _
    rw [pys_I']; rfl
  unfold inD
  show (match (D.int n).py, (D.lst (l.map I)).py with
    | some x, some (.list ys) => if SeqAt.shaped x && SeqAt.shaped (.list ys) then some (ys.any fun z => PyData.eqv z x) else none
    | _, _ => none) = _
  rw [e]
  show (if (SeqAt.shaped (.int n) && SeqAt.shaped (.list (l.map pI))) = true then some ((l.map pI).any fun z => PyData.eqv z (pI n)) else none) = _
  rw [shp_I, shp_Is, any_I]; rfl
/-! items -/
theorem at_map {α : Type} (xs : List α) (enc : α → D) (i : Nat) : atD (xs.map enc) (i : Int) = (xs[i]?).map enc := by
  unfold atD ixI
  rw [if_pos (Int.natCast_nonneg _), List.length_map]
  by_cases h : i < xs.length
  · rw [if_pos (by omega)]
    simp
  · rw [if_neg (by omega), List.getElem?_eq_none (by omega)]; rfl
theorem rgOk_nat {n : Nat} (h : n ≤ lim) : rgOk 0 (n : Int) = true := by
  unfold rgOk
  rw [smallI_iff, smallI_iff]
  have : lim = 16777216 := rfl
  rw [decide_eq_true (by omega), decide_eq_true (by omega), decide_eq_true (by omega), decide_eq_true (by omega), decide_eq_true (by omega)]; rfl
theorem enum_map {α : Type} (xs : List α) (enc : α → D) : enumL (xs.map enc) = xs.zipIdx.map fun p => .tup [.int (p.2 : Nat), enc p.1] := by
  unfold enumL
  rw [List.zipIdx_eq_zip_range']
  simp only [List.length_map]
  apply List.ext_getElem?
  intro i
  simp only [List.getElem?_map, List.getElem?_zip_eq_some, List.getElem?_range', List.zip_map_right]
  by_cases h : i < xs.length
  · have h1 : (List.range xs.length)[i]? = some i := List.getElem?_range h
    have h2 : (List.range' 0 xs.length)[i]? = some i := by rw [List.getElem?_range' (by simpa using h)]; simp
    have h3 : (xs.map enc)[i]? = some (enc xs[i]) := by rw [List.getElem?_map, List.getElem?_eq_getElem h]; rfl
    simp [List.getElem?_zip_eq_some, List.zip, h1, h2, h]
  · simp [List.zip, h]
/-! sorting -/
theorem leD_int (i j : Int) : leD (.int i) (.int j) = decide (i ≤ j) := by
  show (!PySem.W.dataLt (.int j) (.int i)) = _
  rw [PySem.W.dataLt_int]
  by_cases h : i ≤ j
  · rw [decide_eq_true h, decide_eq_false (by omega)]; rfl
  · rw [decide_eq_false h, decide_eq_true (by omega)]; rfl
def asI (l : List Nat) : List Int := l.map fun n : Nat => (n : Int)
/-- the order of lots -/
def lotLe (a b : List Nat) : Bool := decide (asI a ≤ asI b)
theorem leD_lot (a b : List Nat) : leD (lotD a) (lotD b) = lotLe a b := by
  unfold leD
  rw [py_lot, py_lot]
  show (!PySem.W.dataLt (pL b) (pL a)) = _
  unfold pL
  rw [PySem.W.dataLt_tuple]
  have e : ∀ l : List Nat, l.map pI = (asI l).map PyData.int := fun l => by unfold asI; rw [List.map_map]; rfl
  rw [e, e]
  have := PySem.W.dataLt_ints (asI b) (asI a)
  unfold PySem.W.rowLt at this
  rw [this]
  unfold lotLe
  by_cases h : asI b < asI a
  · rw [decide_eq_true h, decide_eq_false (fun q => q h)]; rfl
  · rw [decide_eq_false h, decide_eq_true (show asI a ≤ asI b from h)]; rfl
theorem asI_inj {a b : List Nat} (h : asI a = asI b) : a = b := by
  unfold asI at h
  exact (List.map_inj_right fun x y e => by omega).mp h
theorem lotLe_trans (a b c : List Nat) (h1 : lotLe a b = true) (h2 : lotLe b c = true) : lotLe a c = true :=
  decide_eq_true (List.le_trans (of_decide_eq_true h1) (of_decide_eq_true h2))
theorem lotLe_total (a b : List Nat) : (lotLe a b || lotLe b a) = true := by
  unfold lotLe
  rw [Bool.or_eq_true, decide_eq_true_eq, decide_eq_true_eq]
  exact List.le_total _ _
theorem lotLe_anti {a b : List Nat} (h1 : lotLe a b = true) (h2 : lotLe b a = true) : a = b :=
  asI_inj (List.le_antisymm (of_decide_eq_true h1) (of_decide_eq_true h2))
def natLe (a b : Nat) : Bool := decide (a ≤ b)
theorem alike_Is (l m : List Nat) : PySem.W.alikeAll (l.map pI) (m.map pI) = true := by
  have := PySem.W.alike_ints (asI l) (asI m)
  unfold asI at this
  rw [List.map_map, List.map_map] at this
  exact this
theorem sort_I (l : List Nat) : sortD (l.map I) = some ((l.mergeSort natLe).map I) := by
  unfold sortD
  rw [pys_I']
  have ok : sortOk (l.map pI) = true := by
    unfold sortOk alikeAllB
    rw [Bool.and_eq_true, Bool.and_eq_true, Bool.or_eq_true]
    refine ⟨⟨List.all_eq_true.mpr fun a ha => List.all_eq_true.mpr fun b hb => ?_, .inr (List.all_eq_true.mpr fun a ha => ?_)⟩, List.all_eq_true.mpr fun a ha => ?_⟩
    · obtain ⟨x, _, rfl⟩ := List.mem_map.mp ha
      obtain ⟨y, _, rfl⟩ := List.mem_map.mp hb
      simp [pI, PySem.W.alike]
    · obtain ⟨x, _, rfl⟩ := List.mem_map.mp ha
      rfl
    · obtain ⟨x, _, rfl⟩ := List.mem_map.mp ha
      simp [pI, PyData.depth]
  show (if sortOk (l.map pI) = true then _ else _) = _
  rw [if_pos ok]
  congr 1
  refine (List.map_mergeSort fun a _ b _ => ?_).symm
  show natLe a b = leD (.int a) (.int b)
  rw [leD_int]
  unfold natLe
  by_cases h : a ≤ b
  · rw [decide_eq_true h, decide_eq_true (by omega)]
  · rw [decide_eq_false h, decide_eq_false (by omega)]
theorem sort_lots (ls : List (List Nat)) : sortD (ls.map lotD) = some ((ls.mergeSort lotLe).map lotD) := by
  unfold sortD
  rw [pys_lots]
  have ok : sortOk (ls.map pL) = true := by
    unfold sortOk alikeAllB
    rw [Bool.and_eq_true, Bool.and_eq_true, Bool.or_eq_true]
    refine ⟨⟨List.all_eq_true.mpr fun a ha => List.all_eq_true.mpr fun b hb => ?_, .inl (List.all_eq_true.mpr fun a ha => ?_)⟩, List.all_eq_true.mpr fun a ha => ?_⟩
    · obtain ⟨x, _, rfl⟩ := List.mem_map.mp ha
      obtain ⟨y, _, rfl⟩ := List.mem_map.mp hb
      unfold pL
      rw [PySem.W.alike]
      exact alike_Is x y
    · obtain ⟨x, _, rfl⟩ := List.mem_map.mp ha
      rfl
    · obtain ⟨x, _, rfl⟩ := List.mem_map.mp ha
      rw [dep_L]; rfl
  show (if sortOk (ls.map pL) = true then _ else _) = _
  rw [if_pos ok]
  congr 1
  exact (List.map_mergeSort fun a _ b _ => (leD_lot a b).symm).symm

section
variable {P : Prg} {env : Env} {S : List D}
theorem e_rg {a : Ex} {n : Nat} (h : a.ev P false env S = .ok (.int n) S) (hn : n ≤ lim) : (It.rg a).evi P env S = .ok ((List.range n).map I) S := by
  rw [evi_rg, irg1F_at, h, Res.bind_ok]
  dsimp only
  rw [if_pos (rgOk_nat hn), rgL_zero]
theorem e_rg1 {a : Ex} {n : Nat} (h : a.ev P false env S = .ok (.int n) S) (hn : n ≤ lim) : (Ex.rg1 a).ev P false env S = .ok (.lst ((List.range n).map I)) S := by
  rw [ev_rg1, finF_f, rg1F_at, h, Res.bind_ok]
  dsimp only
  rw [if_pos (rgOk_nat hn), rgL_zero]
theorem e_seqL {a : Ex} {xs : List D} (h : a.ev P false env S = .ok (.lst xs) S) : (It.seq a).evi P env S = .ok xs S := by
  show (a.ev P false env S).bind _ = _
  rw [h]; rfl
theorem e_seqT {a : Ex} {xs : List D} (h : a.ev P false env S = .ok (.tup xs) S) : (It.seq a).evi P env S = .ok xs S := by
  show (a.ev P false env S).bind _ = _
  rw [h]; rfl
theorem e_enumT {α : Type} {a : Ex} {xs : List α} {enc : α → D} (h : a.ev P false env S = .ok (.tup (xs.map enc)) S) : (It.enum a).evi P env S = .ok (xs.zipIdx.map fun p => .tup [.int (p.2 : Nat), enc p.1]) S := by
  show (a.ev P false env S).bind _ = _
  rw [h]
  show Res.ok (enumL (xs.map enc)) S = _
  rw [enum_map]
end
end BP
end

section
set_option autoImplicit false
set_option linter.all false
set_option maxRecDepth 100000
/-! PL3: statements by what they leave; dicts of flags; builtins. -/
namespace BP
open PySem

section
variable {α : Type} {P : Prg} {env : Env} {S : List D}
/-- a for statement -/
theorem w_for {tg : Tg} {it : It} {b : Sts} {Q : Fl × Env → List D → Prop} (xs : List α) (enc : α → D) (I : List α → Env → List D → Prop) (hi : it.evi P env S = .ok (xs.map enc) S) (h0 : I xs env S)
    (hs : ∀ a r env S, I (a :: r) env S → ∃ env', tg.store (enc a) env = some env' ∧ Ok (b.go P env' S) fun p S' => match p.1 with
      | .nx => I r p.2 S'
      | .ct => I r p.2 S'
      | .bk => Q (.nx, p.2) S'
      | .rt v => Q (.rt v, p.2) S') (he : ∀ env S, I [] env S → Q (.nx, env) S) : Ok ((St.for_ tg it b).go P env S) Q := by
  rw [go_for, forF_at, hi, Res.bind_ok]
  refine forL_wp I (fun a r env S h => ?_) he h0
  obtain ⟨env', e, h⟩ := hs a r env S h
  rw [e]
  exact h
/-- .. the items come with a change of the cells -/
theorem w_forS {tg : Tg} {it : It} {b : Sts} {Q : Fl × Env → List D → Prop} {S1 : List D} (xs : List α) (enc : α → D) (I : List α → Env → List D → Prop) (hi : it.evi P env S = .ok (xs.map enc) S1) (h0 : I xs env S1)
    (hs : ∀ a r env S, I (a :: r) env S → ∃ env', tg.store (enc a) env = some env' ∧ Ok (b.go P env' S) fun p S' => match p.1 with
      | .nx => I r p.2 S'
      | .ct => I r p.2 S'
      | .bk => Q (.nx, p.2) S'
      | .rt v => Q (.rt v, p.2) S') (he : ∀ env S, I [] env S → Q (.nx, env) S) : Ok ((St.for_ tg it b).go P env S) Q := by
  rw [go_for, forF_at, hi, Res.bind_ok]
  refine forL_wp I (fun a r env S h => ?_) he h0
  obtain ⟨env', e, h⟩ := hs a r env S h
  rw [e]
  exact h
theorem makes_eq {F : Fn} {c : Nat} {args : List D} {fs : List D} (hl : args.length + 1 = F.np) (h : Ok (F.body.go P (.new c [] :: args.map Slot.val ++ List.replicate (F.N.length - F.np) .no) S) fun p S' => S' = S ∧ p.1 = .nx ∧ ∃ r, p.2 = .new c fs :: r) : F.makes c P args S = .ok (.ins c fs) S := by
  obtain ⟨⟨fl, env⟩, S', e, rfl, rfl, r, rfl⟩ := h.get
  unfold Fn.makes
  rw [if_pos hl, e]
  show (if S'.length ≤ S'.length then Res.ok (D.ins c fs) S' else .stuck) = _
  rw [if_pos (Nat.le_refl _)]
end
/-! dicts of flags -/
section
variable {α : Type} [DecidableEq α]
def addNew (acc : List α) (a : α) : List α := if a ∈ acc then acc else acc ++ [a]
def uniq (l : List α) : List α := l.foldl addNew []
theorem mem_addNew {acc : List α} {a b : α} : b ∈ addNew acc a ↔ b ∈ acc ∨ b = a := by
  unfold addNew
  split
  · constructor
    · exact .inl
    · rintro (h | rfl)
      · exact h
      · assumption
  · simp
theorem nodup_addNew {acc : List α} {a : α} (h : acc.Nodup) : (addNew acc a).Nodup := by
  unfold addNew
  split
  · exact h
  · rename_i ha
    rw [List.nodup_append]
    exact ⟨h, by simp, fun b hb c hc e => by
      have : c = a := by simpa using hc
      subst this
      exact ha (e ▸ hb)⟩
theorem mem_foldNew : ∀ {l acc : List α} {b : α}, b ∈ l.foldl addNew acc ↔ b ∈ acc ∨ b ∈ l
  | [], acc, b => by simp
  | a :: l, acc, b => by
    rw [List.foldl_cons, mem_foldNew, mem_addNew, List.mem_cons]
    constructor
    · rintro ((h | h) | h)
      · exact .inl h
      · exact .inr (.inl h)
      · exact .inr (.inr h)
    · rintro (h | h | h)
      · exact .inl (.inl h)
      · exact .inl (.inr h)
      · exact .inr h
theorem mem_uniq {l : List α} {b : α} : b ∈ uniq l ↔ b ∈ l := by unfold uniq; rw [mem_foldNew]; simp
theorem nodup_foldNew : ∀ {l acc : List α}, acc.Nodup → (l.foldl addNew acc).Nodup
  | [], _, h => h
  | a :: l, acc, h => by rw [List.foldl_cons]; exact nodup_foldNew (nodup_addNew h)
theorem nodup_uniq {l : List α} : (uniq l).Nodup := nodup_foldNew List.nodup_nil
theorem foldNew_nodup : ∀ {l acc : List α}, (acc ++ l).Nodup → l.foldl addNew acc = acc ++ l
  | [], acc, _ => by simp
  | a :: l, acc, h => by
    have ha : a ∉ acc := fun q => by
      rw [List.nodup_append] at h
      exact h.2.2 a q a List.mem_cons_self rfl
    have e : addNew acc a = acc ++ [a] := by unfold addNew; rw [if_neg ha]
    rw [List.foldl_cons, e, foldNew_nodup (by simpa using h)]
    simp
theorem uniq_nodup {l : List α} (h : l.Nodup) : uniq l = l := by unfold uniq; rw [foldNew_nodup (by simpa using h)]; simp
theorem uniq_len_le (l : List α) : (uniq l).length ≤ l.length := by
  have key : ∀ (l acc : List α), (l.foldl addNew acc).length ≤ acc.length + l.length := by
    intro l
    induction l with
    | nil => intro acc; simp
    | cons a l ih =>
      intro acc
      rw [List.foldl_cons, List.length_cons]
      have := ih (addNew acc a)
      have h2 : (addNew acc a).length ≤ acc.length + 1 := by
        unfold addNew
        split <;> simp
      omega
  simpa [uniq] using key l []
/-- entries that say True -/
def ents (kenc : α → Ky) (l : List α) : List (Ky × D) := l.map fun a => (kenc a, .bl true)
theorem dput_ents {kenc : α → Ky} (hk : ∀ a b, kenc a = kenc b → a = b) (l : List α) (a : α) : dput (ents kenc l) (kenc a) (.bl true) = ents kenc (addNew l a) := by
  unfold dput addNew
  have h1 : ((ents kenc l).any fun kv => decide (kv.1 = kenc a)) = decide (a ∈ l) := by
    unfold ents
    rw [List.any_map]
    by_cases h : a ∈ l
    · rw [decide_eq_true h, List.any_eq_true]
      exact ⟨a, h, by simp⟩
    · rw [decide_eq_false h, List.any_eq_false]
      intro b hb
      show ¬ decide (kenc b = kenc a) = true
      rw [decide_eq_true_eq]
      exact fun e => h (hk _ _ e ▸ hb)
  rw [h1]
  by_cases h : a ∈ l
  · rw [if_pos (decide_eq_true h), if_pos h]
    unfold ents
    rw [List.map_map]
    refine List.map_congr_left fun b _ => ?_
    show (if kenc b = kenc a then (kenc b, D.bl true) else (kenc b, D.bl true)) = _
    split <;> rfl
  · rw [if_neg (by simp [h]), if_neg h]
    unfold ents
    rw [List.map_append]; rfl
theorem fold_ents {kenc : α → Ky} (hk : ∀ a b, kenc a = kenc b → a = b) : ∀ (xs l : List α), xs.foldl (fun acc a => dput acc (kenc a) (.bl true)) (ents kenc l) = ents kenc (xs.foldl addNew l)
  | [], _ => rfl
  | a :: xs, l => by rw [List.foldl_cons, dput_ents hk, fold_ents hk xs, List.foldl_cons]
theorem ents_len (kenc : α → Ky) (l : List α) : (ents kenc l).length = l.length := by unfold ents; simp
theorem ents_get {kenc : α → Ky} (hk : ∀ a b, kenc a = kenc b → a = b) (l : List α) (a : α) : (dget (ents kenc l) (kenc a)).isSome = decide (a ∈ l) := by
  unfold dget ents
  rw [Option.isSome_map]
  by_cases h : a ∈ l
  · rw [decide_eq_true h, List.find?_isSome]
    exact ⟨_, List.mem_map.mpr ⟨a, h, rfl⟩, by simp⟩
  · rw [decide_eq_false h, Bool.eq_false_iff, ne_eq, List.find?_isSome]
    rintro ⟨kv, hm, e⟩
    obtain ⟨b, hb, rfl⟩ := List.mem_map.mp hm
    exact h (hk _ _ (of_decide_eq_true e) ▸ hb)
end
def kN1 (n : Nat) : Ky := .num n
theorem kN1_inj (a b : Nat) (h : kN1 a = kN1 b) : a = b := by
  unfold kN1 at h
  injection h with h
  omega
def kL (l : List Nat) : Ky := .tup (l.map kN1)
theorem kL_inj (a b : List Nat) (h : kL a = kL b) : a = b := by
  unfold kL at h
  injection h with h
  exact (List.map_inj_right kN1_inj).mp h
theorem ky_int (n : Nat) : (D.int n).ky false = some (kN1 n) := rfl
theorem kyds_I (m : Nat) (l : List Nat) : D.kyds m (l.map I) = some (l.map kN1) := by
  induction l with
  | nil => unfold D.kyds; rfl
  | cons a l ih =>
    rw [List.map_cons]
    unfold D.kyds
    rw [ih]
    unfold D.kyd
    rfl
theorem ky_lot (l : List Nat) : (lotD l).ky true = some (kL l) := by
  show (D.kyds 7 (l.map I)).map NestedKey.tup = _
  rw [kyds_I]; rfl
theorem kyDs_N (l : List Nat) : kyDs (l.map kN1) = l.map I := by
  induction l with
  | nil => rfl
  | cons a l ih => rw [List.map_cons]; unfold kyDs; rw [ih]; rfl
theorem kyD_L (l : List Nat) : kyD (kL l) = lotD l := by
  unfold kL; unfold kyD; rw [kyDs_N]; rfl
theorem keys_N (l : List Nat) : keysD (ents kN1 l) = l.map I := by
  unfold keysD ents; rw [List.map_map]; rfl
theorem keys_L (l : List (List Nat)) : keysD (ents kL l) = l.map lotD := by
  unfold keysD ents; rw [List.map_map]; exact List.map_congr_left fun a _ => kyD_L a
section
variable {α β : Type} [DecidableEq β] {P : Prg} {env : Env} {S : List D}
/-- {k: True for ..} -/
theorem e_dc {nk : Bool} {ke ve : Ex} {tg : Tg} {it : It} {own : List Nat} (kenc : β → Ky) (hk : ∀ a b, kenc a = kenc b → a = b) (xs : List α) (enc : α → D) (g : α → β) (hi : it.evi P env S = .ok (xs.map enc) S)
    (ht : ∀ a ∈ xs, ∃ env' kd, tg.store (enc a) (wipeE env own) = some env' ∧ ke.ev P false env' S = .ok kd S ∧ ve.ev P false env' S = .ok (.bl true) S ∧ kd.ky nk = some (kenc (g a))) (hl : xs.length < lim) :
    (Ex.dc nk ke ve tg it .no own).ev P false env S = .ok (.dct nk (ents kenc (uniq (xs.map g)))) S := by
  show (It.evi P it env S).bind _ = _
  rw [hi]
  show (loopD (xs.map enc) (turnF tg own yesF (kvF nk (ke.ev P false) (ve.ev P false)) env) [] S).bind (shortD nk) = _
  rw [plD_ok (g := fun a => (kenc (g a), .bl true)) fun a ha => ?_]
  · show shortD nk _ S = _
    have e : xs.foldl (fun acc a => dput acc (kenc (g a)) (.bl true)) [] = ents kenc (uniq (xs.map g)) := by
      have := fold_ents hk (xs.map g) []
      rw [List.foldl_map] at this
      exact this
    rw [e]
    unfold shortD
    rw [if_pos]
    rw [ents_len]
    have := uniq_len_le (xs.map g)
    rw [List.length_map] at this
    omega
  · obtain ⟨env', kd, h1, h2, h3, h4⟩ := ht a ha
    rw [turnF_at _ _ h1]
    show onB (.bl true) ((kvF nk (ke.ev P false) (ve.ev P false) env' S).bind _) (.ok none S) = _
    rw [onB_bl, if_pos rfl]
    unfold kvF
    rw [h2]
    show ((ve.ev P false env' S).bind _).bind _ = _
    rw [h3]
    show (match kd.ky nk with | some k => Res.ok (k, D.bl true) S | none => .stuck).bind _ = _
    rw [h4]; rfl
/-- .. of two clauses -/
theorem e_dc2 {nk : Bool} {ke ve : Ex} {tg tg2 : Tg} {it it2 : It} {own own2 : List Nat} (kenc : β → Ky) (hk : ∀ a b, kenc a = kenc b → a = b) (xs : List α) (enc : α → D) (ys : α → List β) (enc2 : β → D) (hi : it.evi P env S = .ok (xs.map enc) S)
    (ht : ∀ a ∈ xs, ∃ env', tg.store (enc a) (wipeE env own) = some env' ∧ it2.evi P env' S = .ok ((ys a).map enc2) S ∧ ∀ b ∈ ys a, ∃ env'' kd, tg2.store (enc2 b) (wipeE env' own2) = some env'' ∧ ke.ev P false env'' S = .ok kd S ∧ ve.ev P false env'' S = .ok (.bl true) S ∧ kd.ky nk = some (kenc b))
    (hl : ((xs.map ys).flatten).length < lim) :
    (Ex.dc2 nk ke ve tg it tg2 it2 own own2).ev P false env S = .ok (.dct nk (ents kenc (uniq ((xs.map ys).flatten)))) S := by
  show (It.evi P it env S).bind _ = _
  rw [hi]
  show (loopD2 (xs.map enc) (turn2F tg own (it2.evi P) (fun items env acc S => loopD items (turnF tg2 own2 yesF (kvF nk (ke.ev P false) (ve.ev P false)) env) acc S) env) [] S).bind (shortD nk) = _
  rw [plD2_ok (g := fun acc a => (ys a).foldl (fun acc b => dput acc (kenc b) (.bl true)) acc) fun a ha acc => ?_]
  · show shortD nk _ S = _
    have e : xs.foldl (fun acc a => (ys a).foldl (fun acc b => dput acc (kenc b) (.bl true)) acc) [] = ents kenc (uniq ((xs.map ys).flatten)) := by
      have key : ∀ (xs : List α) (l : List β), xs.foldl (fun acc a => (ys a).foldl (fun acc b => dput acc (kenc b) (.bl true)) acc) (ents kenc l) = ents kenc (((xs.map ys).flatten).foldl addNew l) := by
        intro xs
        induction xs with
        | nil => intro l; rfl
        | cons a xs ih => intro l; rw [List.foldl_cons, fold_ents hk, ih, List.map_cons, List.flatten_cons, List.foldl_append]
      exact key xs []
    rw [e]
    unfold shortD
    rw [if_pos]
    rw [ents_len]
    have := uniq_len_le ((xs.map ys).flatten)
    omega
  · obtain ⟨env', h1, h2, h3⟩ := ht a ha
    unfold turn2F
    rw [h1]
    show (It.evi P it2 env' S).bind _ = _
    rw [h2]
    show loopD ((ys a).map enc2) _ acc S = _
    rw [plD_ok (g := fun b => (kenc b, .bl true)) fun b hb => ?_]
    obtain ⟨env'', kd, q1, q2, q3, q4⟩ := h3 b hb
    rw [turnF_at _ _ q1]
    show onB (.bl true) ((kvF nk (ke.ev P false) (ve.ev P false) env'' S).bind _) (.ok none S) = _
    rw [onB_bl, if_pos rfl]
    unfold kvF
    rw [q2]
    show ((ve.ev P false env'' S).bind _).bind _ = _
    rw [q3]
    show (match kd.ky nk with | some k => Res.ok (k, D.bl true) S | none => .stuck).bind _ = _
    rw [q4]; rfl
/-- [.. for .. in .. for .. in ..] -/
theorem e_lc2 {γ : Type} {elt : Ex} {tg tg2 : Tg} {it it2 : It} {own own2 : List Nat} (xs : List α) (enc : α → D) (ys : α → List γ) (enc2 : γ → D) (g : α → γ → D) (hi : it.evi P env S = .ok (xs.map enc) S)
    (ht : ∀ a ∈ xs, ∃ env', tg.store (enc a) (wipeE env own) = some env' ∧ it2.evi P env' S = .ok ((ys a).map enc2) S ∧ ∀ b ∈ ys a, ∃ env'', tg2.store (enc2 b) (wipeE env' own2) = some env'' ∧ elt.ev P false env'' S = .ok (g a b) S)
    (hl : ((xs.map fun a => (ys a).map (g a)).flatten).length ≤ lim) :
    (Ex.lc2 elt tg it tg2 it2 .no own own2).ev P false env S = .ok (.lst ((xs.map fun a => (ys a).map (g a)).flatten)) S := by
  show (It.evi P it env S).bind _ = _
  rw [hi]
  show (loopL2 (xs.map enc) (turn2F tg own (it2.evi P) (fun items env acc S => loopL items (turnF tg2 own2 yesF (elt.ev P false) env) acc S) env) [] S).bind short = _
  rw [plL2_ok (g := fun a => (ys a).map (g a)) fun a ha acc => ?_]
  · show short _ S = _
    rw [List.nil_append]
    unfold short
    rw [if_pos hl]
  · obtain ⟨env', h1, h2, h3⟩ := ht a ha
    unfold turn2F
    rw [h1]
    show (It.evi P it2 env' S).bind _ = _
    rw [h2]
    show loopL ((ys a).map enc2) _ acc S = _
    rw [plL_ok (p := fun _ => true) (g := g a) fun b hb => ?_]
    · rw [List.filter_eq_self.mpr fun _ _ => rfl]
    · obtain ⟨env'', q1, q2⟩ := h3 b hb
      rw [turnF_at _ _ q1]
      show onB (.bl true) ((elt.ev P false env'' S).bind _) (.ok none S) = _
      rw [onB_bl, if_pos rfl, q2]; rfl
end
/-! builtins -/
theorem trus_bl {α : Type} (xs : List α) (p : α → Bool) : trusD (xs.map fun a => .bl (p a)) = some (xs.map p) := by
  induction xs with
  | nil => rfl
  | cons a xs ih => rw [List.map_cons]; unfold trusD; rw [ih]; rfl
theorem bi_all {α : Type} (xs : List α) (p : α → Bool) : biD .all [.lst (xs.map fun a => .bl (p a))] = some (.bl (xs.all p)) := by
  show ((some (xs.map fun a => D.bl (p a))).bind trusD).map _ = _
  show (trusD (xs.map fun a => D.bl (p a))).map (fun bs => D.bl (bs.all id)) = _
  rw [trus_bl]
  show some (D.bl ((xs.map p).all id)) = _
  rw [List.all_map]; rfl
theorem bi_any {α : Type} (xs : List α) (p : α → Bool) : biD .any [.lst (xs.map fun a => .bl (p a))] = some (.bl (xs.any p)) := by
  show (trusD (xs.map fun a => D.bl (p a))).map (fun bs => D.bl (bs.any id)) = _
  rw [trus_bl]
  show some (D.bl ((xs.map p).any id)) = _
  rw [List.any_map]; rfl
theorem bi_sort_I (l : List Nat) : biD .sorted [.lst (l.map I)] = some (.lst ((l.mergeSort natLe).map I)) := by
  show ((some (l.map I)).bind sortD).map D.lst = _
  show (sortD (l.map I)).map D.lst = _
  rw [sort_I]; rfl
theorem bi_sort_N (l : List Nat) : biD .sorted [.dct false (ents kN1 l)] = some (.lst ((l.mergeSort natLe).map I)) := by
  show (sortD (keysD (ents kN1 l))).map D.lst = _
  rw [keys_N, sort_I]; rfl
theorem bi_sort_lots (l : List (List Nat)) : biD .sorted [.lst (l.map lotD)] = some (.lst ((l.mergeSort lotLe).map lotD)) := by
  show (sortD (l.map lotD)).map D.lst = _
  rw [sort_lots]; rfl
theorem bi_sort_L (l : List (List Nat)) : biD .sorted [.dct true (ents kL l)] = some (.lst ((l.mergeSort lotLe).map lotD)) := by
  show (sortD (keysD (ents kL l))).map D.lst = _
  rw [keys_L, sort_lots]; rfl
theorem natLe_trans (a b c : Nat) (h1 : natLe a b = true) (h2 : natLe b c = true) : natLe a c = true := by
  unfold natLe at *
  rw [decide_eq_true_eq] at *
  omega
theorem natLe_total (a b : Nat) : (natLe a b || natLe b a) = true := by
  unfold natLe
  rw [Bool.or_eq_true, decide_eq_true_eq, decide_eq_true_eq]
  omega
/-- ascending lists with the same members are one -/
theorem sorted_one {l m : List Nat} (h1 : l.Pairwise (· < ·)) (h2 : m.Pairwise (· < ·)) (h : ∀ a, a ∈ l ↔ a ∈ m) : l = m := by
  have n1 : l.Nodup := h1.imp fun a b => by omega
  have n2 : m.Nodup := h2.imp fun a b => by omega
  exact List.Perm.eq_of_pairwise (le := fun a b => a < b) (fun a b _ _ h1 h2 => by omega) h1 h2 ((List.perm_ext_iff_of_nodup n1 n2).mpr h)
theorem range_up (n : Nat) : (List.range n).Pairwise (· < ·) := List.pairwise_lt_range
/-- sorting what has no two alike -/
theorem mergeSort_up {l : List Nat} (h : l.Nodup) : (l.mergeSort natLe).Pairwise (· < ·) := by
  have h1 := List.pairwise_mergeSort natLe_trans natLe_total l
  have h2 : (l.mergeSort natLe).Nodup := (List.mergeSort_perm l natLe).nodup_iff.mpr h
  rw [List.pairwise_iff_getElem] at h1 ⊢
  intro i j hi hj hij
  have q : (l.mergeSort natLe)[i] ≤ (l.mergeSort natLe)[j] := of_decide_eq_true (h1 i j hi hj hij)
  have ne : (l.mergeSort natLe)[i] ≠ (l.mergeSort natLe)[j] := fun e => by
    have := (List.getElem_inj h2).mp e
    omega
  omega
theorem sorted_self {l : List Nat} (h : l.Pairwise (· < ·)) : l.mergeSort natLe = l :=
  List.mergeSort_of_pairwise (h.imp fun {a b} q => decide_eq_true (by omega))
@[simp] theorem tru_bl (b : Bool) : tru (.bl b) = some b := id rfl
@[simp] theorem tru_int (i : Int) : tru (.int i) = some (i != 0) := id rfl
@[simp] theorem tru_lst (xs : List D) : tru (.lst xs) = some (!xs.isEmpty) := id rfl
@[simp] theorem tru_tup (xs : List D) : tru (.tup xs) = some (!xs.isEmpty) := id rfl
@[simp] theorem dr_lot (S : List D) (l : List Nat) : dr S (lotD l) = some (lotD l) := id rfl
@[simp] theorem bi_list_lot (l : List Nat) : biD .list [lotD l] = some (.lst (l.map I)) := id rfl
@[simp] theorem bi_list_lst (l : List D) : biD .list [.lst l] = some (.lst l) := id rfl
@[simp] theorem bi_list_tup (l : List D) : biD .list [.tup l] = some (.lst l) := id rfl
@[simp] theorem bi_list_N (nk : Bool) (l : List (Ky × D)) : biD .list [.dct nk l] = some (.lst (keysD l)) := id rfl
@[simp] theorem bi_tuple_lst (l : List D) : biD .tuple [.lst l] = some (.tup l) := id rfl
@[simp] theorem bi_tuple_tup (l : List D) : biD .tuple [.tup l] = some (.tup l) := id rfl
@[simp] theorem bi_len_lst (l : List D) : biD .len [.lst l] = some (.int l.length) := id rfl
@[simp] theorem bi_len_tup (l : List D) : biD .len [.tup l] = some (.int l.length) := id rfl
@[simp] theorem bi_len_lot (l : List Nat) : biD .len [lotD l] = some (.int l.length) := by show some (D.int ((l.map I).length : Nat)) = _; rw [List.length_map]
@[simp] theorem bi_len_dct {α : Type} (nk : Bool) (kenc : α → Ky) (l : List α) : biD .len [.dct nk (ents kenc l)] = some (.int l.length) := by
  show some (D.int ((keysD (ents kenc l)).length : Nat)) = _
  unfold keysD ents
  rw [List.length_map, List.length_map]
@[simp] theorem bi_int (i : Int) : biD .int [.int i] = some (.int i) := id rfl
@[simp] theorem bi_abs (i : Int) : biD .abs [.int i] = some (.int (if i < 0 then -i else i)) := id rfl
@[simp] theorem bi_all' {α : Type} (xs : List α) (p : α → Bool) : biD .all [.lst (xs.map fun a => .bl (p a))] = some (.bl (xs.all p)) := bi_all xs p
@[simp] theorem bi_any' {α : Type} (xs : List α) (p : α → Bool) : biD .any [.lst (xs.map fun a => .bl (p a))] = some (.bl (xs.any p)) := bi_any xs p
@[simp] theorem bi_sorted_I (l : List Nat) : biD .sorted [.lst (l.map I)] = some (.lst ((l.mergeSort natLe).map I)) := bi_sort_I l
@[simp] theorem bi_sorted_N (l : List Nat) : biD .sorted [.dct false (ents kN1 l)] = some (.lst ((l.mergeSort natLe).map I)) := bi_sort_N l
@[simp] theorem bi_sorted_lots (l : List (List Nat)) : biD .sorted [.lst (l.map lotD)] = some (.lst ((l.mergeSort lotLe).map lotD)) := bi_sort_lots l
@[simp] theorem bi_sorted_L (l : List (List Nat)) : biD .sorted [.dct true (ents kL l)] = some (.lst ((l.mergeSort lotLe).map lotD)) := bi_sort_L l
@[simp] theorem cmp_lt (i j : Int) : cmpD .lt (.int i) (.int j) = some (decide (i < j)) := id rfl
@[simp] theorem cmp_le (i j : Int) : cmpD .le (.int i) (.int j) = some (decide (i ≤ j)) := id rfl
@[simp] theorem cmp_gt (i j : Int) : cmpD .gt (.int i) (.int j) = some (decide (j < i)) := id rfl
@[simp] theorem cmp_ge (i j : Int) : cmpD .ge (.int i) (.int j) = some (decide (j ≤ i)) := id rfl
@[simp] theorem cmp_eq (a b : D) : cmpD .eq a b = eqD a b := by cases a <;> cases b <;> rfl
@[simp] theorem cmp_ne (a b : D) : cmpD .ne a b = (eqD a b).map (!·) := by cases a <;> cases b <;> rfl
@[simp] theorem cmp_in (a b : D) : cmpD .in_ a b = inD a b := by cases a <;> cases b <;> rfl
@[simp] theorem cmp_notIn (a b : D) : cmpD .notIn a b = (inD a b).map (!·) := by cases a <;> cases b <;> rfl
@[simp] theorem eq_int' (i j : Int) : eqD (.int i) (.int j) = some (decide (i = j)) := eq_int i j
@[simp] theorem eq_bl' (i j : Bool) : eqD (.bl i) (.bl j) = some (i == j) := eq_bl i j
@[simp] theorem eq_Is' (l m : List Nat) : eqD (.lst (l.map I)) (.lst (m.map I)) = some (decide (l = m)) := eq_Is l m
@[simp] theorem eq_lots' (l m : List (List Nat)) : eqD (.lst (l.map lotD)) (.lst (m.map lotD)) = some (decide (l = m)) := eq_lots l m
@[simp] theorem eq_lot' (l m : List Nat) : eqD (lotD l) (lotD m) = some (decide (l = m)) := eq_lot l m
@[simp] theorem in_lot' (n : Nat) (l : List Nat) : inD (.int n) (lotD l) = some (decide (n ∈ l)) := in_lot n l
@[simp] theorem in_Is' (n : Nat) (l : List Nat) : inD (.int n) (.lst (l.map I)) = some (decide (n ∈ l)) := in_Is n l
@[simp] theorem I_int (n : Nat) : I n = .int n := id rfl
@[simp] theorem bin_add (i j : Int) : binD .add (.int i) (.int j) = some (.int (i + j)) := id rfl
@[simp] theorem bin_sub (i j : Int) : binD .sub (.int i) (.int j) = some (.int (i - j)) := id rfl
theorem lot_eq (l : List Nat) : .tup (l.map I) = lotD l := rfl
theorem e_seqLot {P : Prg} {env : Env} {S : List D} {a : Ex} {l : List Nat} (h : a.ev P false env S = .ok (lotD l) S) : (It.seq a).evi P env S = .ok (l.map I) S := e_seqT h
section
variable {P : Prg} {env : Env} {S S' : List D}
theorem atK_own {i d : Nat} {v : D} {k : D → Bool} (h : env[i]? = some (.own d v)) (hk : k v = true) : atK env S i k = true := by
  unfold atK; rw [h]; exact hk
/-- x.append(e) -/
theorem s_app {i d : Nat} {e : Ex} {xs : List D} {y : D} (h : env[i]? = some (.own d (.lst xs))) (he : e.ev P false env S = .ok y S') (hl : xs.length < lim) : (St.app i d e).go P env S = .ok (.nx, env.set i (.own d (.lst (xs ++ [y])))) S' := by
  rw [go_app]
  unfold appF
  rw [gdF_at, if_pos (atK_own h rfl), he, Res.bind_ok]
  unfold chg
  rw [h]
  show chgR (if d = d then _ else _) = _
  rw [if_pos rfl]
  unfold appD
  dsimp only
  rw [if_pos hl]
  rfl
/-- x.extend(e) -/
theorem s_ext' {i : Nat} {e : Ex} {xs ys : List D} (h : env[i]? = some (.own 1 (.lst xs))) (he : e.ev P false env S = .ok (.lst ys) S') (hl : xs.length + ys.length ≤ lim) : (St.ext i e).go P env S = .ok (.nx, env.set i (.own 1 (.lst (xs ++ ys)))) S' := by
  rw [go_ext]
  unfold extF
  rw [gdF_at, if_pos (atK_own h rfl), he, Res.bind_ok]
  unfold chg
  rw [h]
  show chgR (if 1 = 1 then _ else _) = _
  rw [if_pos rfl]
  unfold extD
  dsimp only
  rw [if_pos hl]
  rfl
theorem bin_lst {xs ys : List D} (hl : xs.length + ys.length ≤ lim) : binD .add (.lst xs) (.lst ys) = some (.lst (xs ++ ys)) := by
  show (if xs.length + ys.length ≤ lim then some (D.lst (xs ++ ys)) else none) = _
  rw [if_pos hl]
theorem bin_tup {xs ys : List D} (hl : xs.length + ys.length ≤ lim) : binD .add (.tup xs) (.tup ys) = some (.tup (xs ++ ys)) := by
  show (if xs.length + ys.length ≤ lim then some (D.tup (xs ++ ys)) else none) = _
  rw [if_pos hl]
theorem bin_mulN {i j : Nat} (h : i < 2 ^ 64) : binD .mul (.int i) (.int j) = some (.int (i * j : Nat)) := by
  show (if mulOk i j then some (D.int (i * j)) else none) = _
  have : mulOk (i : Int) (j : Int) = true := by unfold mulOk; simp; left; exact h
  rw [if_pos this]
  simp
end
end BP
end

section
set_option autoImplicit false
set_option linter.all false
set_option maxRecDepth 3000
/-! PL4: loops that look for a fault; flags of flags. -/
namespace BP
open PySem

section
variable {α β : Type} {P : Prg} {env : Env} {S : List D}
/-- a loop that returns False at the first fault -/
theorem w_forAll {tg : Tg} {it : It} {b : Sts} {Q : Fl × Env → List D → Prop} (xs : List α) (enc : α → D) (ok : α → Bool) (Sh : Env → Prop) (hi : it.evi P env S = .ok (xs.map enc) S) (h0 : Sh env)
    (hs : ∀ a, a ∈ xs → ∀ env, Sh env → ∃ env', tg.store (enc a) env = some env' ∧ Ok (b.go P env' S) fun p S' => S' = S ∧ ((ok a = true ∧ p.1 = .nx ∧ Sh p.2) ∨ (ok a = false ∧ p.1 = .rt (.bl false))))
    (h1 : xs.all ok = true → ∀ env, Sh env → Q (.nx, env) S) (h2 : xs.all ok = false → ∀ env, Q (.rt (.bl false), env) S) : Ok ((St.for_ tg it b).go P env S) Q := by
  refine w_for xs enc (fun rest env S' => S' = S ∧ Sh env ∧ (∃ done, xs = done ++ rest ∧ done.all ok = true)) hi ⟨rfl, h0, [], rfl, rfl⟩ (fun a r env S' ⟨e, hsh, done, hd, hall⟩ => ?_) fun env S' ⟨e, hsh, done, hd, hall⟩ => ?_
  · subst e
    obtain ⟨env', e1, h⟩ := hs a (by rw [hd]; simp) env hsh
    refine ⟨env', e1, h.mono fun p S'' ⟨e, q⟩ => ?_⟩
    subst e
    obtain ⟨fl, env2⟩ := p
    rcases q with ⟨q1, q2, q3⟩ | ⟨q1, q2⟩
    · simp only at q2 q3
      subst q2
      exact ⟨rfl, q3, done ++ [a], by rw [hd]; simp, by rw [List.all_append, hall]; simp [q1]⟩
    · simp only at q2
      subst q2
      refine h2 ?_ env2
      rw [hd, List.all_append, List.all_cons, q1]
      simp
  · subst e
    rw [List.append_nil] at hd
    subst hd
    exact h1 hall env hsh
theorem all_flatten (xs : List α) (ys : α → List β) (p : α → β → Bool) : biD .all [.lst ((xs.map fun a => (ys a).map fun b => D.bl (p a b)).flatten)] = some (.bl (xs.all fun a => (ys a).all (p a))) := by
  have e : (xs.map fun a => (ys a).map fun b => D.bl (p a b)).flatten = ((xs.map fun a => (ys a).map (p a)).flatten).map D.bl := by
    rw [List.map_flatten, List.map_map]
    congr 1
    refine List.map_congr_left fun a _ => ?_
    show _ = ((ys a).map (p a)).map D.bl
    rw [List.map_map]; rfl
  have := bi_all ((xs.map fun a => (ys a).map (p a)).flatten) id
  rw [e]
  rw [show (fun a => D.bl (id a)) = D.bl from rfl] at this
  rw [this, List.all_flatten, List.all_map]
  congr 3
  funext a
  show (List.map (p a) (ys a)).all id = _
  rw [List.all_map]; rfl
end
def Bs (bs : List Bool) : D := .lst (bs.map .bl)
theorem pys_bs (bs : List Bool) : D.pys (bs.map .bl) = some (bs.map .bool) := by
  induction bs with
  | nil => rfl
  | cons a l ih => rw [List.map_cons]; unfold D.pys; rw [ih]; rfl
theorem eq_Bs (as bs : List Bool) : eqD (.lst (as.map .bl)) (.lst (bs.map .bl)) = some (decide (as = bs)) := by
  have e : ∀ l : List Bool, (D.lst (l.map .bl)).py = some (.list (l.map .bool)) := fun l => by
    show (D.pys (l.map .bl)).map PyData.list = _
    rw [pys_bs]; rfl
  have lay : ∀ l : List Bool, PyData.canLayAll0 (l.map .bool) = true := fun l => by
    induction l with
    | nil => rw [List.map_nil, PyData.canLayAll0]
    | cons a l ih => rw [List.map_cons, PyData.canLayAll0, ih]; simp [PyData.canLay0]
  have dep : ∀ l : List Bool, PyData.depthAll (l.map .bool) = 0 := fun l => by
    induction l with
    | nil => rw [List.map_nil, PyData.depthAll]
    | cons a l ih => rw [List.map_cons, PyData.depthAll, ih]; simp [PyData.depth]
  have shp : ∀ l : List Bool, SeqAt.shaped (.list (l.map .bool)) = true := fun l => by unfold SeqAt.shaped; rw [PyData.canLay0, lay, PyData.depth, dep]; rfl
  have eqv : ∀ l m : List Bool, PyData.eqvAll (l.map .bool) (m.map .bool) = decide (l = m) := by
    intro l
    induction l with
    | nil => intro m; cases m <;> simp [PyData.eqvAll]
    | cons a l ih =>
      intro m
      cases m with
      | nil => simp [PyData.eqvAll]
      | cons b m =>
        rw [List.map_cons, List.map_cons, PyData.eqvAll, ih, PyData.eqv]
        by_cases h : a = b <;> by_cases h2 : l = m <;> simp [h, h2]
  unfold eqD; rw [e, e]
  show (if (SeqAt.shaped (.list (as.map .bool)) && SeqAt.shaped (.list (bs.map .bool))) = true then _ else _) = _
  rw [shp, shp, PyData.eqv, eqv]; rfl
section
variable {P : Prg} {env : Env} {S S' S'' : List D}
theorem setI_go (i d : Nat) (ke ve : Ex) : (St.setI i d ke ve).go P env S = if atK env S i D.cont then ((ve.ev P false env S).bind fun v S => (ke.ev P false env S).bind fun k S => chgR (chg env S i d (fun c => setD c k v))) else .stuck := rfl
/-- d[k] = v -/
theorem s_setD {i : Nat} {ke ve : Ex} {nk : Bool} {kvs : List (Ky × D)} {v kd : D} {k : Ky} (h : env[i]? = some (.own 1 (.dct nk kvs))) (hv : ve.ev P false env S = .ok v S') (hk : ke.ev P false env S' = .ok kd S'') (e : kd.ky nk = some k) (hl : kvs.length < lim) :
    (St.setI i 1 ke ve).go P env S = .ok (.nx, env.set i (.own 1 (.dct nk (dput kvs k v)))) S'' := by
  rw [setI_go, if_pos (atK_own h rfl), hv, Res.bind_ok, hk, Res.bind_ok]
  unfold chg
  rw [h]
  show chgR (if 1 = 1 then _ else _) = _
  rw [if_pos rfl]
  unfold setD
  dsimp only
  rw [if_pos hl, e]
  rfl
theorem ixI_nat {n j : Nat} (h : j < n) : ixI n (j : Int) = some j := by
  unfold ixI
  rw [if_pos (by omega), if_pos (by omega)]
  simp
/-- xs[j] = v -/
theorem s_setL {i d : Nat} {ke ve : Ex} {xs : List D} {v : D} {j : Nat} (h : env[i]? = some (.own d (.lst xs))) (hv : ve.ev P false env S = .ok v S') (hk : ke.ev P false env S' = .ok (.int j) S'') (hj : j < xs.length) :
    (St.setI i d ke ve).go P env S = .ok (.nx, env.set i (.own d (.lst (xs.set j v)))) S'' := by
  rw [setI_go, if_pos (atK_own h rfl), hv, Res.bind_ok, hk, Res.bind_ok]
  unfold chg
  rw [h]
  show chgR (if d = d then _ else _) = _
  rw [if_pos rfl]
  unfold setD
  dsimp only
  rw [ixI_nat hj]
  rfl
/-- .. of a shared list -/
theorem s_setR {i c : Nat} {ke ve : Ex} {xs ys : List D} {v : D} {j : Nat} (h : env[i]? = some (.val (.ref c))) (h0 : S[c]? = some (.lst xs)) (hv : ve.ev P false env S = .ok v S') (hk : ke.ev P false env S' = .ok (.int j) S'') (h1 : S''[c]? = some (.lst ys)) (hj : j < ys.length) :
    (St.setI i 1 ke ve).go P env S = .ok (.nx, env) (S''.set c (.lst (ys.set j v))) := by
  have ha : atK env S i D.cont = true := by
    unfold atK; rw [h]
    show (S[c]?).any D.cont = true
    rw [h0]; rfl
  rw [setI_go, if_pos ha, hv, Res.bind_ok, hk, Res.bind_ok]
  unfold chg
  rw [h]
  show chgR (if 1 = 1 then _ else _) = _
  rw [if_pos rfl, h1]
  show chgR (((setD (.lst ys) (.int j) v)).map _) = _
  unfold setD
  dsimp only
  rw [ixI_nat hj]
  rfl
end
end BP
end

section
set_option autoImplicit false
set_option linter.all false
set_option maxRecDepth 3000
/-! PL5: tests and statements, by what they come to. -/
namespace BP
open PySem
section
variable {P : Prg} {env : Env} {S S' S'' : List D} {Q : Fl × Env → List D → Prop}
theorem w_cons {s : St} {r : Sts} (h : Ok (s.go P env S) fun p S' => match p.1 with
    | .nx => Ok (r.go P p.2 S') Q
    | _ => Q p S') : Ok ((Sts.cons s r).go P env S) Q := by
  rw [go_cons, seqS_at, Ok_bind]
  refine h.mono fun p S' q => ?_
  obtain ⟨fl, env'⟩ := p
  cases fl <;> exact q
theorem w_nil (h : Q (.nx, env) S) : Ok (Sts.nil.go P env S) Q := h
theorem w_ite {c : Ex} {a b : Sts} {v : Bool} (h : c.ev P true env S = .ok (.bl v) S') (h1 : v = true → Ok (a.go P env S') Q) (h2 : v = false → Ok (b.go P env S') Q) : Ok ((St.ite c a b).go P env S) Q := by
  rw [go_ite, iteF_eq, h, Res.bind_ok, onB_bl]
  cases v with
  | true => exact h1 rfl
  | false => exact h2 rfl
theorem w_ret {e : Ex} {v : D} (h : e.ev P false env S = .ok v S') (hq : Q (.rt v, env) S') : Ok ((St.ret e).go P env S) Q := by
  rw [go_ret, retF_at, h]; exact hq
theorem w_asg {i d : Nat} {e : Ex} {v : D} (h : e.ev P false env S = .ok v S') (hq : Q (.nx, env.set i (mkSlot d v)) S') : Ok ((St.asg i d e).go P env S) Q := by
  rw [go_asg, asgF_at, h]; exact hq
theorem w_st {s : St} {env' : Env} (h : s.go P env S = .ok (.nx, env') S') (hq : Q (.nx, env') S') : Ok (s.go P env S) Q := by rw [h]; exact hq
theorem w_par {is ds : List Nat} {es : Exs} {vs : List D} {env' : Env} (h : es.evs P env S = .ok vs S') (hs : setAll is ds vs env = some env') (hq : Q (.nx, env') S') : Ok ((St.par is ds es).go P env S) Q := by
  rw [go_par, parF_at, h, Res.bind_ok, hs]; exact hq
theorem w_unp {tg : Tg} {e : Ex} {v : D} {env' : Env} (h : e.ev P false env S = .ok v S') (hs : tg.store v env = some env') (hq : Q (.nx, env') S') : Ok ((St.unp tg e).go P env S) Q := by
  rw [go_unp, unpF_at, h, Res.bind_ok, hs]; exact hq
theorem w_frz {i d : Nat} {v : D} (h : env[i]? = some (.own d v)) (hq : Q (.nx, env.set i (.val v)) S) : Ok ((St.frz i).go P env S) Q := by
  rw [go_frz, frzF_at, h]; exact hq
theorem w_ex {e : Ex} {v : D} (h : e.ev P false env S = .ok v S') (hq : Q (.nx, env) S') : Ok ((St.ex e).go P env S) Q := by
  rw [go_ex, exF_at, h]; exact hq
/-! expressions -/
theorem e_not {t : Bool} {a : Ex} {v : Bool} (h : a.ev P t env S = .ok (.bl v) S') : (Ex.not a).ev P t env S = .ok (.bl (!v)) S' := by
  rw [ev_not, notF_bl, h]; rfl
theorem e_and {t : Bool} {a b : Ex} {v w : Bool} (h : a.ev P t env S = .ok (.bl v) S') (h2 : v = true → b.ev P t env S' = .ok (.bl w) S') : (Ex.and a b).ev P t env S = .ok (.bl (v && w)) S' := by
  rw [ev_and, andF_eq, h, Res.bind_ok, onB_bl]
  cases v with
  | true => exact h2 rfl
  | false => rfl
theorem e_or {t : Bool} {a b : Ex} {v w : Bool} (h : a.ev P t env S = .ok (.bl v) S') (h2 : v = false → b.ev P t env S' = .ok (.bl w) S') : (Ex.or a b).ev P t env S = .ok (.bl (v || w)) S' := by
  rw [ev_or, orF_eq, h, Res.bind_ok, onB_bl]
  cases v with
  | true => rfl
  | false => exact h2 rfl
theorem truF_ok {f : EF} {b : Bool} (h : f env S = .ok (.bl b) S') : finF true f env S = .ok (.bl b) S' := by
  rw [finF_t, truF_at, h]; rfl
theorem t_bi {bb : Bi} {as : Exs} {b : Bool} (h : (Ex.bi bb as).ev P false env S = .ok (.bl b) S') : (Ex.bi bb as).ev P true env S = .ok (.bl b) S' := by
  rw [ev_bi] at h ⊢; exact truF_ok h
theorem t_call {f : Nat} {as : Exs} {b : Bool} (h : (Ex.call f as).ev P false env S = .ok (.bl b) S') : (Ex.call f as).ev P true env S = .ok (.bl b) S' := by
  rw [ev_call] at h ⊢; exact truF_ok h
theorem t_idx {a i : Ex} {b : Bool} (h : (Ex.idx a i).ev P false env S = .ok (.bl b) S') : (Ex.idx a i).ev P true env S = .ok (.bl b) S' := by
  rw [ev_idx] at h ⊢; exact truF_ok h
theorem e_bi1 {bb : Bi} {a : Ex} {x y z : D} (h : a.ev P false env S = .ok x S') (hd : dr S' x = some y) (hb : biD bb [y] = some z) : (Ex.bi bb (.cons a .nil)).ev P false env S = .ok z S' := by
  rw [ev_bi, finF_f, biF_at, evs_cons, evs_nil, consF_at, h, Res.bind_ok, nilF_at, Res.bind_ok, Res.bind_ok]
  show Res.opt ((((dr S' x).bind fun a => some [a])).bind fun vs => biD bb vs) S' = _
  rw [hd]
  show Res.opt (biD bb [y]) S' = _
  rw [hb]; rfl
theorem e_call1 {f : Nat} {a : Ex} {x y : D} (h : a.ev P false env S = .ok x S') (hr : P.run f [x] S' = .ok y S'') : (Ex.call f (.cons a .nil)).ev P false env S = .ok y S'' := by
  rw [ev_call, finF_f, callF_at, evs_cons, evs_nil, consF_at, h, Res.bind_ok, nilF_at, Res.bind_ok, Res.bind_ok]
  exact hr
theorem e_call2 {f : Nat} {a b : Ex} {x y z : D} {S3 : List D} (h : a.ev P false env S = .ok x S') (h2 : b.ev P false env S' = .ok y S'') (hr : P.run f [x, y] S'' = .ok z S3) : (Ex.call f (.cons a (.cons b .nil))).ev P false env S = .ok z S3 := by
  rw [ev_call, finF_f, callF_at, evs_cons, evs_cons, evs_nil, consF_at, h, Res.bind_ok, consF_at, h2, Res.bind_ok, nilF_at, Res.bind_ok, Res.bind_ok, Res.bind_ok]
  exact hr
theorem e_all {α : Type} {a : Ex} {xs : List α} {p : α → Bool} (h : a.ev P false env S = .ok (.lst (xs.map fun x => .bl (p x))) S) : (Ex.bi .all (.cons a .nil)).ev P false env S = .ok (.bl (xs.all p)) S := e_bi1 h rfl (bi_all xs p)
theorem e_any {α : Type} {a : Ex} {xs : List α} {p : α → Bool} (h : a.ev P false env S = .ok (.lst (xs.map fun x => .bl (p x))) S) : (Ex.bi .any (.cons a .nil)).ev P false env S = .ok (.bl (xs.any p)) S := e_bi1 h rfl (bi_any xs p)
theorem e_all2 {α β : Type} {a : Ex} {xs : List α} {ys : α → List β} {p : α → β → Bool} (h : a.ev P false env S = .ok (.lst ((xs.map fun a => (ys a).map fun b => D.bl (p a b)).flatten)) S) : (Ex.bi .all (.cons a .nil)).ev P false env S = .ok (.bl (xs.all fun a => (ys a).all (p a))) S := e_bi1 h rfl (all_flatten xs ys p)
theorem e_var {i : Nat} {v : D} (h : env[i]? = some (.val v)) : (Ex.var i).ev P false env S = .ok v S := by rw [ev_var, finF_f, varF_at, h]
theorem e_in {t : Bool} {a b : Ex} {x y x' y' : D} {v : Bool} (h : a.ev P false env S = .ok x S') (h2 : b.ev P false env S' = .ok y S'') (d1 : dr S'' x = some x') (d2 : dr S'' y = some y') (hv : inD x' y' = some v) : (Ex.cmp .in_ a b).ev P t env S = .ok (.bl v) S'' := by
  rw [ev_cmp, cmpF_at, h, Res.bind_ok, h2, Res.bind_ok, d1, d2]
  show Res.opt ((cmpD .in_ x' y').map D.bl) S'' = _
  rw [cmp_in, hv]; rfl
theorem e_bin {o : Bop} {a b : Ex} {x y x' y' v : D} (h : a.ev P false env S = .ok x S') (h2 : b.ev P false env S' = .ok y S'') (d1 : dr S'' x = some x') (d2 : dr S'' y = some y') (hv : binD o x' y' = some v) : (Ex.bin o a b).ev P false env S = .ok v S'' := by
  rw [ev_bin, finF_f, binF_at, h, Res.bind_ok, h2, Res.bind_ok, d1, d2]
  show Res.opt (binD o x' y') S'' = _
  rw [hv]; rfl
theorem e_cmp {o : Cop} {t : Bool} {a b : Ex} {x y x' y' : D} {v : Bool} (h : a.ev P false env S = .ok x S') (h2 : b.ev P false env S' = .ok y S'') (d1 : dr S'' x = some x') (d2 : dr S'' y = some y') (hv : cmpD o x' y' = some v) : (Ex.cmp o a b).ev P t env S = .ok (.bl v) S'' := by
  rw [ev_cmp, cmpF_at, h, Res.bind_ok, h2, Res.bind_ok, d1, d2]
  show Res.opt ((cmpD o x' y').map D.bl) S'' = _
  rw [hv]; rfl
theorem e_idx {a b : Ex} {x y x' v : D} (h : a.ev P false env S = .ok x S') (h2 : b.ev P false env S' = .ok y S'') (d1 : dr S'' x = some x') (hv : idxD x' y = some v) : (Ex.idx a b).ev P false env S = .ok v S'' := by
  rw [ev_idx, finF_f, idxF_at, h, Res.bind_ok, h2, Res.bind_ok, d1]
  show Res.opt (idxD x' y) S'' = _
  rw [hv]; rfl
theorem e_tup0 : (Ex.tup .nil).ev P false env S = .ok (lotD []) S := by
  rw [ev_tup, finF_f, tupF_at, evs_nil, nilF_at, Res.bind_ok, if_pos (by decide)]; rfl
theorem e_tup1 {a : Ex} {x : D} (h : a.ev P false env S = .ok x S') : (Ex.tup (.cons a .nil)).ev P false env S = .ok (.tup [x]) S' := by
  rw [ev_tup, finF_f, tupF_at, evs_cons, evs_nil, consF_at, h, Res.bind_ok, nilF_at, Res.bind_ok, Res.bind_ok, if_pos (show [x].length ≤ lim from (by decide : 1 ≤ lim))]
theorem e_tup2 {a b : Ex} {x y : D} (h : a.ev P false env S = .ok x S') (h2 : b.ev P false env S' = .ok y S'') : (Ex.tup (.cons a (.cons b .nil))).ev P false env S = .ok (.tup [x, y]) S'' := by
  rw [ev_tup, finF_f, tupF_at, evs_cons, evs_cons, evs_nil, consF_at, h, Res.bind_ok, consF_at, h2, Res.bind_ok, nilF_at, Res.bind_ok, Res.bind_ok, Res.bind_ok, if_pos (show [x, y].length ≤ lim from (by decide : 2 ≤ lim))]
theorem e_evs1 {a : Ex} {x : D} (h : a.ev P false env S = .ok x S') : (Exs.cons a .nil).evs P env S = .ok [x] S' := by
  rw [evs_cons, evs_nil, consF_at, h, Res.bind_ok, nilF_at, Res.bind_ok]
theorem e_evsC {a : Ex} {r : Exs} {x : D} {xs : List D} (h : a.ev P false env S = .ok x S') (h2 : r.evs P env S' = .ok xs S'') : (Exs.cons a r).evs P env S = .ok (x :: xs) S'' := by
  rw [evs_cons, consF_at, h, Res.bind_ok, h2, Res.bind_ok]
theorem e_evs0 : Exs.nil.evs P env S = .ok [] S := by rw [evs_nil, nilF_at]
theorem e_lst {as : Exs} {xs : List D} (h : as.evs P env S = .ok xs S') (hl : xs.length ≤ lim) : (Ex.lst as).ev P false env S = .ok (.lst xs) S' := by
  rw [ev_lst, finF_f, lstF_at, h, Res.bind_ok, if_pos hl]
theorem e_tup {as : Exs} {xs : List D} (h : as.evs P env S = .ok xs S') (hl : xs.length ≤ lim) : (Ex.tup as).ev P false env S = .ok (.tup xs) S' := by
  rw [ev_tup, finF_f, tupF_at, h, Res.bind_ok, if_pos hl]
theorem e_call3 {f : Nat} {a b c : Ex} {x y z v : D} {S3 S4 : List D} (h : a.ev P false env S = .ok x S') (h2 : b.ev P false env S' = .ok y S'') (h3 : c.ev P false env S'' = .ok z S3) (hr : P.run f [x, y, z] S3 = .ok v S4) : (Ex.call f (.cons a (.cons b (.cons c .nil)))).ev P false env S = .ok v S4 := by
  rw [ev_call, finF_f, callF_at, e_evsC h (e_evsC h2 (e_evs1 h3)), Res.bind_ok]; exact hr
theorem e_sliceL {a b : Ex} {x x' v : D} {i : Int} (h : a.ev P false env S = .ok x S') (h2 : b.ev P false env S' = .ok (.int i) S'') (d1 : dr S'' x = some x') (hv : sliceD x' (some i) none = some v) : (Ex.slice a (.so b) .no).ev P false env S = .ok v S'' := by
  rw [ev_slice, finF_f, sliceF_at, h, Res.bind_ok, evo_so, oxF_at, h2, Res.bind_ok, Res.bind_ok, evo_no, noF_at, Res.bind_ok, d1]
  show Res.opt (sliceD x' (some i) none) S'' = _
  rw [hv]; rfl
theorem e_sliceH {a b : Ex} {x x' v : D} {i : Int} (h : a.ev P false env S = .ok x S') (h2 : b.ev P false env S' = .ok (.int i) S'') (d1 : dr S'' x = some x') (hv : sliceD x' none (some i) = some v) : (Ex.slice a .no (.so b)).ev P false env S = .ok v S'' := by
  rw [ev_slice, finF_f, sliceF_at, h, Res.bind_ok, evo_no, noF_at, Res.bind_ok, evo_so, oxF_at, h2, Res.bind_ok, Res.bind_ok, d1]
  show Res.opt (sliceD x' none (some i)) S'' = _
  rw [hv]; rfl
theorem e_fld {a : Ex} {c f : Nat} {x v : D} (h : a.ev P false env S = .ok x S') (hv : fldV c f x S' = .ok v S') : (Ex.fld a c f).ev P false env S = .ok v S' := by
  rw [ev_fld, finF_f, fldF_at, h, Res.bind_ok, hv]
theorem e_con {v : D} : (Ex.con v).ev P false env S = .ok v S := by rw [ev_con, finF_f, conF_at]
/-- whether lots share -/
def anyIn (l m : List Nat) : Bool := l.any fun x => decide (x ∈ m)
theorem anyIn_iff {l m : List Nat} : anyIn l m = true ↔ ∃ x ∈ l, x ∈ m := by
  unfold anyIn; rw [List.any_eq_true]; simp only [decide_eq_true_eq]
theorem e_anyIn {a b : Ex} {own : List Nat} {l m : List Nat} {i : Nat} (h1 : a.ev P false env S = .ok (lotD l) S)
    (h2 : ∀ x ∈ l, b.ev P false ((wipeE env own).set i (.val (.int (x : Nat)))) S = .ok (lotD m) S) (hi : i < (wipeE env own).length) (hl : l.length ≤ lim) :
    (Ex.bi .any (.cons (.lc (.cmp .in_ (.var i) b) (.name i) (.seq a) .no own) .nil)).ev P false env S = .ok (.bl (anyIn l m)) S := by
  refine e_any (e_lc0 l I (fun x => .bl (decide (x ∈ m))) (e_seqLot h1) (fun x hx => ⟨_, rfl, ?_⟩) hl)
  exact e_in (e_var (v := .int x) (by rw [List.getElem?_set]; simp [hi])) (h2 x hx) rfl rfl (in_lot x m)
end
end BP
end

section
set_option autoImplicit false
set_option linter.all false
set_option maxRecDepth 3000
/-! PL6: while, pops, comprehensions that change cells, changes two deep. -/
namespace BP
open PySem
section
variable {α : Type} {P : Prg} {env : Env} {S S' S'' : List D} {Q : Fl × Env → List D → Prop}
theorem w_whl {c : Ex} {b : Sts} (m : Nat) (I : Nat → Env → List D → Prop) {k : Nat} (hk : k < fuel) (h0 : I k env S)
    (hs : ∀ k env S, I k env S → ∃ v, c.ev P true env S = .ok (.bl v) S ∧ (v = false → Q (.nx, env) S) ∧ (v = true → Ok (b.go P env S) fun p S' => match p.1 with
      | .nx => ∃ j, j < k ∧ I j p.2 S'
      | .ct => ∃ j, j < k ∧ I j p.2 S'
      | .bk => Q (.nx, p.2) S'
      | .rt v => Q (.rt v, p.2) S')) : Ok ((St.whl c b).go P env S) Q := by
  rw [go_whl]
  refine whlL_wp 0 I (fun k env S h => ?_) hk h0
  obtain ⟨v, e, h1, h2⟩ := hs k env S h
  rw [e]
  cases v with
  | true => exact .inr ⟨rfl, h2 rfl⟩
  | false => exact .inl ⟨rfl, h1 rfl⟩
/-- found.append(left.pop(k)) -/
theorem w_sAppPop {i j : Nat} {ke : Ex} {xs ys : List D} {n : Nat} {x : D} (hi : env[i]? = some (.own 1 (.lst ys))) (hj : env[j]? = some (.own 1 (.lst xs))) (hij : i ≠ j) (hk : ke.ev P false env S = .ok (.int n) S') (hn : n < 1000000) (hx : xs[n]? = some x) (hl : ys.length < lim) :
    (St.appPop i j (.so ke)).go P env S = .ok (.nx, (env.set j (.own 1 (.lst (xs.eraseIdx n)))).set i (.own 1 (.lst (ys ++ [x])))) S' := by
  rw [go_appPop, gdF_at, if_pos (atK_own hi rfl)]
  unfold popF
  rw [gdF_at, if_pos (atK_own hj rfl), evo_so, oxF_at, hk, Res.bind_ok]
  have hlt : n < xs.length := (List.getElem?_eq_some_iff.mp hx).1
  have hp : pops env S' j (some (n : Int)) = some (x, env.set j (.own 1 (.lst (xs.eraseIdx n))), S') := by
    unfold pops
    rw [hj]
    show (if 1 = 1 then _ else _) = _
    rw [if_pos rfl]
    show ((if smallI n then (ixI xs.length n).bind _ else none)).map _ = _
    have hs : smallI (n : Int) = true := by
      rw [smallI_iff, decide_eq_true (by omega), decide_eq_true (by omega)]; rfl
    rw [if_pos hs, ixI_nat hlt]
    show ((xs[n]?).map _).map _ = _
    rw [hx]; rfl
  show (match pops env S' j (some (n : Int)) with | some (y, env, S) => chgR (chg env S i 1 (appD y)) | none => .stuck) = _
  rw [hp]
  show chgR (chg _ S' i 1 (appD x)) = _
  unfold chg
  have h2 : (env.set j (.own 1 (.lst (xs.eraseIdx n))))[i]? = some (.own 1 (.lst ys)) := by
    rw [List.getElem?_set_ne (Ne.symm hij)]; exact hi
  rw [h2]
  show chgR (if 1 = 1 then _ else _) = _
  rw [if_pos rfl]
  unfold appD
  dsimp only
  rw [if_pos hl]
  rfl
theorem e_peek {i d : Nat} {v : D} (h : env[i]? = some (.own d v)) : (Ex.peek i d).ev P false env S = .ok v S := by
  rw [ev_peek, finF_f, peekF_at, h]
  dsimp only
  rw [if_pos rfl]
/-- a comprehension on whose way cells change -/
theorem w_lc {elt : Ex} {tg : Tg} {it : It} {ifs : Ox} {own : List Nat} {R : D → List D → Prop} (xs : List α) (enc : α → D) (I : List α → List D → List D → Prop) (hi : it.evi P env S = .ok (xs.map enc) S') (h0 : I xs [] S')
    (ht : ∀ a r acc S, I (a :: r) acc S → ∃ env', tg.store (enc a) (wipeE env own) = some env' ∧ ∃ (v : Bool) (S' : List D), ifs.tvo P env' S = .ok (.bl v) S' ∧ (v = false → I r acc S') ∧ (v = true → ∃ y S'', elt.ev P false env' S' = .ok y S'' ∧ I r (acc ++ [y]) S''))
    (he : ∀ acc S, I [] acc S → acc.length ≤ lim ∧ R (.lst acc) S) :
    Ok ((Ex.lc elt tg it ifs own).ev P false env S) R := by
  show Ok ((It.evi P it env S).bind _) R
  rw [hi]
  show Ok ((loopL (xs.map enc) (turnF tg own (ifs.tvo P) (elt.ev P false) env) [] S').bind short) R
  rw [Ok_bind]
  refine loopL_wp I (fun a r acc S h => ?_) (fun acc S h => ?_) h0
  · obtain ⟨env', h1, v, S1, h2, h3, h4⟩ := ht a r acc S h
    rw [turnF_at _ _ h1, h2]
    show Ok (onB (.bl v) _ _) _
    rw [onB_bl]
    cases v with
    | true =>
      obtain ⟨y, S2, e, h5⟩ := h4 rfl
      rw [if_pos rfl, e]
      exact h5
    | false => exact h3 rfl
  · obtain ⟨h1, h2⟩ := he acc S h
    unfold short
    rw [if_pos h1]
    exact h2
theorem e_zipL {a b : Ex} {xs ys : List D} (h : a.ev P false env S = .ok (.lst xs) S') (h2 : b.ev P false env S' = .ok (.lst ys) S'') : (It.zip a b).evi P env S = .ok (zipL xs ys) S'' := by
  rw [evi_zip]
  unfold zipF
  rw [h, Res.bind_ok, h2, Res.bind_ok]
/-- x[j][k] = v -/
theorem w_sSetI2 {i j k : Nat} {je ke ve : Ex} {rows row : List D} {v : D} {S3 : List D} (h : env[i]? = some (.own 2 (.lst rows))) (hv : ve.ev P false env S = .ok v S') (hj : je.ev P false env S' = .ok (.int j) S'') (hk : ke.ev P false env S'' = .ok (.int k) S3) (hr : rows[j]? = some (.lst row)) (hl : k < row.length) :
    (St.setI2 i je ke ve).go P env S = .ok (.nx, env.set i (.own 2 (.lst (rows.set j (.lst (row.set k v)))))) S3 := by
  rw [go_setI2]
  unfold setI2F
  have hlt : j < rows.length := (List.getElem?_eq_some_iff.mp hr).1
  have hx : idxD (.lst rows) (.int j) = some (.lst row) := by
    show atD rows j = _
    unfold atD
    rw [ixI_nat hlt]; exact hr
  have hlook : lookS env S'' i (.int j) = some (.lst row) := by
    unfold lookS
    rw [h]; exact hx
  rw [gdF_at, if_pos (atK_own h rfl), hv, Res.bind_ok, hj, Res.bind_ok, hlook, Res.opt_some, Res.bind_ok, hk, Res.bind_ok]
  unfold chg
  rw [h]
  show chgR (if 2 = 2 then _ else _) = _
  rw [if_pos rfl]
  show chgR ((((idxD (.lst rows) (.int j)).bind fun x => (setD x (.int k) v).bind fun x => setD (.lst rows) (.int j) x)).map _) = _
  rw [hx]
  show chgR ((((setD (.lst row) (.int k) v).bind fun x => setD (.lst rows) (.int j) x)).map _) = _
  unfold setD
  dsimp only
  rw [ixI_nat hl]
  show chgR ((((ixI rows.length j).map fun j => D.lst (rows.set j _))).map _) = _
  rw [ixI_nat hlt]
  rfl
/-- a def's run, with what it leaves in the cells -/
theorem runs_at {F : Fn} {args : List D} {R : D → List D → Prop} (hl : args.length = F.np) (h : Ok (F.body.go P (args.map Slot.val ++ List.replicate (F.N.length - F.np) .no) S) fun p S' => S'.length ≤ S.length ∧ match p.1 with
    | .rt v => R v S'
    | .nx => R .non S'
    | _ => False) : Ok (F.runs P args S) R := runs_wp hl h
end
end BP
end

section
set_option autoImplicit false
set_option linter.all false
set_option maxRecDepth 3000
/-! PL7: pairs of lots: sorted, compared, as keys. -/
namespace BP
open PySem
abbrev LP := List Nat × List Nat
def pD (p : LP) : D := .tup [lotD p.1, lotD p.2]
def pP (p : LP) : PyData := .tuple [pL p.1, pL p.2]
theorem py_pD (p : LP) : (pD p).py = some (pP p) := by
  show (D.pys [lotD p.1, lotD p.2]).map PyData.tuple = _
  unfold D.pys
  rw [py_lot]
  unfold D.pys
  rw [py_lot]
  rfl
theorem pys_pairs (ps : List LP) : D.pys (ps.map pD) = some (ps.map pP) := by
  induction ps with
  | nil => rfl
  | cons a l ih => rw [List.map_cons]; unfold D.pys; rw [ih, py_pD]; rfl
theorem lay_P (p : LP) : PyData.canLay0 (pP p) = true := by
  unfold pP
  rw [PyData.canLay0, PyData.canLayAll0, PyData.canLayAll0, PyData.canLayAll0, lay_L, lay_L]; rfl
theorem dep_P (p : LP) : PyData.depth (pP p) = 2 := by
  unfold pP
  rw [PyData.depth, PyData.depthAll, PyData.depthAll, PyData.depthAll, dep_L, dep_L]; rfl
theorem lay_Ps (ps : List LP) : PyData.canLayAll0 (ps.map pP) = true := by
  induction ps with
  | nil => rw [List.map_nil, PyData.canLayAll0]
  | cons a l ih => rw [List.map_cons, PyData.canLayAll0, ih, lay_P]; rfl
theorem dep_Ps (ps : List LP) : PyData.depthAll (ps.map pP) ≤ 2 := by
  induction ps with
  | nil => rw [List.map_nil, PyData.depthAll]; exact Nat.zero_le _
  | cons a l ih => rw [List.map_cons, PyData.depthAll, dep_P]; omega
theorem shp_Ps (ps : List LP) : SeqAt.shaped (.list (ps.map pP)) = true := by
  unfold SeqAt.shaped; rw [PyData.canLay0, lay_Ps, PyData.depth]
  have := dep_Ps ps
  rw [decide_eq_true (by omega)]; rfl
theorem eqv_P (p q : LP) : PyData.eqv (pP p) (pP q) = decide (p = q) := by
  unfold pP
  rw [PyData.eqv, PyData.eqvAll, PyData.eqvAll, PyData.eqvAll, eqv_L, eqv_L]
  obtain ⟨a, b⟩ := p
  obtain ⟨c, d⟩ := q
  by_cases h : a = c <;> by_cases h2 : b = d <;> simp [h, h2]
theorem eqv_Ps : ∀ l m : List LP, PyData.eqvAll (l.map pP) (m.map pP) = decide (l = m)
  | [], [] => by simp [PyData.eqvAll]
  | [], _ :: _ => by simp [PyData.eqvAll]
  | _ :: _, [] => by simp [PyData.eqvAll]
  | a :: l, b :: m => by
    rw [List.map_cons, List.map_cons, PyData.eqvAll, eqv_Ps l m, eqv_P]
    by_cases h : a = b <;> by_cases h2 : l = m <;> simp [h, h2]
theorem eq_pairs (l m : List LP) : eqD (.lst (l.map pD)) (.lst (m.map pD)) = some (decide (l = m)) := by
  have e : ∀ l : List LP, (D.lst (l.map pD)).py = some (.list (l.map pP)) := fun l => by
    show (D.pys (l.map pD)).map PyData.list = _
    rw [pys_pairs]; rfl
  unfold eqD; rw [e, e]
  show (if (SeqAt.shaped (.list (l.map pP)) && SeqAt.shaped (.list (m.map pP))) = true then _ else _) = _
  rw [shp_Ps, shp_Ps, PyData.eqv, eqv_Ps]; rfl
/-! their order -/
def pLe (p q : LP) : Bool := if p.1 = q.1 then lotLe p.2 q.2 else lotLe p.1 q.1
theorem alike_L (a b : List Nat) : PySem.W.alike (pL a) (pL b) = true := by
  unfold pL; rw [PySem.W.alike]; exact alike_Is a b
theorem lotLe_refl (a : List Nat) : lotLe a a = true := by
  have := lotLe_total a a
  rwa [Bool.or_self] at this
theorem leD_pair (p q : LP) : leD (pD p) (pD q) = pLe p q := by
  unfold leD
  rw [py_pD, py_pD]
  show (!PySem.W.dataLt (pP q) (pP p)) = _
  unfold pP
  rw [PySem.W.dataLt_pair (alike_L _ _) (alike_L _ _), eqv_L, eqv_L]
  have h : ∀ a b : List Nat, (!PySem.W.dataLt (pL b) (pL a)) = lotLe a b := fun a b => by
    have := leD_lot a b
    unfold leD at this
    rw [py_lot, py_lot] at this
    exact this
  unfold pLe
  by_cases h1 : p.1 = q.1
  · rw [if_pos h1, if_pos (decide_eq_true h1.symm)]
    by_cases h2 : p.2 = q.2
    · rw [if_pos (decide_eq_true h2.symm), h2, lotLe_refl]; rfl
    · rw [if_neg (by rw [decide_eq_true_eq]; exact fun z => h2 z.symm), h]
  · rw [if_neg h1, if_neg (by rw [decide_eq_true_eq]; exact fun z => h1 z.symm), h]
theorem pLe_total (p q : LP) : (pLe p q || pLe q p) = true := by
  unfold pLe
  by_cases h : p.1 = q.1
  · rw [if_pos h, if_pos h.symm]; exact lotLe_total _ _
  · rw [if_neg h, if_neg (fun z => h z.symm)]; exact lotLe_total _ _
theorem pLe_trans (p q r : LP) (h1 : pLe p q = true) (h2 : pLe q r = true) : pLe p r = true := by
  unfold pLe at *
  by_cases a : p.1 = q.1
  · rw [if_pos a] at h1
    by_cases b : q.1 = r.1
    · rw [if_pos b] at h2
      rw [if_pos (a.trans b)]
      exact lotLe_trans _ _ _ h1 h2
    · rw [if_neg b] at h2
      rw [if_neg (by rw [a]; exact b), a]; exact h2
  · rw [if_neg a] at h1
    by_cases b : q.1 = r.1
    · rw [if_pos b] at h2
      rw [← b, if_neg a]; exact h1
    · rw [if_neg b] at h2
      have h3 := lotLe_trans _ _ _ h1 h2
      by_cases c : p.1 = r.1
      · rw [c] at h1
        exact absurd (lotLe_anti h2 h1) b
      · rw [if_neg c]; exact h3
theorem pLe_anti {p q : LP} (h1 : pLe p q = true) (h2 : pLe q p = true) : p = q := by
  unfold pLe at *
  by_cases a : p.1 = q.1
  · rw [if_pos a] at h1
    rw [if_pos a.symm] at h2
    exact Prod.ext a (lotLe_anti h1 h2)
  · rw [if_neg a] at h1
    rw [if_neg fun z => a z.symm] at h2
    exact absurd (lotLe_anti h1 h2) a
theorem sort_pairs (ps : List LP) : sortD (ps.map pD) = some ((ps.mergeSort pLe).map pD) := by
  unfold sortD
  rw [pys_pairs]
  have ok : sortOk (ps.map pP) = true := by
    unfold sortOk alikeAllB
    rw [Bool.and_eq_true, Bool.and_eq_true, Bool.or_eq_true]
    refine ⟨⟨List.all_eq_true.mpr fun a ha => List.all_eq_true.mpr fun b hb => ?_, .inl (List.all_eq_true.mpr fun a ha => ?_)⟩, List.all_eq_true.mpr fun a ha => ?_⟩
    · obtain ⟨x, _, rfl⟩ := List.mem_map.mp ha
      obtain ⟨y, _, rfl⟩ := List.mem_map.mp hb
      unfold pP
      rw [PySem.W.alike, PySem.W.alikeAll, PySem.W.alikeAll, PySem.W.alikeAll, alike_L, alike_L]; rfl
    · obtain ⟨x, _, rfl⟩ := List.mem_map.mp ha
      rfl
    · obtain ⟨x, _, rfl⟩ := List.mem_map.mp ha
      rw [dep_P]; rfl
  show (if sortOk (ps.map pP) = true then _ else _) = _
  rw [if_pos ok]
  congr 1
  exact (List.map_mergeSort fun a _ b _ => (leD_pair a b).symm).symm
theorem bi_sort_pairs (ps : List LP) : biD .sorted [.lst (ps.map pD)] = some (.lst ((ps.mergeSort pLe).map pD)) := by
  show (sortD (ps.map pD)).map D.lst = _
  rw [sort_pairs]; rfl
theorem pairs_one {l m : List LP} (h1 : l.Pairwise fun a b => pLe a b = true) (h2 : m.Pairwise fun a b => pLe a b = true) (n1 : l.Nodup) (n2 : m.Nodup) (h : ∀ a, a ∈ l ↔ a ∈ m) : l = m :=
  List.Perm.eq_of_pairwise (le := fun a b => pLe a b = true) (fun a b _ _ q1 q2 => pLe_anti q1 q2) h1 h2 ((List.perm_ext_iff_of_nodup n1 n2).mpr h)
theorem sortP_pair (l : List LP) : (l.mergeSort pLe).Pairwise fun a b => pLe a b = true := List.pairwise_mergeSort pLe_trans pLe_total l
/-! as keys -/
def kP (p : LP) : Ky := .tup [kL p.1, kL p.2]
theorem kP_inj (p q : LP) (h : kP p = kP q) : p = q := by
  unfold kP at h
  injection h with h
  injection h with h1 h2
  injection h2 with h2 _
  exact Prod.ext (kL_inj _ _ h1) (kL_inj _ _ h2)
theorem kyd_lot (n : Nat) (l : List Nat) : D.kyd (n + 1) (lotD l) = some (kL l) := by
  show (D.kyds n (l.map I)).map NestedKey.tup = _
  rw [kyds_I]; rfl
theorem ky_pair (p : LP) : (pD p).ky true = some (kP p) := by
  show (D.kyds 7 [lotD p.1, lotD p.2]).map NestedKey.tup = _
  unfold D.kyds
  rw [kyd_lot]
  unfold D.kyds
  rw [kyd_lot]
  rfl
theorem kyD_P (p : LP) : kyD (kP p) = pD p := by
  unfold kP; unfold kyD kyDs
  rw [kyD_L]
  unfold kyDs
  rw [kyD_L]
  rfl
theorem keys_P (l : List LP) : keysD (ents kP l) = l.map pD := by
  unfold keysD ents; rw [List.map_map]; exact List.map_congr_left fun a _ => kyD_P a
theorem bi_sort_P (l : List LP) : biD .sorted [.dct true (ents kP l)] = some (.lst ((l.mergeSort pLe).map pD)) := by
  show (sortD (keysD (ents kP l))).map D.lst = _
  rw [keys_P, sort_pairs]; rfl
end BP
end

section
set_option autoImplicit false
set_option linter.all false
set_option maxRecDepth 3000
/-! TBa: tables of noughts and ones: rows that are kept, full pairs, what is left of them (plain, no program). -/
namespace TB
open BP
variable {n m : Nat} {T : Nat → Nat → Bool}
def fl (n : Nat) (p : Nat → Bool) : List Nat := (List.range n).filter p
theorem mem_fl {n : Nat} {p : Nat → Bool} {i : Nat} : i ∈ fl n p ↔ i < n ∧ p i = true := by unfold fl; rw [List.mem_filter, List.mem_range]
theorem fl_up (n : Nat) (p : Nat → Bool) : (fl n p).Pairwise (· < ·) := (range_up n).sublist List.filter_sublist
theorem fl_len (n : Nat) (p : Nat → Bool) : (fl n p).length ≤ n := by
  have := List.length_filter_le p (List.range n)
  rwa [List.length_range] at this
structure Lot (n : Nat) (l : List Nat) : Prop where
  up : l.Pairwise (· < ·)
  lt : ∀ a ∈ l, a < n
theorem lot_fl (n : Nat) (p : Nat → Bool) : Lot n (fl n p) := ⟨fl_up n p, fun a h => (mem_fl.mp h).1⟩
theorem Lot.eq {l l' : List Nat} (h : Lot n l) (h' : Lot n l') (e : ∀ a, a < n → (a ∈ l ↔ a ∈ l')) : l = l' :=
  sorted_one h.up h'.up fun a => ⟨fun q => (e a (h.lt a q)).mp q, fun q => (e a (h'.lt a q)).mpr q⟩
theorem Lot.len {l : List Nat} (h : Lot n l) : l.length ≤ n := by
  have e : l = fl n fun i => decide (i ∈ l) := h.eq (lot_fl _ _) fun a ha => by rw [mem_fl, decide_eq_true_eq]; exact ⟨fun q => ⟨ha, q⟩, fun q => q.2⟩
  rw [e]; exact fl_len _ _
/-! ### rows -/
def RowLe (m : Nat) (T : Nat → Nat → Bool) (i k : Nat) : Prop := ∀ j, j < m → T i j = true → T k j = true
def RowEq (m : Nat) (T : Nat → Nat → Bool) (i k : Nat) : Prop := ∀ j, j < m → T i j = T k j
theorem RowLe.refl (i : Nat) : RowLe m T i i := fun _ _ h => h
theorem RowLe.trans {i k l : Nat} (h1 : RowLe m T i k) (h2 : RowLe m T k l) : RowLe m T i l := fun j hj h => h2 j hj (h1 j hj h)
theorem RowEq.le {i k : Nat} (h : RowEq m T i k) : RowLe m T i k := fun j hj q => by rw [← h j hj]; exact q
theorem RowEq.symm {i k : Nat} (h : RowEq m T i k) : RowEq m T k i := fun j hj => (h j hj).symm
/-- no earlier one alike, and not what greater ones share -/
def Kept (n m : Nat) (T : Nat → Nat → Bool) (i : Nat) : Prop := (∀ k, k < i → ¬ RowEq m T k i) ∧ ∃ j, j < m ∧ T i j = false ∧ ∀ k, k < n → RowLe m T i k → ¬ RowEq m T i k → T k j = true
theorem filter_lt {l : List Nat} {p q : Nat → Bool} (h : ∀ a ∈ l, p a = true → q a = true) (x : Nat) (hx : x ∈ l) (h1 : p x = false) (h2 : q x = true) : (l.filter p).length < (l.filter q).length := by
  induction l with
  | nil => cases hx
  | cons a l ih =>
    have hle : ∀ l : List Nat, (∀ a ∈ l, p a = true → q a = true) → (l.filter p).length ≤ (l.filter q).length := by
      intro l
      induction l with
      | nil => intro _; simp
      | cons b l ih =>
        intro h
        have h3 := ih fun a ha => h a (List.mem_cons_of_mem _ ha)
        have h4 := h b List.mem_cons_self
        rw [List.filter_cons, List.filter_cons]
        cases hp : p b <;> cases hq : q b <;> simp_all <;> omega
    have h3 := hle l fun a ha => h a (List.mem_cons_of_mem _ ha)
    rw [List.filter_cons, List.filter_cons]
    rcases List.mem_cons.mp hx with rfl | hx
    · rw [h1, h2]; simp; omega
    · have h4 := ih (fun a ha => h a (List.mem_cons_of_mem _ ha)) hx
      have h5 := h a List.mem_cons_self
      cases hp : p a <;> cases hq : q a <;> simp_all
      omega
def zeros (m : Nat) (T : Nat → Nat → Bool) (i : Nat) : Nat := (fl m fun j => !T i j).length
theorem zeros_lt {i l : Nat} (h : RowLe m T i l) (ne : ¬ RowEq m T i l) : zeros m T l < zeros m T i := by
  obtain ⟨j, hj, q⟩ : ∃ j, j < m ∧ ¬ T i j = T l j := by
    refine Classical.byContradiction fun q => ne fun j hj => Classical.byContradiction fun q2 => q ⟨j, hj, q2⟩
  have h1 := h j hj
  refine filter_lt (fun a ha q => ?_) j (List.mem_range.mpr hj) ?_ ?_
  · have := h a (List.mem_range.mp ha)
    revert this q
    cases T i a <;> cases T l a <;> simp
  · revert h1 q; cases T i j <;> cases T l j <;> simp
  · revert h1 q; cases T i j <;> cases T l j <;> simp
theorem zeros_eq {i l : Nat} (h : RowEq m T i l) : zeros m T l = zeros m T i := by
  unfold zeros fl
  congr 1
  exact List.filter_congr fun a ha => by rw [h a (List.mem_range.mp ha)]
/-- each nought of a row is a nought of a kept row above -/
theorem above_kept : ∀ (N i j : Nat), zeros m T i * n + i ≤ N → i < n → j < m → T i j = false → ∃ k, k < n ∧ Kept n m T k ∧ RowLe m T i k ∧ T k j = false := by
  intro N
  induction N with
  | zero =>
    intro i j hN hi hj hT
    have hz : 0 < zeros m T i := by
      unfold zeros
      exact List.length_pos_of_mem (mem_fl.mpr ⟨hj, by rw [hT]; rfl⟩)
    have : 0 < zeros m T i * n := Nat.mul_pos hz (by omega)
    omega
  | succ N ih =>
    intro i j hN hi hj hT
    by_cases h1 : ∃ k, k < i ∧ RowEq m T k i
    · obtain ⟨k, hk, he⟩ := h1
      obtain ⟨l, hl, hkl, hle, hf⟩ := ih k j (by rw [zeros_eq he.symm]; omega) (by omega) hj (by rw [he j hj]; exact hT)
      exact ⟨l, hl, hkl, he.symm.le.trans hle, hf⟩
    · by_cases h2 : ∃ k, k < n ∧ RowLe m T i k ∧ ¬ RowEq m T i k ∧ T k j = false
      · obtain ⟨k, hk, hle, hne, hf⟩ := h2
        have hz := zeros_lt hle hne
        have hm : (zeros m T k + 1) * n ≤ zeros m T i * n := Nat.mul_le_mul_right n hz
        rw [Nat.add_mul, Nat.one_mul] at hm
        obtain ⟨l, hl, hkl, hle2, hf2⟩ := ih k j (by omega) hk hj hf
        exact ⟨l, hl, hkl, hle.trans hle2, hf2⟩
      · refine ⟨i, hi, ⟨fun k hk he => h1 ⟨k, hk, he⟩, j, hj, hT, fun k hk hle hne => ?_⟩, .refl i, hT⟩
        cases hk2 : T k j with
        | true => rfl
        | false => exact absurd ⟨k, hk, hle, hne, hk2⟩ h2
/-! ### full pairs -/
def up (m : Nat) (T : Nat → Nat → Bool) (A : List Nat) : List Nat := fl m fun j => A.all fun i => T i j
def dn (n : Nat) (T : Nat → Nat → Bool) (B : List Nat) : List Nat := fl n fun i => B.all fun j => T i j
theorem mem_up {A : List Nat} {j : Nat} : j ∈ up m T A ↔ j < m ∧ ∀ i ∈ A, T i j = true := by unfold up; rw [mem_fl, List.all_eq_true]
theorem mem_dn {B : List Nat} {i : Nat} : i ∈ dn n T B ↔ i < n ∧ ∀ j ∈ B, T i j = true := by unfold dn; rw [mem_fl, List.all_eq_true]
structure Closed (n m : Nat) (T : Nat → Nat → Bool) (A : List Nat) : Prop where
  lot : Lot n A
  cl : dn n T (up m T A) = A
/-- by kept rows alone -/
theorem up_kept {A : List Nat} (h : Closed n m T A) {j : Nat} (hj : j < m) (hk : ∀ k ∈ A, Kept n m T k → T k j = true) : j ∈ up m T A := by
  refine mem_up.mpr ⟨hj, fun i hi => ?_⟩
  cases hT : T i j with
  | true => rfl
  | false =>
    obtain ⟨k, hkn, hkk, hle, hf⟩ := above_kept _ i j (Nat.le_refl _) (h.lot.lt i hi) hj hT
    have hkA : k ∈ A := by
      rw [← h.cl]
      refine mem_dn.mpr ⟨hkn, fun b hb => ?_⟩
      obtain ⟨hb1, hb2⟩ := mem_up.mp hb
      exact hle b hb1 (hb2 i hi)
    rw [hk k hkA hkk] at hf
    cases hf
def turn (T : Nat → Nat → Bool) : Nat → Nat → Bool := fun j i => T i j
/-- .. and of columns -/
theorem dn_kept {A : List Nat} (h : Closed n m T A) {i : Nat} (hi : i < n) (hk : ∀ j ∈ up m T A, Kept m n (turn T) j → T i j = true) : i ∈ A := by
  have hB : Closed m n (turn T) (up m T A) := ⟨lot_fl _ _, by
    refine (lot_fl _ _).eq (lot_fl _ _) fun j hj => ?_
    show j ∈ dn m (turn T) (up n (turn T) (up m T A)) ↔ j ∈ up m T A
    have e : up n (turn T) (up m T A) = A := h.cl
    rw [e]; exact Iff.rfl⟩
  have := up_kept hB (j := i) hi fun j hj hkj => hk j hj hkj
  rw [← h.cl]; exact this
end TB
end

section
set_option autoImplicit false
set_option linter.all false
set_option maxRecDepth 3000
namespace TB
open BP
variable {n m : Nat} {T : Nat → Nat → Bool}
/-! ### what is left of a pair -/
def cut (A K : List Nat) : List Nat := fl K.length fun a => decide (K.getD a 0 ∈ A)
theorem mem_cut {A K : List Nat} {a : Nat} : a ∈ cut A K ↔ a < K.length ∧ K.getD a 0 ∈ A := by unfold cut; rw [mem_fl, decide_eq_true_eq]
theorem getD_mem {K : List Nat} {a : Nat} (h : a < K.length) : K.getD a 0 ∈ K := by
  rw [List.getD_eq_getElem?_getD, List.getElem?_eq_getElem h]; exact List.getElem_mem h
theorem mem_getD {K : List Nat} {x : Nat} (h : x ∈ K) : ∃ a, a < K.length ∧ K.getD a 0 = x := by
  obtain ⟨a, ha, e⟩ := List.mem_iff_getElem.mp h
  exact ⟨a, ha, by rw [List.getD_eq_getElem?_getD, List.getElem?_eq_getElem ha, e]; rfl⟩
/-- the kept ones -/
structure Keeps (n m : Nat) (T : Nat → Nat → Bool) (J : List Nat) : Prop where
  lot : Lot n J
  iff : ∀ k, k < n → (k ∈ J ↔ Kept n m T k)
/-- the table of what is kept -/
def small (J M : List Nat) (T : Nat → Nat → Bool) : Nat → Nat → Bool := fun a b => T (J.getD a 0) (M.getD b 0)
section
variable {J M : List Nat} (hJ : Keeps n m T J) (hM : Keeps m n (turn T) M)
include hJ hM
theorem up_cut {A : List Nat} (h : Closed n m T A) : up M.length (small J M T) (cut A J) = cut (up m T A) M := by
  refine (lot_fl _ _).eq (lot_fl _ _) fun b hb => ?_
  show b ∈ up _ _ _ ↔ b ∈ cut _ _
  have hbm := hM.lot.lt _ (getD_mem hb)
  rw [mem_up, mem_cut]
  constructor
  · rintro ⟨_, q⟩
    refine ⟨hb, up_kept h hbm fun k hk hkk => ?_⟩
    obtain ⟨a, ha, e⟩ := mem_getD ((hJ.iff k (h.lot.lt k hk)).mpr hkk)
    have := q a (mem_cut.mpr ⟨ha, by rw [e]; exact hk⟩)
    unfold small at this
    rwa [e] at this
  · rintro ⟨_, q⟩
    exact ⟨hb, fun a ha => (mem_up.mp q).2 _ (mem_cut.mp ha).2⟩
theorem dn_cut {A : List Nat} (h : Closed n m T A) : dn J.length (small J M T) (cut (up m T A) M) = cut A J := by
  refine (lot_fl _ _).eq (lot_fl _ _) fun a ha => ?_
  show a ∈ dn _ _ _ ↔ a ∈ cut _ _
  have han := hJ.lot.lt _ (getD_mem ha)
  rw [mem_dn, mem_cut]
  constructor
  · rintro ⟨_, q⟩
    refine ⟨ha, dn_kept h han fun j hj hjk => ?_⟩
    obtain ⟨b, hb, e⟩ := mem_getD ((hM.iff j (mem_up.mp hj).1).mpr hjk)
    have := q b (mem_cut.mpr ⟨hb, by rw [e]; exact hj⟩)
    unfold small at this
    rwa [e] at this
  · rintro ⟨_, q⟩
    exact ⟨ha, fun b hb => (mem_up.mp (mem_cut.mp hb).2).2 _ q⟩
theorem closed_cut {A : List Nat} (h : Closed n m T A) : Closed J.length M.length (small J M T) (cut A J) := ⟨lot_fl _ _, by rw [up_cut hJ hM h, dn_cut hJ hM h]⟩
theorem cut_inj {A A2 : List Nat} (h : Closed n m T A) (h2 : Closed n m T A2) (e : cut A J = cut A2 J) : A = A2 := by
  have key : ∀ {A A2 : List Nat}, Closed n m T A → Closed n m T A2 → cut A J = cut A2 J → ∀ j, j ∈ up m T A → j ∈ up m T A2 := fun {A A2} h h2 e j hj => by
    refine up_kept h2 (mem_up.mp hj).1 fun k hk hkk => ?_
    obtain ⟨a, ha, ea⟩ := mem_getD ((hJ.iff k (h2.lot.lt k hk)).mpr hkk)
    have : a ∈ cut A2 J := mem_cut.mpr ⟨ha, by rw [ea]; exact hk⟩
    rw [← e] at this
    have := (mem_cut.mp this).2
    rw [ea] at this
    exact (mem_up.mp hj).2 k this
  have hu : up m T A = up m T A2 := (lot_fl _ _).eq (lot_fl _ _) fun j _ => ⟨key h h2 e j, key h2 h e.symm j⟩
  rw [← h.cl, ← h2.cl, hu]
/-- every full pair of what is kept comes of one -/
theorem cut_onto {C : List Nat} (h : Closed J.length M.length (small J M T) C) : ∃ A, Closed n m T A ∧ cut A J = C := by
  let D := (up M.length (small J M T) C).map fun b => M.getD b 0
  have hD : ∀ j ∈ D, j < m := fun j hj => by
    obtain ⟨b, hb, rfl⟩ := List.mem_map.mp hj
    exact hM.lot.lt _ (getD_mem (mem_up.mp hb).1)
  have hcl : Closed n m T (dn n T D) := ⟨lot_fl _ _, by
    refine (lot_fl _ _).eq (lot_fl _ _) fun i hi => ?_
    show i ∈ dn _ _ _ ↔ i ∈ dn _ _ _
    rw [mem_dn, mem_dn]
    constructor
    · rintro ⟨_, q⟩
      exact ⟨hi, fun j hj => q j (mem_up.mpr ⟨hD j hj, fun i' hi' => (mem_dn.mp hi').2 j hj⟩)⟩
    · rintro ⟨_, q⟩
      exact ⟨hi, fun j hj => (mem_up.mp hj).2 i (mem_dn.mpr ⟨hi, q⟩)⟩⟩
  refine ⟨dn n T D, hcl, ?_⟩
  rw [← h.cl]
  refine (lot_fl _ _).eq (lot_fl _ _) fun a ha => ?_
  show a ∈ cut _ _ ↔ a ∈ dn _ _ _
  have han := hJ.lot.lt _ (getD_mem ha)
  rw [mem_cut, mem_dn, mem_dn]
  constructor
  · rintro ⟨_, _, q⟩
    exact ⟨ha, fun b hb => q _ (List.mem_map.mpr ⟨b, hb, rfl⟩)⟩
  · rintro ⟨_, q⟩
    refine ⟨ha, han, fun j hj => ?_⟩
    obtain ⟨b, hb, rfl⟩ := List.mem_map.mp hj
    exact q b hb
/-- nothing kept: one pair alone -/
theorem none_kept (h0 : J = [] ∨ M = []) {A A2 : List Nat} (h : Closed n m T A) (h2 : Closed n m T A2) : A = A2 := by
  rcases h0 with rfl | rfl
  · exact cut_inj hJ hM h h2 rfl
  · have key : ∀ {A A2 : List Nat}, Closed n m T A → ∀ i, i < n → i ∈ A := fun {A A2} h i hi => dn_kept h hi fun j hj hk => by
      have := (hM.iff j (mem_up.mp hj).1).mpr hk
      cases this
    exact h.lot.eq h2.lot fun i hi => ⟨fun _ => key (A2 := A2) h2 i hi, fun _ => key (A2 := A) h i hi⟩
end
theorem closed_all : Closed n m T (dn n T (up m T (List.range n))) := ⟨lot_fl _ _, by
  refine (lot_fl _ _).eq (lot_fl _ _) fun i hi => ?_
  show i ∈ dn _ _ _ ↔ i ∈ dn _ _ _
  rw [mem_dn, mem_dn]
  constructor
  · rintro ⟨_, q⟩
    refine ⟨hi, fun j hj => q j (mem_up.mpr ⟨(mem_up.mp hj).1, fun i' hi' => (mem_dn.mp hi').2 j hj⟩)⟩
  · rintro ⟨_, q⟩
    exact ⟨hi, fun j hj => (mem_up.mp hj).2 i (mem_dn.mpr ⟨hi, q⟩)⟩⟩
end TB
end

section
set_option autoImplicit false
set_option linter.all false
set_option maxRecDepth 3000
namespace TB
open BP
variable {n m : Nat} {T : Nat → Nat → Bool}
/-! ### of what is kept nothing more goes -/
section
variable {J M : List Nat} (hJ : Keeps n m T J) (hM : Keeps m n (turn T) M)
include hJ hM
theorem small_le {a k : Nat} (ha : a < J.length) (hk : k < J.length) (h : RowLe M.length (small J M T) a k) : RowLe m T (J.getD a 0) (J.getD k 0) := by
  intro c hc hT
  cases hf : T (J.getD k 0) c with
  | true => rfl
  | false =>
    obtain ⟨d, hd, hdk, hle, hfd⟩ := above_kept (T := turn T) _ c (J.getD k 0) (Nat.le_refl _) hc (hJ.lot.lt _ (getD_mem hk)) hf
    obtain ⟨b, hb, e⟩ := mem_getD ((hM.iff d hd).mpr hdk)
    have h1 : T (J.getD a 0) d = true := hle _ (hJ.lot.lt _ (getD_mem ha)) hT
    have h2 := h b hb (by unfold small; rw [e]; exact h1)
    unfold small at h2
    rw [e] at h2
    have hfd : T (J.getD k 0) d = false := hfd
    rw [hfd] at h2
    cases h2
theorem getD_lt {a b : Nat} (hab : a < b) (hb : b < J.length) : J.getD a 0 < J.getD b 0 := by
  have := List.pairwise_iff_getElem.mp hJ.lot.up a b (by omega) hb hab
  rw [List.getD_eq_getElem?_getD, List.getD_eq_getElem?_getD, List.getElem?_eq_getElem hb, List.getElem?_eq_getElem (show a < J.length by omega)]
  exact this
theorem small_kept {a : Nat} (ha : a < J.length) : Kept J.length M.length (small J M T) a := by
  have hka := (hJ.iff _ (hJ.lot.lt _ (getD_mem ha))).mp (getD_mem ha)
  constructor
  · intro k hk he
    have h1 := small_le hJ hM (show k < J.length by omega) ha he.le
    have h2 := small_le hJ hM ha (show k < J.length by omega) he.symm.le
    refine hka.1 _ (getD_lt hJ hM hk ha) fun j hj => ?_
    rw [Bool.eq_iff_iff]
    exact ⟨h1 j hj, h2 j hj⟩
  · obtain ⟨j, hj, hf, hg⟩ := hka.2
    obtain ⟨d, hd, hdk, hle, hfd⟩ := above_kept (T := turn T) _ j (J.getD a 0) (Nat.le_refl _) hj (hJ.lot.lt _ (getD_mem ha)) hf
    obtain ⟨b, hb, e⟩ := mem_getD ((hM.iff d hd).mpr hdk)
    refine ⟨b, hb, by unfold small; rw [e]; exact hfd, fun k hk hle2 hne => ?_⟩
    have hkn := hJ.lot.lt _ (getD_mem hk)
    have := hg (J.getD k 0) hkn (small_le hJ hM ha hk hle2) fun he => hne fun c hc => he _ (hM.lot.lt _ (getD_mem hc))
    unfold small
    rw [e]
    exact hle _ hkn this
end
theorem keeps_all {n m : Nat} {T : Nat → Nat → Bool} (h : ∀ a, a < n → Kept n m T a) : Keeps n m T (List.range n) := ⟨⟨range_up n, fun a h => List.mem_range.mp h⟩, fun k hk => ⟨fun _ => h k hk, fun _ => List.mem_range.mpr hk⟩⟩
/-! ### a row put to it -/
def plus (n : Nat) (T : Nat → Nat → Bool) (met : Nat → Bool) : Nat → Nat → Bool := fun i j => if i < n then T i j else met j
/-- a row that tells nothing new -/
structure Stale (n m : Nat) (T : Nat → Nat → Bool) (met : Nat → Bool) : Prop where
  some : ∀ j, j < m → met j = false → ∃ k, k < n ∧ (∀ j', j' < m → met j' = true → T k j' = true) ∧ T k j = false
  col : ∀ j j', j < m → j' < m → (∀ i, i < n → T i j = true → T i j' = true) → met j = true → met j' = true
theorem stale_met {o p : Nat} (ho : o < n) (hp : p < n) : Stale n m T fun j => T o j && T p j := by
  refine ⟨fun j hj h => ?_, fun j j' hj hj' h q => ?_⟩
  · cases h1 : T o j with
    | false => exact ⟨o, ho, fun j' _ q => by rw [Bool.and_eq_true] at q; exact q.1, h1⟩
    | true =>
      have h : (T o j && T p j) = false := h
      rw [h1, Bool.true_and] at h
      exact ⟨p, hp, fun j' _ q => by rw [Bool.and_eq_true] at q; exact q.2, h⟩
  · rw [Bool.and_eq_true] at q ⊢
    exact ⟨h o ho q.1, h p hp q.2⟩
theorem stale_all : Stale n m T fun _ => true := ⟨fun j _ h => Bool.noConfusion h, fun _ _ _ _ _ _ => rfl⟩
section
variable {met : Nat → Bool} (h : Stale n m T met)
include h
theorem plus_lt {i : Nat} (hi : i < n) (j : Nat) : plus n T met i j = T i j := if_pos hi
theorem plus_last (j : Nat) : plus n T met n j = met j := if_neg (Nat.lt_irrefl n)
theorem plus_not : ¬ Kept (n + 1) m (plus n T met) n := by
  rintro ⟨h1, j, hj, hf, hg⟩
  rw [plus_last h] at hf
  obtain ⟨k, hk, hle, hfk⟩ := h.some j hj hf
  have hle' : RowLe m (plus n T met) n k := fun c hc q => by rw [plus_last h] at q; rw [plus_lt h hk]; exact hle c hc q
  by_cases he : RowEq m (plus n T met) n k
  · exact h1 k hk he.symm
  · have := hg k (by omega) hle' he
    rw [plus_lt h hk, hfk] at this
    cases this
theorem plus_kept {i : Nat} (hi : i < n) : Kept (n + 1) m (plus n T met) i ↔ Kept n m T i := by
  have le : ∀ k, k < n → (RowLe m (plus n T met) i k ↔ RowLe m T i k) := fun k hk => forall_congr' fun j => forall_congr' fun hj => by rw [plus_lt h hi, plus_lt h hk]
  have eq : ∀ k, k < n → (RowEq m (plus n T met) i k ↔ RowEq m T i k) := fun k hk => forall_congr' fun j => forall_congr' fun hj => by rw [plus_lt h hi, plus_lt h hk]
  have eq' : ∀ k, k < n → (RowEq m (plus n T met) k i ↔ RowEq m T k i) := fun k hk => forall_congr' fun j => forall_congr' fun hj => by rw [plus_lt h hi, plus_lt h hk]
  constructor
  · rintro ⟨h1, j, hj, hf, hg⟩
    refine ⟨fun k hk he => h1 k hk ((eq' k (by omega)).mpr he), j, hj, by rw [plus_lt h hi] at hf; exact hf, fun k hk hle hne => ?_⟩
    have := hg k (by omega) ((le k hk).mpr hle) fun he => hne ((eq k hk).mp he)
    rwa [plus_lt h hk] at this
  · rintro ⟨h1, j, hj, hf, hg⟩
    refine ⟨fun k hk he => h1 k hk ((eq' k (by omega)).mp he), j, hj, by rw [plus_lt h hi]; exact hf, fun k hk hle hne => ?_⟩
    by_cases hkn : k < n
    · rw [plus_lt h hkn]
      exact hg k hkn ((le k hkn).mp hle) fun he => hne ((eq k hkn).mpr he)
    · have e : k = n := by omega
      subst e
      rw [plus_last h]
      cases hm : met j with
      | true => rfl
      | false =>
        obtain ⟨l, hl, hle2, hfl⟩ := h.some j hj hm
        have up1 : ∀ c, c < m → T i c = true → met c = true := fun c hc q => by
          have := hle c hc (by rw [plus_lt h hi]; exact q)
          rwa [plus_last h] at this
        have hil : RowLe m T i l := fun c hc q => hle2 c hc (up1 c hc q)
        have := hg l hl hil fun he => hne fun c hc => by
          rw [plus_lt h hi, plus_last h, Bool.eq_iff_iff]
          exact ⟨up1 c hc, fun q => by rw [he c hc]; exact hle2 c hc q⟩
        rw [hfl] at this
        cases this
theorem plus_col {j : Nat} (hj : j < m) : Kept m (n + 1) (turn (plus n T met)) j ↔ Kept m n (turn T) j := by
  have le : ∀ a b, a < m → b < m → (RowLe (n + 1) (turn (plus n T met)) a b ↔ RowLe n (turn T) a b) := fun a b ha hb => by
    constructor
    · intro q i hi hT
      have := q i (by omega) (by show plus n T met i a = true; rw [plus_lt h hi]; exact hT)
      have : plus n T met i b = true := this
      rwa [plus_lt h hi] at this
    · intro q i hi hT
      have hT : plus n T met i a = true := hT
      show plus n T met i b = true
      by_cases hin : i < n
      · rw [plus_lt h hin] at hT ⊢; exact q i hin hT
      · have e : i = n := by omega
        subst e
        rw [plus_last h] at hT ⊢
        exact h.col a b ha hb q hT
  have eqle : ∀ {N : Nat} {U : Nat → Nat → Bool} {a b : Nat}, RowEq N U a b ↔ RowLe N U a b ∧ RowLe N U b a := fun {N U a b} => by
    constructor
    · exact fun q => ⟨q.le, q.symm.le⟩
    · rintro ⟨q1, q2⟩ i hi
      rw [Bool.eq_iff_iff]
      exact ⟨q1 i hi, q2 i hi⟩
  have eq : ∀ a b, a < m → b < m → (RowEq (n + 1) (turn (plus n T met)) a b ↔ RowEq n (turn T) a b) := fun a b ha hb => by rw [eqle, eqle, le a b ha hb, le b a hb ha]
  constructor
  · rintro ⟨h1, i, hi, hf, hg⟩
    refine ⟨fun k hk he => h1 k hk ((eq k j (by omega) hj).mpr he), ?_⟩
    have hf : plus n T met i j = false := hf
    have hg : ∀ k, k < m → RowLe n (turn T) j k → ¬ RowEq n (turn T) j k → plus n T met i k = true := fun k hk q1 q2 => hg k hk ((le j k hj hk).mpr q1) fun q => q2 ((eq j k hj hk).mp q)
    by_cases hin : i < n
    · rw [plus_lt h hin] at hf
      exact ⟨i, hin, hf, fun k hk q1 q2 => by have := hg k hk q1 q2; rwa [plus_lt h hin] at this⟩
    · have e : i = n := by omega
      subst e
      rw [plus_last h] at hf
      obtain ⟨o, ho, hle, hfo⟩ := h.some j hj hf
      exact ⟨o, ho, hfo, fun k hk q1 q2 => by have := hg k hk q1 q2; rw [plus_last h] at this; exact hle k hk this⟩
  · rintro ⟨h1, i, hi, hf, hg⟩
    refine ⟨fun k hk he => h1 k hk ((eq k j (by omega) hj).mp he), i, by omega, by show plus n T met i j = false; rw [plus_lt h hi]; exact hf, fun k hk q1 q2 => ?_⟩
    show plus n T met i k = true
    rw [plus_lt h hi]
    exact hg k hk ((le j k hj hk).mp q1) fun q => q2 ((eq j k hj hk).mpr q)
end
end TB
end

section
set_option autoImplicit false
set_option linter.all false
set_option maxRecDepth 3000
namespace TB
open BP
variable {n m : Nat} {T : Nat → Nat → Bool}
/-! ### all lots -/
theorem lots_one {l m : List (List Nat)} (h1 : l.Pairwise fun a b => lotLe a b = true) (h2 : m.Pairwise fun a b => lotLe a b = true) (n1 : l.Nodup) (n2 : m.Nodup) (h : ∀ a, a ∈ l ↔ a ∈ m) : l = m :=
  List.Perm.eq_of_pairwise (le := fun a b => lotLe a b = true) (fun a b _ _ q1 q2 => lotLe_anti q1 q2) h1 h2 ((List.perm_ext_iff_of_nodup n1 n2).mpr h)
theorem sortL_pair (l : List (List Nat)) : (l.mergeSort lotLe).Pairwise fun a b => lotLe a b = true := List.pairwise_mergeSort lotLe_trans lotLe_total l
theorem sortL_nodup {l : List (List Nat)} (h : l.Nodup) : (l.mergeSort lotLe).Nodup := (List.mergeSort_perm l lotLe).nodup_iff.mpr h
theorem sortL_mem {l : List (List Nat)} {a : List Nat} : a ∈ l.mergeSort lotLe ↔ a ∈ l := (List.mergeSort_perm l lotLe).mem_iff
def lots0 (n : Nat) : List (List Nat) := (List.range n).foldl (fun f p => f ++ f.map fun l => l ++ [p]) [[]]
def lotsS (n : Nat) : List (List Nat) := (lots0 n).mergeSort lotLe
theorem lots0_succ (n : Nat) : lots0 (n + 1) = lots0 n ++ (lots0 n).map fun l => l ++ [n] := by
  unfold lots0; rw [List.range_succ, List.foldl_append]; rfl
theorem lots0_len : ∀ n, (lots0 n).length = 2 ^ n
  | 0 => rfl
  | n + 1 => by rw [lots0_succ, List.length_append, List.length_map, lots0_len n, Nat.pow_succ]; omega
theorem mem_lots0 : ∀ (n : Nat) (l : List Nat), l ∈ lots0 n ↔ Lot n l
  | 0, l => by
    show l ∈ [[]] ↔ _
    rw [List.mem_singleton]
    constructor
    · rintro rfl
      exact ⟨List.Pairwise.nil, fun a h => absurd h (by simp)⟩
    · intro h
      cases l with
      | nil => rfl
      | cons a l => have := h.lt a List.mem_cons_self; omega
  | n + 1, l => by
    rw [lots0_succ, List.mem_append, List.mem_map, mem_lots0 n]
    constructor
    · rintro (h | ⟨l', h, rfl⟩)
      · exact ⟨h.up, fun a q => by have := h.lt a q; omega⟩
      · have h := (mem_lots0 n l').mp h
        refine ⟨List.pairwise_append.mpr ⟨h.up, by simp, fun a ha b hb => ?_⟩, fun a q => ?_⟩
        · rw [List.mem_singleton.mp hb]; exact h.lt a ha
        · rcases List.mem_append.mp q with q | q
          · have := h.lt a q; omega
          · rw [List.mem_singleton.mp q]; omega
    · intro h
      by_cases hn : n ∈ l
      · right
        refine ⟨fl n fun i => decide (i ∈ l), (mem_lots0 n _).mpr (lot_fl _ _), ?_⟩
        refine sorted_one (List.pairwise_append.mpr ⟨fl_up _ _, by simp, fun a ha b hb => ?_⟩) h.up fun a => ?_
        · rw [List.mem_singleton.mp hb]; exact (mem_fl.mp ha).1
        · rw [List.mem_append, mem_fl, decide_eq_true_eq, List.mem_singleton]
          constructor
          · rintro (q | rfl)
            · exact q.2
            · exact hn
          · intro q
            have := h.lt a q
            by_cases e : a = n
            · exact .inr e
            · exact .inl ⟨by omega, q⟩
      · left
        refine ⟨h.up, fun a q => ?_⟩
        have := h.lt a q
        have : a ≠ n := fun e => hn (e ▸ q)
        omega
theorem nodup_lots0 : ∀ n, (lots0 n).Nodup
  | 0 => by show ([[]] : List (List Nat)).Nodup; simp
  | n + 1 => by
    rw [lots0_succ]
    refine List.nodup_append.mpr ⟨nodup_lots0 n, ?_, fun a ha b hb e => ?_⟩
    · refine List.Pairwise.map _ (fun a b h e => h ?_) (nodup_lots0 n)
      exact List.append_cancel_right e
    · obtain ⟨l, _, rfl⟩ := List.mem_map.mp hb
      have := ((mem_lots0 n a).mp ha).lt n (by rw [e]; simp)
      omega
theorem mem_lotsS {l : List Nat} : l ∈ lotsS n ↔ Lot n l := by unfold lotsS; rw [sortL_mem, mem_lots0]
theorem lotsS_len : (lotsS n).length = 2 ^ n := by unfold lotsS; rw [List.length_mergeSort, lots0_len]
/-! ### the list of full pairs -/
def clB (n m : Nat) (T : Nat → Nat → Bool) (A : List Nat) : Bool := decide (dn n T (up m T A) = A)
def fullP (n m : Nat) (T : Nat → Nat → Bool) : List LP := ((lotsS n).filter (clB n m T)).map fun A => (A, up m T A)
theorem mem_full {p : LP} : p ∈ fullP n m T ↔ Closed n m T p.1 ∧ p.2 = up m T p.1 := by
  unfold fullP clB
  rw [List.mem_map]
  constructor
  · rintro ⟨A, hA, rfl⟩
    rw [List.mem_filter, mem_lotsS, decide_eq_true_eq] at hA
    exact ⟨⟨hA.1, hA.2⟩, rfl⟩
  · rintro ⟨h, e⟩
    exact ⟨p.1, List.mem_filter.mpr ⟨mem_lotsS.mpr h.lot, decide_eq_true h.cl⟩, Prod.ext rfl e.symm⟩
theorem full_nodup : (fullP n m T).Nodup := by
  unfold fullP
  refine List.Pairwise.map _ (fun a b h e => h ?_) ((sortL_nodup (nodup_lots0 n)).sublist List.filter_sublist)
  exact congrArg Prod.fst e
theorem full_up : (fullP n m T).Pairwise fun a b => pLe a b = true := by
  unfold fullP
  rw [List.pairwise_map]
  have h1 := ((sortL_pair (lots0 n)).and (sortL_nodup (nodup_lots0 n))).sublist (List.filter_sublist (p := clB n m T))
  refine h1.imp fun {a b} ⟨h, hne⟩ => ?_
  show (if a = b then _ else _) = true
  rw [if_neg hne]
  exact h
theorem full_len : (fullP n m T).length ≤ 2 ^ n := by
  unfold fullP
  rw [List.length_map, ← lotsS_len]
  exact List.length_filter_le _ _
/-- all pairs as the program finds them -/
theorem full_keys {L : List LP} (hn : L.Nodup) (h : ∀ p, p ∈ L ↔ ∃ A, Lot n A ∧ p = (dn n T (up m T A), up m T A)) : L.mergeSort pLe = fullP n m T := by
  refine pairs_one (sortP_pair L) full_up ((List.mergeSort_perm L pLe).nodup_iff.mpr hn) full_nodup fun p => ?_
  rw [(List.mergeSort_perm L pLe).mem_iff, h, mem_full]
  have upd : ∀ A : List Nat, up m T (dn n T (up m T A)) = up m T A ∨ ¬ Lot n A := fun A => by
    by_cases hA : Lot n A
    · left
      refine (lot_fl _ _).eq (lot_fl _ _) fun j hj => ?_
      show j ∈ up _ _ _ ↔ j ∈ up _ _ _
      rw [mem_up, mem_up]
      constructor
      · rintro ⟨_, q⟩
        exact ⟨hj, fun i hi => q i (mem_dn.mpr ⟨hA.lt i hi, fun j' hj' => (mem_up.mp hj').2 i hi⟩)⟩
      · rintro ⟨_, q⟩
        exact ⟨hj, fun i hi => (mem_dn.mp hi).2 j (mem_up.mpr ⟨hj, q⟩)⟩
    · exact .inr hA
  constructor
  · rintro ⟨A, hA, rfl⟩
    have e := (upd A).resolve_right (fun z => z hA)
    exact ⟨⟨lot_fl _ _, by rw [e]⟩, e.symm⟩
  · rintro ⟨hc, e⟩
    exact ⟨p.1, hc.lot, Prod.ext hc.cl.symm e⟩
/-- what is left of the pairs are the pairs of what is left -/
theorem full_cut {J M : List Nat} (hJ : Keeps n m T J) (hM : Keeps m n (turn T) M) : ((fullP n m T).map fun p => (cut p.1 J, cut p.2 M)).mergeSort pLe = fullP J.length M.length (small J M T) := by
  refine pairs_one (sortP_pair _) full_up ((List.mergeSort_perm _ pLe).nodup_iff.mpr ?_) full_nodup fun p => ?_
  · rw [List.Nodup, List.pairwise_map]
    refine List.Pairwise.imp_of_mem (fun {a b} ha hb hne e => hne ?_) full_nodup
    obtain ⟨ca, ea⟩ := mem_full.mp ha
    obtain ⟨cb, eb⟩ := mem_full.mp hb
    have h1 := cut_inj hJ hM ca cb (congrArg Prod.fst e)
    exact Prod.ext h1 (by rw [ea, eb, h1])
  · rw [(List.mergeSort_perm _ pLe).mem_iff, List.mem_map, mem_full]
    constructor
    · rintro ⟨q, hq, rfl⟩
      obtain ⟨c, e⟩ := mem_full.mp hq
      exact ⟨closed_cut hJ hM c, by rw [e]; exact (up_cut hJ hM c).symm⟩
    · rintro ⟨c, e⟩
      obtain ⟨A, hA, ec⟩ := cut_onto hJ hM c
      refine ⟨(A, up m T A), mem_full.mpr ⟨hA, rfl⟩, Prod.ext ec ?_⟩
      show cut (up m T A) M = p.2
      rw [e, ← up_cut hJ hM hA, ec]
theorem full_one {J M : List Nat} (hJ : Keeps n m T J) (hM : Keeps m n (turn T) M) (h0 : J = [] ∨ M = []) : (fullP n m T).length = 1 := by
  match h : fullP n m T with
  | [] =>
    have : (dn n T (up m T (List.range n)), up m T (dn n T (up m T (List.range n)))) ∈ fullP n m T := mem_full.mpr ⟨closed_all, rfl⟩
    rw [h] at this
    cases this
  | [a] => rfl
  | a :: b :: l =>
    have nd := full_nodup (n := n) (m := m) (T := T)
    rw [h] at nd
    obtain ⟨ca, ea⟩ := mem_full.mp (show a ∈ fullP n m T by rw [h]; simp)
    obtain ⟨cb, eb⟩ := mem_full.mp (show b ∈ fullP n m T by rw [h]; simp)
    have h1 := none_kept hJ hM h0 ca cb
    have : a = b := Prod.ext h1 (by rw [ea, eb, h1])
    rw [this] at nd
    simp at nd
end TB
end

section
set_option autoImplicit false
set_option linter.all false
set_option maxRecDepth 100000
set_option maxHeartbeats 0
namespace K95
open PySem BP
/-- is_integer -/
def f_is_integer : Fn := ⟨1, (["thing"] : List Str), .cons (.ret (.and (.isi (.var 0) [.int] true) (.not (.isi (.var 0) [.bool] true)))) (.nil)⟩
/-- is_within -/
def f_is_within : Fn := ⟨3, (["thing", "least", "most"] : List Str), .cons (.ret (.and (.call 0 (.cons (.var 0) (.nil))) (.chain .le .le (.var 1) (.var 0) (.var 2)))) (.nil)⟩
/-- is_tuple -/
def f_is_tuple : Fn := ⟨3, (["thing", "least", "most"] : List Str), .cons (.ret (.and (.isi (.var 0) [.tup] true) (.chain .le .le (.var 1) (.bi .len (.cons (.var 0) (.nil))) (.var 2)))) (.nil)⟩
/-- is_marks -/
def f_is_marks : Fn := ⟨1, (["thing", "row", "one"] : List Str), .cons (.ite (.or (.not (.call 2 (.cons (.var 0) (.cons (.con (.int 1)) (.cons (.glob "MOST_THINGS" (.int 10)) (.nil)))))) (.not (.bi .all (.cons (.lc (.call 2 (.cons (.var 1) (.cons (.con (.int 1)) (.cons (.glob "MOST_THINGS" (.int 10)) (.nil))))) (.name 1) (.seq (.var 0)) (.no) [1]) (.nil))))) (.cons (.ret (.con (.bl false))) (.nil)) (.nil)) (.cons (.ite (.cmp .gt (.bi .len (.cons (.dc false (.bi .len (.cons (.var 1) (.nil))) (.con (.bl true)) (.name 1) (.seq (.var 0)) (.no) [1]) (.nil))) (.con (.int 1))) (.cons (.ret (.con (.bl false))) (.nil)) (.nil)) (.cons (.ret (.bi .all (.cons (.lc2 (.call 1 (.cons (.var 2) (.cons (.con (.int 0)) (.cons (.con (.int 1)) (.nil))))) (.name 1) (.seq (.var 0)) (.name 2) (.seq (.var 1)) (.no) [1, 2] [2]) (.nil)))) (.nil)))⟩
/-- check_marks -/
def f_check_marks : Fn := ⟨1, (["thing"] : List Str), .cons (.ite (.not (.call 3 (.cons (.var 0) (.nil)))) (.cons (.raise 0) (.nil)) (.nil)) (.nil)⟩
/-- marks_of -/
def f_marks_of : Fn := ⟨2, (["table", "things", "mark", "one"] : List Str), .cons (.ret (.bi .tuple (.cons (.lc (.var 2) (.name 2) (.rg (.bi .len (.cons (.idx (.var 0) (.con (.int 0))) (.nil)))) (.so (.bi .all (.cons (.lc (.cmp .eq (.idx (.idx (.var 0) (.var 3)) (.var 2)) (.con (.int 1))) (.name 3) (.seq (.var 1)) (.no) [3]) (.nil)))) [2]) (.nil)))) (.nil)⟩
/-- things_of -/
def f_things_of : Fn := ⟨2, (["table", "marks", "one", "mark"] : List Str), .cons (.ret (.bi .tuple (.cons (.lc (.var 2) (.name 2) (.rg (.bi .len (.cons (.var 0) (.nil)))) (.so (.bi .all (.cons (.lc (.cmp .eq (.idx (.idx (.var 0) (.var 2)) (.var 3)) (.con (.int 1))) (.name 3) (.seq (.var 1)) (.no) [3]) (.nil)))) [2]) (.nil)))) (.nil)⟩
/-- pairs_of -/
def f_pairs_of : Fn := ⟨1, (["table", "lots", "one", "found", "lot", "marks"] : List Str), .cons (.asg 1 0 (.lst (.cons (.tup (.nil)) (.nil)))) (.cons (.for_ (.name 2) (.rg (.bi .len (.cons (.var 0) (.nil)))) (.cons (.asg 1 0 (.bin .add (.var 1) (.lc (.bin .add (.var 4) (.tup (.cons (.var 2) (.nil)))) (.name 4) (.seq (.var 1)) (.no) [4]))) (.nil))) (.cons (.asg 3 1 (.dct0 true)) (.cons (.for_ (.name 4) (.seq (.var 1)) (.cons (.asg 5 0 (.call 5 (.cons (.var 0) (.cons (.var 4) (.nil))))) (.cons (.setI 3 1 (.tup (.cons (.call 6 (.cons (.var 0) (.cons (.var 5) (.nil)))) (.cons (.var 5) (.nil)))) (.con (.bl true))) (.nil)))) (.cons (.ret (.bi .sorted (.cons (.peek 3 1) (.nil)))) (.nil)))))⟩
/-- full_pairs -/
def f_full_pairs : Fn := ⟨1, (["table"] : List Str), .cons (.ex (.call 4 (.cons (.var 0) (.nil)))) (.cons (.ret (.call 7 (.cons (.var 0) (.nil)))) (.nil))⟩
/-- turned -/
def f_turned : Fn := ⟨1, (["table", "mark", "row"] : List Str), .cons (.ex (.call 4 (.cons (.var 0) (.nil)))) (.cons (.ret (.bi .tuple (.cons (.lc (.bi .tuple (.cons (.lc (.idx (.var 2) (.var 1)) (.name 2) (.seq (.var 0)) (.no) [2]) (.nil))) (.name 1) (.rg (.bi .len (.cons (.idx (.var 0) (.con (.int 0))) (.nil)))) (.no) [1]) (.nil)))) (.nil))⟩
/-- least_tables -/
def f_least_tables : Fn := ⟨1, (["table", "things", "marks", "mark", "one", "row"] : List Str), .cons (.ex (.call 4 (.cons (.var 0) (.nil)))) (.cons (.asg 1 0 (.call 11 (.cons (.var 0) (.nil)))) (.cons (.asg 2 0 (.call 11 (.cons (.bi .tuple (.cons (.lc (.bi .tuple (.cons (.lc (.idx (.var 5) (.var 3)) (.name 5) (.seq (.var 0)) (.no) [5]) (.nil))) (.name 3) (.rg (.bi .len (.cons (.idx (.var 0) (.con (.int 0))) (.nil)))) (.no) [3]) (.nil))) (.nil)))) (.cons (.ret (.tup (.cons (.bi .tuple (.cons (.lc (.bi .tuple (.cons (.lc (.idx (.idx (.var 0) (.var 4)) (.var 3)) (.name 3) (.seq (.var 2)) (.no) [3]) (.nil))) (.name 4) (.seq (.var 1)) (.no) [4]) (.nil))) (.cons (.var 1) (.cons (.var 2) (.nil)))))) (.nil))))⟩
/-- kept_rows -/
def f_kept_rows : Fn := ⟨1, (["table", "found", "at", "row", "others", "same", "greater", "shared", "place", "far", "mark", "a", "b"] : List Str), .cons (.asg 1 1 (.lst (.nil))) (.cons (.for_ (.tup [.name 2, .name 3]) (.enum (.var 0)) (.cons (.asg 4 0 (.lc (.var 9) (.tup [.name 8, .name 9]) (.enum (.var 0)) (.so (.and (.cmp .ne (.var 8) (.var 2)) (.bi .all (.cons (.lc (.cmp .le (.var 11) (.var 12)) (.tup [.name 11, .name 12]) (.zip (.var 3) (.var 9)) (.no) [11, 12]) (.nil))))) [8, 9])) (.cons (.asg 5 0 (.lc (.var 8) (.name 8) (.rg (.var 2)) (.so (.cmp .eq (.idx (.var 0) (.var 8)) (.var 3))) [8])) (.cons (.asg 6 0 (.lc (.var 9) (.name 9) (.seq (.var 4)) (.so (.cmp .ne (.var 9) (.var 3))) [9])) (.cons (.asg 7 0 (.bi .tuple (.cons (.lc (.bi .int (.cons (.bi .all (.cons (.lc (.cmp .eq (.idx (.var 9) (.var 10)) (.con (.int 1))) (.name 9) (.seq (.var 6)) (.no) [9]) (.nil))) (.nil))) (.name 10) (.rg (.bi .len (.cons (.var 3) (.nil)))) (.no) [10]) (.nil)))) (.cons (.ite (.and (.cmp .eq (.bi .len (.cons (.var 5) (.nil))) (.con (.int 0))) (.cmp .ne (.var 7) (.var 3))) (.cons (.app 1 1 (.var 2)) (.nil)) (.nil)) (.nil))))))) (.cons (.ret (.bi .tuple (.cons (.peek 1 1) (.nil)))) (.nil)))⟩
/-- _law_hand -/
def f__law_hand : Fn := ⟨1, (["script", "numbers_here", "cell"] : List Str), .cons (.asg 1 0 (.lc (.bi .abs (.cons (.bi .int (.cons (.var 2) (.nil))) (.nil))) (.name 2) (.seq (.slice (.var 0) .no (.so (.con (.int 63))))) (.no) [2])) (.cons (.ret (.lst (.cons (.var 1) (.cons (.con (.int 0)) (.cons (.con (.int 0)) (.cons (.bin .add (.con (.int 569)) (.bin .mul (.con (.int 80)) (.bi .len (.cons (.var 1) (.nil))))) (.cons (.con (.int 0)) (.nil)))))))) (.nil))⟩
/-- _law_draw -/
def f__law_draw : Fn := ⟨2, (["hand", "many", "number", "cell", "digit"] : List Str), .cons (.ite (.and (.cmp .eq (.idx (.var 0) (.con (.int 2))) (.con (.int 0))) (.cmp .lt (.idx (.var 0) (.con (.int 1))) (.bi .len (.cons (.idx (.var 0) (.con (.int 0))) (.nil))))) (.cons (.asg 3 0 (.idx (.idx (.var 0) (.con (.int 0))) (.idx (.var 0) (.con (.int 1))))) (.cons (.setI 0 1 (.con (.int 1)) (.bin .add (.idx (.var 0) (.con (.int 1))) (.con (.int 1)))) (.cons (.setI 0 1 (.con (.int 3)) (.bin .mod (.bi .int (.cons (.bin .add (.bin .add (.bin .mul (.idx (.var 0) (.con (.int 3))) (.con (.int 69621))) (.var 3)) (.con (.int 103))) (.nil))) (.con (.int 2147483629)))) (.cons (.ite (.cmp .ge (.var 3) (.bin .pow (.con (.int 10)) (.con (.int 18)))) (.cons (.setI 0 1 (.con (.int 2)) (.var 3)) (.nil)) (.nil)) (.nil))))) (.nil)) (.cons (.ite (.cmp .gt (.idx (.var 0) (.con (.int 2))) (.con (.int 0))) (.cons (.asg 4 0 (.bin .mod (.bi .int (.cons (.idx (.var 0) (.con (.int 2))) (.nil))) (.var 1))) (.cons (.setI 0 1 (.con (.int 2)) (.bin .fdiv (.idx (.var 0) (.con (.int 2))) (.var 1))) (.cons (.ret (.var 4)) (.nil)))) (.nil)) (.cons (.setI 0 1 (.con (.int 4)) (.bin .add (.idx (.var 0) (.con (.int 4))) (.con (.int 1)))) (.cons (.asg 2 0 (.bin .mod (.bi .int (.cons (.bin .mul (.bi .int (.cons (.bin .add (.idx (.var 0) (.con (.int 3))) (.bin .mul (.con (.int 7919)) (.idx (.var 0) (.con (.int 4))))) (.nil))) (.con (.int 48271))) (.nil))) (.con (.int 2147483647)))) (.cons (.asg 2 0 (.bin .mod (.bi .int (.cons (.bin .mul (.var 2) (.bin .add (.bin .fdiv (.var 2) (.con (.int 1009))) (.con (.int 69621)))) (.nil))) (.con (.int 2147483647)))) (.cons (.asg 2 0 (.bin .mod (.bi .int (.cons (.bin .mul (.var 2) (.bin .add (.bin .fdiv (.var 2) (.con (.int 2003))) (.con (.int 40692)))) (.nil))) (.con (.int 2147483399)))) (.cons (.ret (.bin .mod (.bi .int (.cons (.bin .fdiv (.var 2) (.con (.int 16))) (.nil))) (.var 1))) (.nil)))))))⟩
/-- _law_some -/
def f__law_some : Fn := ⟨2, (["hand", "things"] : List Str), .cons (.ret (.idx (.var 1) (.call 13 (.cons (.var 0) (.cons (.bi .len (.cons (.var 1) (.nil))) (.nil)))))) (.nil)⟩
/-- _law_is -/
def f__law_is : Fn := ⟨2, (["said", "due", "k"] : List Str), .cons (.ite (.isi (.var 1) [.tup, .lst] false) (.cons (.ite (.or (.cmp .ne (.isi (.var 0) [.tup] true) (.isi (.var 1) [.tup] true)) (.cmp .ne (.isi (.var 0) [.lst] true) (.isi (.var 1) [.lst] true))) (.cons (.ret (.con (.bl false))) (.nil)) (.nil)) (.cons (.ite (.cmp .ne (.bi .len (.cons (.var 0) (.nil))) (.bi .len (.cons (.var 1) (.nil)))) (.cons (.ret (.con (.bl false))) (.nil)) (.nil)) (.cons (.ret (.bi .all (.cons (.lc (.call 15 (.cons (.idx (.var 0) (.var 2)) (.cons (.idx (.var 1) (.var 2)) (.nil)))) (.name 2) (.rg (.bi .len (.cons (.var 1) (.nil)))) (.no) [2]) (.nil)))) (.nil)))) (.nil)) (.cons (.ite (.cmp .is_ (.var 1) (.con (.non))) (.cons (.ret (.cmp .is_ (.var 0) (.con (.non)))) (.nil)) (.nil)) (.cons (.ite (.or (.cmp .ne (.isi (.var 0) [.bool] true) (.isi (.var 1) [.bool] true)) (.cmp .ne (.isi (.var 0) [.int] true) (.isi (.var 1) [.int] true))) (.cons (.ret (.con (.bl false))) (.nil)) (.nil)) (.cons (.ret (.and (.cmp .eq (.isi (.var 0) [.str] true) (.isi (.var 1) [.str] true)) (.cmp .eq (.var 0) (.var 1)))) (.nil))))⟩
/-- _law_table -/
def f__law_table : Fn := ⟨2, (["hand", "most", "rows", "high", "wide", "bar", "thing", "mark"] : List Str), .cons (.par [3, 4, 5] [0, 0, 0] (.cons (.bin .add (.con (.int 1)) (.call 13 (.cons (.var 0) (.cons (.var 1) (.nil))))) (.cons (.bin .add (.con (.int 1)) (.call 13 (.cons (.var 0) (.cons (.var 1) (.nil))))) (.cons (.bin .add (.con (.int 1)) (.call 13 (.cons (.var 0) (.cons (.con (.int 4)) (.nil))))) (.nil))))) (.cons (.asg 2 1 (.lc (.bi .tuple (.cons (.lc (.bi .int (.cons (.cmp .lt (.call 13 (.cons (.var 0) (.cons (.con (.int 5)) (.nil)))) (.var 5)) (.nil))) (.name 7) (.rg (.var 4)) (.no) [7]) (.nil))) (.name 6) (.rg (.var 3)) (.no) [6])) (.cons (.ite (.cmp .eq (.call 13 (.cons (.var 0) (.cons (.con (.int 3)) (.nil)))) (.con (.int 0))) (.cons (.setI 2 1 (.neg (.con (.int 1))) (.call 14 (.cons (.var 0) (.cons (.lst (.cons (.idx (.peek 2 1) (.con (.int 0))) (.cons (.bin .mul (.tup (.cons (.con (.int 0)) (.nil))) (.var 4)) (.cons (.bin .mul (.tup (.cons (.con (.int 1)) (.nil))) (.var 4)) (.nil))))) (.nil))))) (.nil)) (.nil)) (.cons (.ret (.bi .tuple (.cons (.peek 2 1) (.nil)))) (.nil))))⟩
/-- _law_turned -/
def f__law_turned : Fn := ⟨1, (["table", "mark", "strip"] : List Str), .cons (.ret (.bi .tuple (.cons (.lc (.bi .tuple (.cons (.lc (.idx (.var 2) (.var 1)) (.name 2) (.seq (.var 0)) (.no) [2]) (.nil))) (.name 1) (.rg (.bi .len (.cons (.idx (.var 0) (.con (.int 0))) (.nil)))) (.no) [1]) (.nil)))) (.nil)⟩
/-- _law_shared -/
def f__law_shared : Fn := ⟨2, (["table", "things", "mark", "thing"] : List Str), .cons (.ret (.bi .tuple (.cons (.lc (.var 2) (.name 2) (.rg (.bi .len (.cons (.idx (.var 0) (.con (.int 0))) (.nil)))) (.so (.bi .all (.cons (.lc (.cmp .eq (.idx (.idx (.var 0) (.var 3)) (.var 2)) (.con (.int 1))) (.name 3) (.seq (.var 1)) (.no) [3]) (.nil)))) [2]) (.nil)))) (.nil)⟩
/-- _law_pairs -/
def f__law_pairs : Fn := ⟨1, (["table", "things", "found", "other", "marks"] : List Str), .cons (.par [2, 3] [1, 0] (.cons (.lst (.nil)) (.cons (.call 17 (.cons (.var 0) (.nil))) (.nil)))) (.cons (.for_ (.name 1) (.seq (.call 20 (.cons (.bi .len (.cons (.var 0) (.nil))) (.nil)))) (.cons (.asg 4 0 (.call 18 (.cons (.var 0) (.cons (.var 1) (.nil))))) (.cons (.ite (.cmp .eq (.call 18 (.cons (.var 3) (.cons (.var 4) (.nil)))) (.var 1)) (.cons (.app 2 1 (.tup (.cons (.var 1) (.cons (.var 4) (.nil))))) (.nil)) (.nil)) (.nil)))) (.cons (.frz 2) (.cons (.ret (.var 2)) (.nil))))⟩
/-- _law_lots -/
def f__law_lots : Fn := ⟨1, (["size", "found", "one", "lot"] : List Str), .cons (.asg 1 0 (.lst (.cons (.tup (.nil)) (.nil)))) (.cons (.for_ (.name 2) (.rg (.var 0)) (.cons (.asg 1 0 (.bin .add (.var 1) (.lc (.bin .add (.var 3) (.tup (.cons (.var 2) (.nil)))) (.name 3) (.seq (.var 1)) (.no) [3]))) (.nil))) (.cons (.ret (.bi .sorted (.cons (.var 1) (.nil)))) (.nil)))⟩
/-- _law_kept -/
def f__law_kept : Fn := ⟨1, (["table", "found", "thing", "strip", "greater", "common", "other", "mark", "a", "b"] : List Str), .cons (.asg 1 1 (.lst (.nil))) (.cons (.for_ (.tup [.name 2, .name 3]) (.enum (.var 0)) (.cons (.asg 4 0 (.lc (.var 6) (.name 6) (.seq (.var 0)) (.so (.and (.cmp .ne (.var 6) (.var 3)) (.bi .all (.cons (.lc (.cmp .le (.var 8) (.var 9)) (.tup [.name 8, .name 9]) (.zip (.var 3) (.var 6)) (.no) [8, 9]) (.nil))))) [6])) (.cons (.asg 5 0 (.bi .tuple (.cons (.lc (.bi .minL (.cons (.bin .add (.lst (.cons (.con (.int 1)) (.nil))) (.lc (.idx (.var 6) (.var 7)) (.name 6) (.seq (.var 4)) (.no) [6])) (.nil))) (.name 7) (.rg (.bi .len (.cons (.var 3) (.nil)))) (.no) [7]) (.nil)))) (.cons (.ite (.and (.cmp .ne (.var 5) (.var 3)) (.cmp .notIn (.var 3) (.slice (.var 0) .no (.so (.var 2))))) (.cons (.app 1 1 (.var 2)) (.nil)) (.nil)) (.nil))))) (.cons (.ret (.bi .tuple (.cons (.peek 1 1) (.nil)))) (.nil)))⟩
/-- _law_least -/
def f__law_least : Fn := ⟨1, (["table", "things", "marks", "thing", "mark"] : List Str), .cons (.par [1, 2] [0, 0] (.cons (.call 21 (.cons (.var 0) (.nil))) (.cons (.call 21 (.cons (.call 17 (.cons (.var 0) (.nil))) (.nil))) (.nil)))) (.cons (.ret (.tup (.cons (.bi .tuple (.cons (.lc (.bi .tuple (.cons (.lc (.idx (.idx (.var 0) (.var 3)) (.var 4)) (.name 4) (.seq (.var 2)) (.no) [4]) (.nil))) (.name 3) (.seq (.var 1)) (.no) [3]) (.nil))) (.cons (.var 1) (.cons (.var 2) (.nil)))))) (.nil))⟩
/-- _law_are_pairs_right -/
def f__law_are_pairs_right : Fn := ⟨2, (["table", "least", "pairs", "cut", "small", "things", "marks", "one", "other"] : List Str), .cons (.unp (.tup [.name 4, .name 5, .name 6]) (.var 1)) (.cons (.asg 2 0 (.call 19 (.cons (.var 0) (.nil)))) (.cons (.asg 3 0 (.lc (.tup (.cons (.call 24 (.cons (.var 7) (.cons (.var 5) (.nil)))) (.cons (.call 24 (.cons (.var 8) (.cons (.var 6) (.nil)))) (.nil)))) (.tup [.name 7, .name 8]) (.seq (.var 2)) (.no) [7, 8])) (.cons (.ite (.or (.cmp .eq (.var 5) (.tup (.nil))) (.cmp .eq (.var 6) (.tup (.nil)))) (.cons (.ret (.cmp .eq (.bi .len (.cons (.var 2) (.nil))) (.con (.int 1)))) (.nil)) (.nil)) (.cons (.ite (.or (.cmp .ne (.bi .sorted (.cons (.var 3) (.nil))) (.call 19 (.cons (.var 4) (.nil)))) (.cmp .ne (.bi .len (.cons (.var 3) (.nil))) (.bi .len (.cons (.var 2) (.nil))))) (.cons (.ret (.con (.bl false))) (.nil)) (.nil)) (.cons (.ret (.cmp .eq (.call 8 (.cons (.var 4) (.nil))) (.bi .sorted (.cons (.var 3) (.nil))))) (.nil))))))⟩
/-- _law_cut -/
def f__law_cut : Fn := ⟨2, (["lot", "kept", "at", "one"] : List Str), .cons (.ret (.bi .tuple (.cons (.lc (.var 2) (.tup [.name 2, .name 3]) (.enum (.var 1)) (.so (.cmp .in_ (.var 3) (.var 0))) [2, 3]) (.nil)))) (.nil)⟩
/-- _law_is_right -/
def f__law_is_right : Fn := ⟨2, (["hand", "table", "other", "met", "due", "said", "small", "again", "one", "more", "a", "b"] : List Str), .cons (.par [4, 5] [0, 0] (.cons (.call 22 (.cons (.var 1) (.nil))) (.cons (.call 10 (.cons (.var 1) (.nil))) (.nil)))) (.cons (.ite (.or (.not (.call 15 (.cons (.var 5) (.cons (.var 4) (.nil))))) (.not (.call 23 (.cons (.var 1) (.cons (.var 4) (.nil)))))) (.cons (.ret (.con (.bl false))) (.nil)) (.nil)) (.cons (.asg 2 0 (.call 17 (.cons (.var 1) (.nil)))) (.cons (.ite (.cmp .ne (.slice (.call 10 (.cons (.var 2) (.nil))) (.so (.con (.int 1))) .no) (.tup (.cons (.idx (.var 4) (.con (.int 2))) (.cons (.idx (.var 4) (.con (.int 1))) (.nil))))) (.cons (.ret (.con (.bl false))) (.nil)) (.nil)) (.cons (.ite (.and (.cmp .ne (.idx (.var 4) (.con (.int 1))) (.tup (.nil))) (.cmp .ne (.idx (.var 4) (.con (.int 2))) (.tup (.nil)))) (.cons (.asg 6 0 (.idx (.var 4) (.con (.int 0)))) (.cons (.asg 7 0 (.call 10 (.cons (.var 6) (.nil)))) (.cons (.ite (.cmp .ne (.var 7) (.tup (.cons (.var 6) (.cons (.bi .tuple (.cons (.rg1 (.bi .len (.cons (.var 6) (.nil)))) (.nil))) (.cons (.bi .tuple (.cons (.rg1 (.bi .len (.cons (.idx (.var 6) (.con (.int 0))) (.nil)))) (.nil))) (.nil)))))) (.cons (.ret (.con (.bl false))) (.nil)) (.nil)) (.cons (.ite (.cmp .ne (.idx (.call 10 (.cons (.call 9 (.cons (.var 1) (.nil))) (.nil))) (.con (.int 0))) (.call 17 (.cons (.var 6) (.nil)))) (.cons (.ret (.con (.bl false))) (.nil)) (.nil)) (.nil))))) (.nil)) (.cons (.ite (.cmp .gt (.bi .len (.cons (.var 1) (.nil))) (.con (.int 8))) (.cons (.ret (.con (.bl true))) (.nil)) (.nil)) (.cons (.par [8, 9] [0, 0] (.cons (.call 14 (.cons (.var 0) (.cons (.bi .list (.cons (.var 1) (.nil))) (.nil)))) (.cons (.call 14 (.cons (.var 0) (.cons (.bi .list (.cons (.var 1) (.nil))) (.nil)))) (.nil)))) (.cons (.asg 3 0 (.call 14 (.cons (.var 0) (.cons (.lst (.cons (.var 8) (.cons (.bi .tuple (.cons (.lc (.bin .mul (.var 10) (.var 11)) (.tup [.name 10, .name 11]) (.zip (.var 8) (.var 9)) (.no) [10, 11]) (.nil))) (.cons (.bin .mul (.tup (.cons (.con (.int 1)) (.nil))) (.bi .len (.cons (.var 8) (.nil)))) (.nil))))) (.nil))))) (.cons (.ret (.cmp .eq (.call 10 (.cons (.bin .add (.var 1) (.tup (.cons (.var 3) (.nil)))) (.nil))) (.var 4))) (.nil)))))))))⟩
/-- _law_is_no_table -/
def f__law_is_no_table : Fn := ⟨1, (["thing", "error"] : List Str), .cons (.tryB (.call 10 (.cons (.var 0) (.nil))) 0 1 true) (.cons (.ret (.con (.bl false))) (.nil))⟩
/-- law -/
def f_law : Fn := ⟨1, (["script", "hand", "known", "none", "turn"] : List Str), .cons (.asg 1 1 (.call 12 (.cons (.var 0) (.nil)))) (.cons (.cell 1) (.cons (.asg 2 0 (.tup (.cons (.tup (.cons (.con (.int 1)) (.cons (.con (.int 1)) (.cons (.con (.int 0)) (.nil))))) (.cons (.tup (.cons (.con (.int 0)) (.cons (.con (.int 1)) (.cons (.con (.int 1)) (.nil))))) (.cons (.tup (.cons (.con (.int 0)) (.cons (.con (.int 1)) (.cons (.con (.int 0)) (.nil))))) (.cons (.tup (.cons (.con (.int 1)) (.cons (.con (.int 1)) (.cons (.con (.int 0)) (.nil))))) (.cons (.tup (.cons (.con (.int 1)) (.cons (.con (.int 1)) (.cons (.con (.int 1)) (.nil))))) (.nil)))))))) (.cons (.ite (.not (.call 15 (.cons (.call 10 (.cons (.var 2) (.nil))) (.cons (.tup (.cons (.tup (.cons (.tup (.cons (.con (.int 1)) (.cons (.con (.int 0)) (.nil)))) (.cons (.tup (.cons (.con (.int 0)) (.cons (.con (.int 1)) (.nil)))) (.nil)))) (.cons (.tup (.cons (.con (.int 0)) (.cons (.con (.int 1)) (.nil)))) (.cons (.tup (.cons (.con (.int 0)) (.cons (.con (.int 2)) (.nil)))) (.nil))))) (.nil))))) (.cons (.ret (.con (.bl false))) (.nil)) (.nil)) (.cons (.ite (.not (.call 15 (.cons (.lst (.cons (.call 10 (.cons (.tup (.cons (.tup (.cons (.con (.int 1)) (.cons (.con (.int 1)) (.nil)))) (.nil))) (.nil))) (.cons (.call 10 (.cons (.tup (.cons (.tup (.cons (.con (.int 0)) (.nil))) (.nil))) (.nil))) (.nil)))) (.cons (.lst (.cons (.tup (.cons (.tup (.nil)) (.cons (.tup (.nil)) (.cons (.tup (.nil)) (.nil))))) (.cons (.tup (.cons (.tup (.cons (.tup (.cons (.con (.int 0)) (.nil))) (.nil))) (.cons (.tup (.cons (.con (.int 0)) (.nil))) (.cons (.tup (.cons (.con (.int 0)) (.nil))) (.nil))))) (.nil)))) (.nil))))) (.cons (.ret (.con (.bl false))) (.nil)) (.nil)) (.cons (.asg 3 0 (.call 14 (.cons (.var 1) (.cons (.lst (.cons (.con (.non)) (.cons (.tup (.nil)) (.cons (.tup (.cons (.tup (.cons (.con (.int 2)) (.nil))) (.nil))) (.cons (.tup (.cons (.tup (.cons (.con (.int 1)) (.cons (.con (.int 0)) (.nil)))) (.cons (.tup (.cons (.con (.int 1)) (.nil))) (.nil)))) (.cons (.lst (.cons (.tup (.cons (.con (.int 1)) (.nil))) (.nil))) (.cons (.tup (.cons (.tup (.cons (.con (.bl true)) (.nil))) (.nil))) (.cons (.bin .mul (.tup (.cons (.tup (.cons (.con (.int 1)) (.nil))) (.nil))) (.con (.int 11))) (.cons (.con (.int 0)) (.cons (.dct0 false) (.cons (.con (.str "table")) (.nil)))))))))))) (.nil))))) (.cons (.ite (.not (.call 26 (.cons (.var 3) (.nil)))) (.cons (.ret (.con (.bl false))) (.nil)) (.nil)) (.cons (.ret (.bi .all (.cons (.lc (.call 25 (.cons (.var 1) (.cons (.call 16 (.cons (.var 1) (.cons (.con (.int 5)) (.nil)))) (.nil)))) (.name 4) (.rg (.con (.int 4))) (.no) [4]) (.nil)))) (.nil))))))))⟩
def tab : Tab := ⟨([f_is_integer, f_is_within, f_is_tuple, f_is_marks, f_check_marks, f_marks_of, f_things_of, f_pairs_of, f_full_pairs, f_turned, f_least_tables, f_kept_rows, f__law_hand, f__law_draw, f__law_some, f__law_is, f__law_table, f__law_turned, f__law_shared, f__law_pairs, f__law_lots, f__law_kept, f__law_least, f__law_are_pairs_right, f__law_cut, f__law_is_right, f__law_is_no_table, f_law] : List Fn), ([] : List Cl)⟩
end K95
end

section
set_option autoImplicit false
set_option linter.all false
set_option maxRecDepth 3000
namespace K95
open PySem BP TB
variable {K : Nat} {S : List D} {n m : Nat} {T : Nat → Nat → Bool}
theorem run_at' {i : Nat} {F : Fn} (hi : tab.fns[i]? = some F) {k : Nat} (args S : List D) : (tab.at (k + 1)).run i args S = F.runs (tab.at k) args S := by
  cases k with
  | zero => show (match tab.fns[i]? with | some F => F.runs (tab.at 0) args S | none => .stuck) = _; rw [hi]
  | succ k => show (match tab.fns[i]? with | some F => F.runs (tab.at (k + 1)) args S | none => .stuck) = _; rw [hi]
theorem lim_of {n : Nat} (h : n ≤ 1000) : n ≤ lim := Nat.le_trans h (by decide)
def bit (b : Bool) : Nat := if b then 1 else 0
def rowL (m : Nat) (f : Nat → Bool) : List Nat := (List.range m).map fun j => bit (f j)
def tabL (n m : Nat) (T : Nat → Nat → Bool) : List (List Nat) := (List.range n).map fun i => rowL m (T i)
def tabD (n m : Nat) (T : Nat → Nat → Bool) : D := .tup ((tabL n m T).map lotD)
theorem bit_inj {a b : Bool} (h : bit a = bit b) : a = b := by cases a <;> cases b <;> first | rfl | cases h
theorem row_eq {f g : Nat → Bool} : rowL m f = rowL m g ↔ ∀ j, j < m → f j = g j := by
  unfold rowL
  constructor
  · intro h j hj
    exact bit_inj (List.map_inj_left.mp h j (List.mem_range.mpr hj))
  · intro h
    exact List.map_congr_left fun j hj => by rw [h j (List.mem_range.mp hj)]
theorem tab_at {i : Nat} (h : i < n) : idxD (tabD n m T) (.int i) = some (lotD (rowL m (T i))) := by
  show atD ((tabL n m T).map lotD) i = _
  rw [at_map]
  unfold tabL
  rw [List.getElem?_map, List.getElem?_range h]; rfl
theorem row_at {f : Nat → Bool} {j : Nat} (h : j < m) : idxD (lotD (rowL m f)) (.int j) = some (.int (bit (f j))) := by
  show atD ((rowL m f).map I) j = _
  rw [at_map]
  unfold rowL
  rw [List.getElem?_map, List.getElem?_range h]; rfl
theorem dr_tab {S : List D} : dr S (tabD n m T) = some (tabD n m T) := rfl
theorem len_tab : biD .len [tabD n m T] = some (.int n) := by
  show biD .len [.tup _] = _
  rw [bi_len_tup, List.length_map]; unfold tabL; simp
theorem len_row {f : Nat → Bool} : biD .len [lotD (rowL m f)] = some (.int m) := by
  rw [bi_len_lot]; unfold rowL; simp
theorem row_len {f : Nat → Bool} : (rowL m f).length = m := by unfold rowL; simp
/-- len(table[0]) -/
theorem e_wide {P : Prg} {env : BP.Env} {a : Ex} (h : a.ev P false env S = .ok (tabD n m T) S) (hn : 0 < n) : (Ex.bi .len (.cons (.idx a (.con (.int 0))) .nil)).ev P false env S = .ok (.int m) S :=
  e_bi1 (e_idx h e_con rfl (tab_at (i := 0) hn)) rfl len_row
/-- table[i][j] == 1 -/
theorem e_one {P : Prg} {env : BP.Env} {t : Bool} {a b c : Ex} {i j : Nat} (h : a.ev P false env S = .ok (tabD n m T) S) (h2 : b.ev P false env S = .ok (.int i) S) (h3 : c.ev P false env S = .ok (.int j) S) (hi : i < n) (hj : j < m) :
    (Ex.cmp .eq (.idx (.idx a b) c) (.con (.int 1))).ev P t env S = .ok (.bl (T i j)) S := by
  refine e_cmp (e_idx (e_idx h h2 rfl (tab_at hi)) h3 rfl (row_at hj)) e_con rfl rfl ?_
  rw [cmp_eq, eq_int]
  congr 1
  unfold bit
  cases T i j <;> rfl
theorem run_integer (hK : 1 ≤ K) (i : Int) : (tab.at K).run 0 [.int i] S = .ok (.bl true) S := by
  obtain ⟨k, rfl⟩ : ∃ k, K = k + 1 := ⟨K - 1, by omega⟩
  rw [run_at' (F := f_is_integer) rfl]
  refine runs_eq rfl ?_
  simp [f_is_integer, isiD2, isiD, tyD]
theorem run_within (hK : 2 ≤ K) (i a b : Int) : (tab.at K).run 1 [.int i, .int a, .int b] S = .ok (.bl (decide (a ≤ i ∧ i ≤ b))) S := by
  obtain ⟨k, rfl⟩ : ∃ k, K = k + 1 := ⟨K - 1, by omega⟩
  rw [run_at' (F := f_is_within) rfl]
  refine runs_eq rfl ?_
  by_cases h : a ≤ i <;> simp [f_is_within, run_integer (K := k) (by omega), cmpD, h]
theorem run_tuple (hK : 1 ≤ K) (xs : List D) (a b : Int) : (tab.at K).run 2 [.tup xs, .int a, .int b] S = .ok (.bl (decide (a ≤ (xs.length : Int) ∧ (xs.length : Int) ≤ b))) S := by
  obtain ⟨k, rfl⟩ : ∃ k, K = k + 1 := ⟨K - 1, by omega⟩
  rw [run_at' (F := f_is_tuple) rfl]
  refine runs_eq rfl ?_
  by_cases h : a ≤ (xs.length : Int) <;> simp [f_is_tuple, isiD2, isiD, tyD, cmpD, biD, arg1, itemsOf, h]
structure Ok2 (n m : Nat) : Prop where
  n1 : 1 ≤ n
  n10 : n ≤ 10
  m1 : 1 ≤ m
  m10 : m ≤ 10
theorem mem_row {f : Nat → Bool} {x : Nat} (h : x ∈ rowL m f) : x ≤ 1 := by
  unfold rowL at h
  obtain ⟨j, _, rfl⟩ := List.mem_map.mp h
  unfold bit; split <;> omega
theorem run_is_marks (hK : 3 ≤ K) (h : Ok2 n m) : (tab.at K).run 3 [tabD n m T] S = .ok (.bl true) S := by
  obtain ⟨k, rfl⟩ : ∃ k, K = k + 1 := ⟨K - 1, by omega⟩
  rw [run_at' (F := f_is_marks) rfl]
  obtain ⟨n1, n10, m1, m10⟩ := h
  have c0 : (tab.at k).run 2 [tabD n m T, .int 1, .int 10] S = .ok (.bl true) S := by
    show (tab.at k).run 2 [.tup _, _, _] S = _
    rw [run_tuple (by omega), decide_eq_true]
    rw [List.length_map]; unfold tabL; simp; omega
  have c1 : ∀ f : Nat → Bool, (tab.at k).run 2 [lotD (rowL m f), .int 1, .int 10] S = .ok (.bl true) S := fun f => by
    show (tab.at k).run 2 [.tup _, _, _] S = _
    rw [run_tuple (by omega), decide_eq_true]
    rw [List.length_map, row_len]; omega
  have c2 : ∀ x : Nat, x ≤ 1 → (tab.at k).run 1 [.int x, .int 0, .int 1] S = .ok (.bl true) S := fun x hx => by
    rw [run_within (by omega), decide_eq_true]; omega
  revert c0 c1 c2
  generalize tab.at k = P
  intro c0 c1 c2
  refine runs_eq rfl ?_
  have hl : (tabL n m T).length = n := by unfold tabL; simp
  have hrow : ∀ r ∈ tabL n m T, ∃ i, r = rowL m (T i) := fun r hr => by
    unfold tabL at hr
    obtain ⟨i, _, rfl⟩ := List.mem_map.mp hr
    exact ⟨i, rfl⟩
  refine w_cons (w_ite (v := false) (e_or (v := false) (w := false) (e_not (t_call (e_call3 (e_var rfl) e_con (show _ = Res.ok (D.int 10) S from rfl) c0))) fun _ => ?_) (fun q => Bool.noConfusion q) fun _ => ?_)
  · refine e_not (t_bi (b := true) ?_)
    have := e_all (P := P) (env := [.val (tabD n m T), .no, .no]) (S := S) (a := .lc (.call 2 (.cons (.var 1) (.cons (.con (.int 1)) (.cons (.glob "MOST_THINGS" (.int 10)) (.nil))))) (.name 1) (.seq (.var 0)) (.no) [1]) (xs := tabL n m T) (p := fun _ => true)
      (e_lc0 (tabL n m T) lotD _ (e_seqT (e_var rfl)) (fun r hr => ⟨_, rfl, by obtain ⟨i, rfl⟩ := hrow r hr; exact e_call3 (e_var rfl) e_con rfl (c1 _)⟩) (lim_of (by omega)))
    rw [List.all_eq_true.mpr fun _ _ => rfl] at this
    exact this
  refine w_cons (w_ite (v := false) (S' := S) ?_ (fun q => Bool.noConfusion q) fun _ => ?_)
  · refine e_cmp (e_bi1 (e_dc kN1 kN1_inj (tabL n m T) lotD (fun _ => m) (e_seqT (e_var rfl)) (fun r hr => ⟨_, _, rfl, by obtain ⟨i, rfl⟩ := hrow r hr; exact e_bi1 (e_var rfl) rfl len_row, e_con, rfl⟩) (by rw [hl]; exact Nat.lt_of_le_of_lt n10 (by decide))) rfl (bi_len_dct _ _ _)) e_con rfl rfl ?_
    rw [cmp_gt]
    congr 1
    refine decide_eq_false ?_
    have nd : (uniq ((tabL n m T).map fun _ => m)).Nodup := nodup_uniq
    have : (uniq ((tabL n m T).map fun _ => m)).length ≤ 1 := by
      match hu : uniq ((tabL n m T).map fun _ => m) with
      | [] => simp
      | [a] => simp
      | a :: b :: l =>
        rw [hu] at nd
        have ha : a ∈ uniq ((tabL n m T).map fun _ => m) := by rw [hu]; simp
        have hb : b ∈ uniq ((tabL n m T).map fun _ => m) := by rw [hu]; simp
        obtain ⟨_, _, ha⟩ := List.mem_map.mp (mem_uniq.mp ha)
        obtain ⟨_, _, hb⟩ := List.mem_map.mp (mem_uniq.mp hb)
        rw [← ha, ← hb] at nd
        simp at nd
    omega
  refine w_cons (w_ret (v := .bl true) (S' := S) ?_ ⟨rfl, rfl⟩)
  have := e_all2 (P := P) (env := [.val (tabD n m T), .no, .no]) (S := S) (a := .lc2 (.call 1 (.cons (.var 2) (.cons (.con (.int 0)) (.cons (.con (.int 1)) (.nil))))) (.name 1) (.seq (.var 0)) (.name 2) (.seq (.var 1)) (.no) [1, 2] [2]) (xs := tabL n m T) (ys := fun r => r) (p := fun _ _ => true)
    (e_lc2 (tabL n m T) lotD (fun r => r) I (fun _ _ => .bl true) (e_seqT (e_var rfl)) (fun r hr => ⟨_, rfl, e_seqLot (e_var rfl), fun x hx => ⟨_, rfl, by obtain ⟨i, rfl⟩ := hrow r hr; exact e_call3 (e_var rfl) e_con e_con (c2 x (mem_row hx))⟩⟩) ?_)
  · rw [List.all_eq_true.mpr fun _ _ => List.all_eq_true.mpr fun _ _ => rfl] at this
    exact this
  · have key : ∀ l : List (List Nat), (∀ r ∈ l, r.length ≤ 10) → ((l.map fun a => a.map fun _ => D.bl true).flatten).length ≤ l.length * 10 := by
      intro l
      induction l with
      | nil => intro _; simp
      | cons a l ih =>
        intro h
        rw [List.map_cons, List.flatten_cons, List.length_append, List.length_map, List.length_cons]
        have := ih fun r hr => h r (List.mem_cons_of_mem _ hr)
        have := h a List.mem_cons_self
        omega
    have := key (tabL n m T) fun r hr => by obtain ⟨i, rfl⟩ := hrow r hr; rw [row_len]; exact m10
    exact lim_of (by omega)
theorem run_check (hK : 4 ≤ K) (h : Ok2 n m) : (tab.at K).run 4 [tabD n m T] S = .ok .non S := by
  obtain ⟨k, rfl⟩ : ∃ k, K = k + 1 := ⟨K - 1, by omega⟩
  rw [run_at' (F := f_check_marks) rfl]
  have c0 := run_is_marks (K := k) (S := S) (T := T) (by omega) h
  revert c0
  generalize tab.at k = P
  intro c0
  refine runs_eq rfl ?_
  exact w_cons (w_ite (v := false) (e_not (t_call (e_call1 (e_var rfl) c0))) (fun q => Bool.noConfusion q) fun _ => ⟨rfl, rfl⟩)
end K95
end

section
set_option autoImplicit false
set_option linter.all false
set_option maxRecDepth 3000
namespace K95
open PySem BP TB
variable {K : Nat} {S : List D} {n m : Nat} {T : Nat → Nat → Bool}
theorem lim_fl {p : Nat → Bool} (hn : n ≤ 10) : (fl n p).length ≤ lim := Nat.le_trans (fl_len _ _) (lim_of (by omega))
theorem lot_lim {l : List Nat} (h : Lot n l) (hn : n ≤ 10) : l.length ≤ lim := Nat.le_trans h.len (lim_of (by omega))
theorem run_marks_of (hK : 1 ≤ K) (h : Ok2 n m) {A : List Nat} (hA : Lot n A) : (tab.at K).run 5 [tabD n m T, lotD A] S = .ok (lotD (up m T A)) S := by
  obtain ⟨k, rfl⟩ : ∃ k, K = k + 1 := ⟨K - 1, by omega⟩
  rw [run_at' (F := f_marks_of) rfl]
  generalize tab.at k = P
  obtain ⟨n1, n10, m1, m10⟩ := h
  refine runs_eq rfl ?_
  refine w_cons (w_ret (e_bi1 (e_lc (List.range m) I (fun j => A.all fun i => T i j) I (e_rg (e_wide (e_var rfl) n1) (lim_of (by omega))) (fun j hj => ⟨_, rfl, t_bi (e_all (e_lc0 A I _ (e_seqLot (e_var rfl)) (fun i hi => ⟨_, rfl, e_one (e_var rfl) (e_var rfl) (e_var rfl) (hA.lt i hi) (List.mem_range.mp hj)⟩) (lot_lim hA n10))), fun _ => e_var rfl⟩) (by simp; exact lim_of (by omega))) rfl rfl) ⟨rfl, rfl⟩)
theorem run_law_shared (hK : 1 ≤ K) (h : Ok2 n m) {A : List Nat} (hA : Lot n A) : (tab.at K).run 18 [tabD n m T, lotD A] S = .ok (lotD (up m T A)) S := by
  obtain ⟨k, rfl⟩ : ∃ k, K = k + 1 := ⟨K - 1, by omega⟩
  rw [run_at' (F := f__law_shared) rfl]
  generalize tab.at k = P
  obtain ⟨n1, n10, m1, m10⟩ := h
  refine runs_eq rfl ?_
  refine w_cons (w_ret (e_bi1 (e_lc (List.range m) I (fun j => A.all fun i => T i j) I (e_rg (e_wide (e_var rfl) n1) (lim_of (by omega))) (fun j hj => ⟨_, rfl, t_bi (e_all (e_lc0 A I _ (e_seqLot (e_var rfl)) (fun i hi => ⟨_, rfl, e_one (e_var rfl) (e_var rfl) (e_var rfl) (hA.lt i hi) (List.mem_range.mp hj)⟩) (lot_lim hA n10))), fun _ => e_var rfl⟩) (by simp; exact lim_of (by omega))) rfl rfl) ⟨rfl, rfl⟩)
theorem run_things_of (hK : 1 ≤ K) (h : Ok2 n m) {B : List Nat} (hB : Lot m B) : (tab.at K).run 6 [tabD n m T, lotD B] S = .ok (lotD (dn n T B)) S := by
  obtain ⟨k, rfl⟩ : ∃ k, K = k + 1 := ⟨K - 1, by omega⟩
  rw [run_at' (F := f_things_of) rfl]
  generalize tab.at k = P
  obtain ⟨n1, n10, m1, m10⟩ := h
  refine runs_eq rfl ?_
  refine w_cons (w_ret (e_bi1 (e_lc (List.range n) I (fun i => B.all fun j => T i j) I (e_rg (e_bi1 (e_var rfl) rfl len_tab) (lim_of (by omega))) (fun i hi => ⟨_, rfl, t_bi (e_all (e_lc0 B I _ (e_seqLot (e_var rfl)) (fun j hj => ⟨_, rfl, e_one (e_var rfl) (e_var rfl) (e_var rfl) (List.mem_range.mp hi) (hB.lt j hj)⟩) (lot_lim hB m10))), fun _ => e_var rfl⟩) (by simp; exact lim_of (by omega))) rfl rfl) ⟨rfl, rfl⟩)
/-! ### turned -/
theorem tabL_turn : (List.range m).map (fun j => lotD ((List.range n).map fun i => bit (T i j))) = (tabL m n (turn T)).map lotD := by
  unfold tabL; rw [List.map_map]; rfl
theorem e_turned {P : Prg} {env : BP.Env} {a b : Ex} {i j : Nat} {own own2 : List Nat} (hn : 0 < n) (hn2 : n ≤ 1000) (hm : m ≤ 1000) (hr : b.ev P false env S = .ok (.int m) S)
    (h1 : ∀ x : Nat, a.ev P false ((wipeE env own).set j (.val (.int x))) S = .ok (tabD n m T) S)
    (h2 : ∀ (x : Nat) (r : List Nat), ((wipeE ((wipeE env own).set j (.val (.int x))) own2).set i (.val (lotD r)))[i]? = some (.val (lotD r)) ∧ ((wipeE ((wipeE env own).set j (.val (.int x))) own2).set i (.val (lotD r)))[j]? = some (.val (.int x))) :
    (Ex.bi .tuple (.cons (.lc (.bi .tuple (.cons (.lc (.idx (.var i) (.var j)) (.name i) (.seq a) .no own2) .nil)) (.name j) (.rg b) .no own) .nil)).ev P false env S = .ok (tabD m n (turn T)) S := by
  refine e_bi1 (x := .lst ((tabL m n (turn T)).map lotD)) (S' := S) ?_ rfl rfl
  rw [← tabL_turn]
  refine e_lc0 (List.range m) I _ (e_rg hr (lim_of hm)) (fun x hx => ⟨_, rfl, ?_⟩) (by simp; exact lim_of hm)
  have hx := List.mem_range.mp hx
  refine e_bi1 (x := .lst (((List.range n).map fun i => bit (T i x)).map I)) (S' := S) ?_ rfl rfl
  rw [List.map_map]
  have := e_lc0 (P := P) (env := (wipeE env own).set j (.val (.int x))) (S := S) (elt := .idx (.var i) (.var j)) (tg := .name i) (it := .seq a) (own := own2) (List.range n) (fun q => lotD (rowL m (T q))) (fun q => .int (bit (T q x))) ?_ (fun q hq => ⟨_, rfl, ?_⟩) (by simp; exact lim_of hn2)
  · exact this
  · have e : (List.range n).map (fun q => lotD (rowL m (T q))) = (tabL n m T).map lotD := by unfold tabL; rw [List.map_map]; rfl
    rw [e]
    exact e_seqT (h1 x)
  · obtain ⟨q1, q2⟩ := h2 x (rowL m (T q))
    exact e_idx (e_var q1) (e_var q2) rfl (row_at hx)
theorem run_turned (hK : 5 ≤ K) (h : Ok2 n m) : (tab.at K).run 9 [tabD n m T] S = .ok (tabD m n (turn T)) S := by
  obtain ⟨k, rfl⟩ : ∃ k, K = k + 1 := ⟨K - 1, by omega⟩
  rw [run_at' (F := f_turned) rfl]
  have c0 := run_check (K := k) (S := S) (T := T) (by omega) h
  revert c0
  generalize tab.at k = P
  intro c0
  obtain ⟨n1, n10, m1, m10⟩ := h
  refine runs_eq rfl ?_
  exact w_cons (w_ex (e_call1 (e_var rfl) c0) (w_cons (w_ret (e_turned (by omega) (by omega) (by omega) (e_wide (e_var rfl) n1) (fun x => e_var rfl) fun x r => ⟨rfl, rfl⟩) ⟨rfl, rfl⟩)))
theorem run_law_turned (hK : 1 ≤ K) (h : Ok2 n m) : (tab.at K).run 17 [tabD n m T] S = .ok (tabD m n (turn T)) S := by
  obtain ⟨k, rfl⟩ : ∃ k, K = k + 1 := ⟨K - 1, by omega⟩
  rw [run_at' (F := f__law_turned) rfl]
  generalize tab.at k = P
  obtain ⟨n1, n10, m1, m10⟩ := h
  refine runs_eq rfl ?_
  exact w_cons (w_ret (e_turned (by omega) (by omega) (by omega) (e_wide (e_var rfl) n1) (fun x => e_var rfl) fun x r => ⟨rfl, rfl⟩) ⟨rfl, rfl⟩)
end K95
end

section
set_option autoImplicit false
set_option linter.all false
set_option maxRecDepth 3000
namespace K95
open PySem BP TB
variable {K : Nat} {S : List D} {n m : Nat} {T : Nat → Nat → Bool}
/-! ### kept rows -/
def leB (m : Nat) (T : Nat → Nat → Bool) (i k : Nat) : Bool := (List.range m).all fun j => decide (bit (T i j) ≤ bit (T k j))
def eqB (m : Nat) (T : Nat → Nat → Bool) (i k : Nat) : Bool := decide (rowL m (T i) = rowL m (T k))
def great (n m : Nat) (T : Nat → Nat → Bool) (i : Nat) : List Nat := fl n fun k => leB m T i k && !eqB m T k i
def keptB (n m : Nat) (T : Nat → Nat → Bool) (i : Nat) : Bool := !((List.range i).any fun k => eqB m T k i) && !decide (rowL m (fun j => (great n m T i).all fun k => T k j) = rowL m (T i))
theorem leB_iff {i k : Nat} : leB m T i k = true ↔ RowLe m T i k := by
  unfold leB
  simp only [List.all_eq_true, List.mem_range, decide_eq_true_eq]
  refine forall_congr' fun j => forall_congr' fun hj => ?_
  unfold bit
  cases T i j <;> cases T k j <;> simp
theorem eqB_iff {i k : Nat} : eqB m T i k = true ↔ RowEq m T i k := by unfold eqB; rw [decide_eq_true_eq, row_eq]; exact Iff.rfl
theorem mem_great {i k : Nat} : k ∈ great n m T i ↔ k < n ∧ RowLe m T i k ∧ ¬ RowEq m T i k := by
  unfold great
  rw [mem_fl, Bool.and_eq_true, leB_iff, Bool.not_eq_true', ← Bool.not_eq_true, eqB_iff]
  exact ⟨fun ⟨h1, h2, h3⟩ => ⟨h1, h2, fun h => h3 h.symm⟩, fun ⟨h1, h2, h3⟩ => ⟨h1, h2, fun h => h3 h.symm⟩⟩
theorem keptB_iff {i : Nat} : keptB n m T i = true ↔ Kept n m T i := by
  unfold keptB
  rw [Bool.and_eq_true, Bool.not_eq_true', ← Bool.not_eq_true, List.any_eq_true, Bool.not_eq_true', decide_eq_false_iff_not, row_eq]
  refine and_congr ?_ ?_
  · constructor
    · exact fun h k hk he => h ⟨k, List.mem_range.mpr hk, eqB_iff.mpr he⟩
    · rintro h ⟨k, hk, he⟩
      exact h k (List.mem_range.mp hk) (eqB_iff.mp he)
  · constructor
    · intro h
      refine Classical.byContradiction fun q => h fun j hj => ?_
      rw [Bool.eq_iff_iff, List.all_eq_true]
      constructor
      · intro h2
        cases hT : T i j with
        | true => rfl
        | false => exact absurd ⟨j, hj, hT, fun k hk h3 h4 => h2 k (mem_great.mpr ⟨hk, h3, h4⟩)⟩ q
      · exact fun hT k hk => (mem_great.mp hk).2.1 j hj hT
    · rintro ⟨j, hj, hf, hg⟩ h
      have := h j hj
      rw [hf, List.all_eq_false] at this
      obtain ⟨k, hk, h2⟩ := this
      obtain ⟨h3, h4, h5⟩ := mem_great.mp hk
      exact h2 (hg k h3 h4 h5)
def keptL (n m : Nat) (T : Nat → Nat → Bool) : List Nat := fl n (keptB n m T)
theorem keeps (n m : Nat) (T : Nat → Nat → Bool) : Keeps n m T (keptL n m T) := ⟨lot_fl _ _, fun k hk => by unfold keptL; rw [mem_fl, keptB_iff]; exact ⟨fun h => h.2, fun h => ⟨hk, h⟩⟩⟩
theorem keeps_one {J : List Nat} (h : Keeps n m T J) : J = keptL n m T := h.lot.eq (lot_fl _ _) fun k hk => by rw [h.iff k hk, (keeps n m T).iff k hk]
/-! reading -/
def rowAt (m : Nat) (T : Nat → Nat → Bool) (i : Nat) : D := lotD (rowL m (T i))
theorem rows_eq : (List.range n).map (rowAt m T) = (tabL n m T).map lotD := by unfold tabL; rw [List.map_map]; rfl
theorem e_rows {P : Prg} {env : BP.Env} {a : Ex} (h : a.ev P false env S = .ok (tabD n m T) S) : (It.seq a).evi P env S = .ok ((List.range n).map (rowAt m T)) S := by
  rw [rows_eq]; exact e_seqT h
theorem e_enumTab {P : Prg} {env : BP.Env} {a : Ex} (h : a.ev P false env S = .ok (tabD n m T) S) : (It.enum a).evi P env S = .ok ((List.range n).map fun i : Nat => .tup [.int (i : Nat), rowAt m T i]) S := by
  have := e_enumT (P := P) (env := env) (S := S) (a := a) (xs := tabL n m T) (enc := lotD) h
  rw [this]
  congr 1
  apply List.ext_getElem?
  intro i
  rw [List.getElem?_map, List.getElem?_map, List.getElem?_zipIdx]
  unfold tabL
  rw [List.getElem?_map]
  by_cases hi : i < n
  · rw [List.getElem?_range hi]; simp [rowAt]
  · rw [List.getElem?_eq_none (by simpa using hi)]; rfl
/-- all a <= b of two rows -/
theorem e_le {P : Prg} {env : BP.Env} {a b : Ex} {i k x y : Nat} {own : List Nat} (h1 : a.ev P false env S = .ok (rowAt m T i) S) (h2 : b.ev P false env S = .ok (rowAt m T k) S) (hm : m ≤ 1000)
    (h3 : ∀ u v : Nat, ((((wipeE env own).set x (.val (.int u))).set y (.val (.int v))) : BP.Env)[x]? = some (.val (.int u)) ∧ ((((wipeE env own).set x (.val (.int u))).set y (.val (.int v))) : BP.Env)[y]? = some (.val (.int v))) :
    (Ex.bi .all (.cons (.lc (.cmp .le (.var x) (.var y)) (.tup [.name x, .name y]) (.zip a b) (.no) own) .nil)).ev P false env S = .ok (.bl (leB m T i k)) S := by
  refine e_all (e_lc0 (List.range m) (fun j => .tup [.int (bit (T i j)), .int (bit (T k j))]) (fun j => .bl (decide (bit (T i j) ≤ bit (T k j)))) ?_ (fun j hj => ⟨_, rfl, ?_⟩) (by simp; exact lim_of hm))
  · rw [evi_zip]
    unfold zipF
    rw [h1, Res.bind_ok, h2, Res.bind_ok]
    show Res.ok (zipL ((rowL m (T i)).map I) ((rowL m (T k)).map I)) S = _
    congr 1
    unfold zipL rowL
    rw [List.map_map, List.map_map, List.zip_map', List.map_map]
    rfl
  · obtain ⟨q1, q2⟩ := h3 (bit (T i j)) (bit (T k j))
    refine e_cmp (e_var q1) (e_var q2) rfl rfl ?_
    rw [cmp_le]
    congr 1
    rw [Bool.eq_iff_iff, decide_eq_true_eq, decide_eq_true_eq]
    omega
theorem eq_rows {i k : Nat} : eqD (rowAt m T i) (rowAt m T k) = some (eqB m T i k) := eq_lotT _ _
theorem bi_intB (b : Bool) : biD .int [.bl b] = some (.int (bit b)) := by cases b <;> rfl
theorem run_kept (hK : 1 ≤ K) (h : Ok2 n m) : (tab.at K).run 11 [tabD n m T] S = .ok (lotD (keptL n m T)) S := by
  obtain ⟨k, rfl⟩ : ∃ k, K = k + 1 := ⟨K - 1, by omega⟩
  rw [run_at' (F := f_kept_rows) rfl]
  generalize tab.at k = P
  obtain ⟨n1, n10, m1, m10⟩ := h
  refine runs_eq rfl ?_
  refine w_cons (w_asg (e_lst e_evs0 (Nat.zero_le _)) ?_)
  refine w_cons (w_for (List.range n) (fun i : Nat => .tup [.int (i : Nat), rowAt m T i]) (fun rest env S' => S' = S ∧ ∃ i x2 x3 x4 x5 x6 x7 x8 x9 x10 x11 x12, i + rest.length = n ∧ rest = List.range' i rest.length ∧ env = [.val (tabD n m T), .own 1 (.lst (((List.range i).filter (keptB n m T)).map I)), x2, x3, x4, x5, x6, x7, x8, x9, x10, x11, x12]) (e_enumTab (e_var rfl)) ⟨rfl, 0, _, _, _, _, _, _, _, _, _, _, _, by simp, by simp [List.range_eq_range'], rfl⟩ ?_ ?_)
  · rintro i rest env S' ⟨e, i', x2, x3, x4, x5, x6, x7, x8, x9, x10, x11, x12, h1, h2, rfl⟩
    subst e
    rw [List.length_cons, List.range'_succ] at h2
    obtain ⟨rfl, h2⟩ := List.cons.inj h2
    rw [List.length_cons] at h1
    have hi : i < n := by omega
    refine ⟨_, rfl, ?_⟩
    refine w_cons (w_asg (v := .lst ((fl n fun k => !decide (k = i) && leB m T i k).map (rowAt m T))) (S' := S') (e_lc (List.range n) (fun k : Nat => .tup [.int (k : Nat), rowAt m T k]) (fun k => !decide (k = i) && leB m T i k) (rowAt m T) (e_enumTab (e_var rfl)) (fun k hk => ⟨_, rfl, e_and (t := true) (e_cmp (e_var rfl) (e_var rfl) rfl rfl ?_) fun _ => t_bi (e_le (e_var rfl) (e_var rfl) (by omega) fun u v => ⟨rfl, rfl⟩), fun _ => e_var rfl⟩) (by simp; exact lim_of (by omega))) ?_)
    · rw [cmp_ne, eq_int]
      show some (!decide ((k : Int) = i)) = some (!decide (k = i))
      congr 2
      rw [Bool.eq_iff_iff, decide_eq_true_eq, decide_eq_true_eq]
      omega
    refine w_cons (w_asg (v := .lst (((List.range i).filter fun k => eqB m T k i).map I)) (S' := S') (e_lc (List.range i) I (fun k => eqB m T k i) I (e_rg (e_var rfl) (lim_of (by omega))) (fun k hk => ⟨_, rfl, e_cmp (t := true) (e_idx (e_var rfl) (e_var rfl) rfl (tab_at (by have := List.mem_range.mp hk; omega))) (e_var rfl) rfl rfl (by rw [cmp_eq]; exact eq_rows), fun _ => e_var rfl⟩) (by simp; exact lim_of (by omega))) ?_)
    have hg : (fl n fun k => !decide (k = i) && leB m T i k).filter (fun k => !eqB m T k i) = great n m T i := by
      unfold great fl
      rw [List.filter_filter]
      refine List.filter_congr fun k _ => ?_
      by_cases hk : k = i
      · subst hk
        have : eqB m T k k = true := eqB_iff.mpr fun _ _ => rfl
        rw [this]; simp
      · simp [hk]
        cases leB m T i k <;> cases eqB m T k i <;> rfl
    refine w_cons (w_asg (v := .lst ((great n m T i).map (rowAt m T))) (S' := S') ?_ ?_)
    · rw [← hg]
      exact e_lc _ (rowAt m T) (fun k => !eqB m T k i) (rowAt m T) (e_seqL (e_var rfl)) (fun k hk => ⟨_, rfl, e_cmp (t := true) (e_var rfl) (e_var rfl) rfl rfl (by rw [cmp_ne, eq_rows]; rfl), fun _ => e_var rfl⟩) (lim_fl n10)
    refine w_cons (w_asg (v := lotD (rowL m fun j => (great n m T i).all fun k => T k j)) (S' := S') (e_bi1 (x := .lst ((rowL m fun j => (great n m T i).all fun k => T k j).map I)) (S' := S') ?_ rfl rfl) ?_)
    · unfold rowL
      rw [List.map_map]
      refine e_lc0 (List.range m) I _ (e_rg (e_bi1 (e_var rfl) rfl len_row) (lim_of (by omega))) (fun j hj => ⟨_, rfl, e_bi1 (e_all (e_lc0 (great n m T i) (rowAt m T) (fun k => .bl (T k j)) (e_seqL (e_var rfl)) (fun k hk => ⟨_, rfl, ?_⟩) (lim_fl n10))) rfl (bi_intB _)⟩) (by simp; exact lim_of (by omega))
      refine e_cmp (e_idx (e_var rfl) (e_var rfl) rfl (row_at (List.mem_range.mp hj))) e_con rfl rfl ?_
      rw [cmp_eq, eq_int]
      congr 1
      unfold bit
      cases T k j <;> rfl
    have hlen : ((List.range i).filter (keptB n m T)).length ≤ 10 := by
      have := List.length_filter_le (keptB n m T) (List.range i)
      rw [List.length_range] at this
      omega
    have hsucc : (List.range (i + 1)).filter (keptB n m T) = (List.range i).filter (keptB n m T) ++ (if keptB n m T i = true then [i] else []) := by
      rw [List.range_succ, List.filter_append, List.filter_cons, List.filter_nil]
    have hkb : (decide (((List.range i).filter fun k => eqB m T k i).length = 0) && !decide (rowL m (fun j => (great n m T i).all fun k => T k j) = rowL m (T i))) = keptB n m T i := by
      unfold keptB
      congr 1
      rw [Bool.eq_iff_iff, decide_eq_true_eq, List.length_eq_zero_iff, List.filter_eq_nil_iff, Bool.not_eq_true', List.any_eq_false]
    refine w_cons (w_ite (v := keptB n m T i) (S' := S') ?_ (fun q => w_cons (w_st (s_app (i := 1) rfl (e_var rfl) (by rw [List.length_map]; exact Nat.lt_of_le_of_lt hlen (by decide))) ⟨rfl, i + 1, .val (.int i), .val (rowAt m T i), .val (.lst ((fl n fun k => !decide (k = i) && leB m T i k).map (rowAt m T))), .val (.lst (((List.range i).filter fun k => eqB m T k i).map I)), .val (.lst ((great n m T i).map (rowAt m T))), .val (lotD (rowL m fun j => (great n m T i).all fun k => T k j)), x8, x9, x10, x11, x12, by omega, h2, ?_⟩)) fun q => ⟨rfl, i + 1, .val (.int i), .val (rowAt m T i), .val (.lst ((fl n fun k => !decide (k = i) && leB m T i k).map (rowAt m T))), .val (.lst (((List.range i).filter fun k => eqB m T k i).map I)), .val (.lst ((great n m T i).map (rowAt m T))), .val (lotD (rowL m fun j => (great n m T i).all fun k => T k j)), x8, x9, x10, x11, x12, by omega, h2, ?_⟩)
    · rw [← hkb]
      refine e_and (t := true) (e_cmp (e_bi1 (e_var rfl) rfl (by rw [bi_len_lst, List.length_map])) e_con rfl rfl ?_) fun _ => e_cmp (e_var rfl) (e_var rfl) rfl rfl (by rw [cmp_ne]; show (eqD (lotD _) (lotD _)).map _ = _; rw [eq_lotT]; rfl)
      rw [cmp_eq, eq_int]
      congr 1
      rw [Bool.eq_iff_iff, decide_eq_true_eq, decide_eq_true_eq]
      omega
    · rw [hsucc, if_pos q, List.map_append]; rfl
    · rw [hsucc, if_neg (by rw [q]; exact Bool.false_ne_true), List.append_nil]; rfl
  · rintro env S' ⟨e, i, x2, x3, x4, x5, x6, x7, x8, x9, x10, x11, x12, h1, h2, rfl⟩
    subst e
    have h1 : i = n := by simpa using h1
    subst h1
    exact w_cons (w_ret (e_bi1 (e_peek rfl) rfl rfl) ⟨rfl, rfl⟩)
end K95
end

section
set_option autoImplicit false
set_option linter.all false
set_option maxRecDepth 3000
namespace K95
open PySem BP TB
variable {K : Nat} {S : List D} {n m : Nat} {T : Nat → Nat → Bool}
/-! ### the law's own kept rows -/
theorem ints_map (L : List Nat) (f : Nat → Int) : intsD (L.map fun k => .int (f k)) = some (L.map f) := by
  induction L with
  | nil => rfl
  | cons a L ih => rw [List.map_cons, List.map_cons]; unfold intsD; rw [ih]; rfl
theorem min_bits : ∀ (bs : List Bool) (b : Bool), minI ((bit b : Int) :: bs.map fun b => ((bit b : Nat) : Int)) = some ((bit (b && bs.all id) : Nat) : Int)
  | [], b => by simp [minI]
  | c :: bs, b => by
    rw [List.map_cons]
    unfold minI
    rw [min_bits bs c, List.all_cons]
    cases b <;> cases c <;> cases bs.all id <;> rfl
theorem min_row {L : List Nat} {j : Nat} : biD .minL [.lst (.int 1 :: L.map fun k => .int ((bit (T k j) : Nat) : Int))] = some (.int (bit (L.all fun k => T k j))) := by
  show ((intsD (.int 1 :: L.map fun k => .int ((bit (T k j) : Nat) : Int))).bind minI).map D.int = _
  have e : intsD (.int 1 :: L.map fun k => .int ((bit (T k j) : Nat) : Int)) = some (((bit true : Nat) : Int) :: (L.map fun k => T k j).map fun b => ((bit b : Nat) : Int)) := by
    unfold intsD
    rw [ints_map L fun k => ((bit (T k j) : Nat) : Int), List.map_map]; rfl
  rw [e]
  show (minI _).map D.int = _
  rw [min_bits, List.all_map]; rfl
theorem in_rows {i : Nat} (L : List Nat) : inD (rowAt m T i) (.tup (L.map (rowAt m T))) = some (L.any fun k => eqB m T k i) := by
  have e0 : L.map (rowAt m T) = (L.map fun k => rowL m (T k)).map lotD := by rw [List.map_map]; rfl
  have e : (D.tup (L.map (rowAt m T))).py = some (.tuple ((L.map fun k => rowL m (T k)).map pL)) := by
    rw [e0]
    show (D.pys _).map PyData.tuple = _
    rw [pys_lots]; rfl
  unfold inD
  show (match (rowAt m T i).py, (D.tup (L.map (rowAt m T))).py with
    | some x, some (.tuple ys) => if SeqAt.shaped x && SeqAt.shaped (.tuple ys) then some (ys.any fun z => PyData.eqv z x) else none
    | _, _ => none) = _
  rw [e, show (rowAt m T i).py = some (pL (rowL m (T i))) from py_lot _]
  show (if (SeqAt.shaped (pL (rowL m (T i))) && SeqAt.shaped (.tuple ((L.map fun k => rowL m (T k)).map pL))) = true then some (((L.map fun k => rowL m (T k)).map pL).any fun z => PyData.eqv z (pL (rowL m (T i)))) else none) = _
  rw [shp_L, shp_Lt, List.map_map, List.any_map]
  show some (L.any _) = _
  congr 2
  funext k
  exact eqv_L _ _
theorem cut_tab {i : Nat} (h : i ≤ n) : sliceD (tabD n m T) none (some (i : Int)) = some (.tup ((List.range i).map (rowAt m T))) := by
  show some (D.tup (cutL ((tabL n m T).map lotD) none (some (i : Int)))) = _
  rw [← rows_eq]
  unfold cutL
  rw [List.length_map, List.length_range]
  have e1 : clipI n 0 none = 0 := rfl
  have e2 : clipI n n (some (i : Int)) = i := by
    show (if (i : Int) < 0 then max ((i : Int) + n) 0 else min (i : Int) n).toNat = i
    rw [if_neg (by omega)]
    omega
  rw [e1, e2, List.drop_zero, Nat.sub_zero, ← List.map_take, List.take_range, Nat.min_eq_left h]
theorem run_law_kept (hK : 1 ≤ K) (h : Ok2 n m) : (tab.at K).run 21 [tabD n m T] S = .ok (lotD (keptL n m T)) S := by
  obtain ⟨k, rfl⟩ : ∃ k, K = k + 1 := ⟨K - 1, by omega⟩
  rw [run_at' (F := f__law_kept) rfl]
  generalize tab.at k = P
  obtain ⟨n1, n10, m1, m10⟩ := h
  refine runs_eq rfl ?_
  refine w_cons (w_asg (e_lst e_evs0 (Nat.zero_le _)) ?_)
  refine w_cons (w_for (List.range n) (fun i : Nat => .tup [.int (i : Nat), rowAt m T i]) (fun rest env S' => S' = S ∧ ∃ i x2 x3 x4 x5 x6 x7 x8 x9, i + rest.length = n ∧ rest = List.range' i rest.length ∧ env = [.val (tabD n m T), .own 1 (.lst (((List.range i).filter (keptB n m T)).map I)), x2, x3, x4, x5, x6, x7, x8, x9]) (e_enumTab (e_var rfl)) ⟨rfl, 0, _, _, _, _, _, _, _, _, by simp, by simp [List.range_eq_range'], rfl⟩ ?_ ?_)
  · rintro i rest env S' ⟨e, i', x2, x3, x4, x5, x6, x7, x8, x9, h1, h2, rfl⟩
    subst e
    rw [List.length_cons, List.range'_succ] at h2
    obtain ⟨rfl, h2⟩ := List.cons.inj h2
    rw [List.length_cons] at h1
    have hi : i < n := by omega
    refine ⟨_, rfl, ?_⟩
    have hg : (fl n fun k => !eqB m T k i && leB m T i k) = great n m T i := by
      unfold great fl
      exact List.filter_congr fun k _ => Bool.and_comm _ _
    refine w_cons (w_asg (v := .lst ((great n m T i).map (rowAt m T))) (S' := S') ?_ ?_)
    · rw [← hg]
      exact e_lc (List.range n) (rowAt m T) (fun k => !eqB m T k i && leB m T i k) (rowAt m T) (e_rows (e_var rfl)) (fun k hk => ⟨_, rfl, e_and (t := true) (e_cmp (e_var rfl) (e_var rfl) rfl rfl (by rw [cmp_ne, eq_rows]; rfl)) fun _ => t_bi (e_le (e_var rfl) (e_var rfl) (by omega) fun u v => ⟨rfl, rfl⟩), fun _ => e_var rfl⟩) (by simp; exact lim_of (by omega))
    refine w_cons (w_asg (v := lotD (rowL m fun j => (great n m T i).all fun k => T k j)) (S' := S') (e_bi1 (x := .lst ((rowL m fun j => (great n m T i).all fun k => T k j).map I)) (S' := S') ?_ rfl rfl) ?_)
    · unfold rowL
      rw [List.map_map]
      refine e_lc0 (List.range m) I _ (e_rg (e_bi1 (e_var rfl) rfl len_row) (lim_of (by omega))) (fun j hj => ⟨_, rfl, e_bi1 (e_bin (e_lst (e_evs1 e_con) (show 1 ≤ lim by decide)) (e_lc0 (great n m T i) (rowAt m T) (fun k => .int ((bit (T k j) : Nat) : Int)) (e_seqL (e_var rfl)) (fun k hk => ⟨_, rfl, e_idx (e_var rfl) (e_var rfl) rfl (row_at (List.mem_range.mp hj))⟩) (lim_fl n10)) rfl rfl (bin_lst ?_)) rfl min_row⟩) (by simp; exact lim_of (by omega))
      rw [List.length_map]
      have := fl_len n fun k => leB m T i k && !eqB m T k i
      show 1 + (great n m T i).length ≤ lim
      exact lim_of (by unfold great; omega)
    have hlen : ((List.range i).filter (keptB n m T)).length ≤ 10 := by
      have := List.length_filter_le (keptB n m T) (List.range i)
      rw [List.length_range] at this
      omega
    have hsucc : (List.range (i + 1)).filter (keptB n m T) = (List.range i).filter (keptB n m T) ++ (if keptB n m T i = true then [i] else []) := by
      rw [List.range_succ, List.filter_append, List.filter_cons, List.filter_nil]
    have hkb : (!decide (rowL m (fun j => (great n m T i).all fun k => T k j) = rowL m (T i)) && !((List.range i).any fun k => eqB m T k i)) = keptB n m T i := by
      unfold keptB; exact Bool.and_comm _ _
    refine w_cons (w_ite (v := keptB n m T i) (S' := S') ?_ (fun q => w_cons (w_st (s_app (i := 1) rfl (e_var rfl) (by rw [List.length_map]; exact Nat.lt_of_le_of_lt hlen (by decide))) ⟨rfl, i + 1, .val (.int i), .val (rowAt m T i), .val (.lst ((great n m T i).map (rowAt m T))), .val (lotD (rowL m fun j => (great n m T i).all fun k => T k j)), x6, x7, x8, x9, by omega, h2, ?_⟩)) fun q => ⟨rfl, i + 1, .val (.int i), .val (rowAt m T i), .val (.lst ((great n m T i).map (rowAt m T))), .val (lotD (rowL m fun j => (great n m T i).all fun k => T k j)), x6, x7, x8, x9, by omega, h2, ?_⟩)
    · rw [← hkb]
      refine e_and (t := true) (e_cmp (e_var rfl) (e_var rfl) rfl rfl (by rw [cmp_ne]; show (eqD (lotD _) (lotD _)).map _ = _; rw [eq_lotT]; rfl)) fun _ => e_cmp (e_var rfl) (e_sliceH (e_var rfl) (e_var rfl) rfl (cut_tab (by omega))) rfl rfl ?_
      rw [cmp_notIn, in_rows]; rfl
    · rw [hsucc, if_pos q, List.map_append]; rfl
    · rw [hsucc, if_neg (by rw [q]; exact Bool.false_ne_true), List.append_nil]; rfl
  · rintro env S' ⟨e, i, x2, x3, x4, x5, x6, x7, x8, x9, h1, h2, rfl⟩
    subst e
    have h1 : i = n := by simpa using h1
    subst h1
    exact w_cons (w_ret (e_bi1 (e_peek rfl) rfl rfl) ⟨rfl, rfl⟩)
/-! ### the table of what is kept -/
theorem e_small {P : Prg} {env : BP.Env} {a b c : Ex} {i j : Nat} {own own2 : List Nat} {J M : List Nat} (hn : n ≤ 10) (hm : m ≤ 10) (hJ : Lot n J) (hM : Lot m M) (hb : b.ev P false env S = .ok (lotD J) S)
    (h1 : ∀ x : Nat, c.ev P false ((wipeE env own).set i (.val (.int x))) S = .ok (lotD M) S)
    (h2 : ∀ x y : Nat, a.ev P false ((wipeE ((wipeE env own).set i (.val (.int x))) own2).set j (.val (.int y))) S = .ok (tabD n m T) S ∧ ((wipeE ((wipeE env own).set i (.val (.int x))) own2).set j (.val (.int y)))[i]? = some (.val (.int x)) ∧ ((wipeE ((wipeE env own).set i (.val (.int x))) own2).set j (.val (.int y)))[j]? = some (.val (.int y))) :
    (Ex.bi .tuple (.cons (.lc (.bi .tuple (.cons (.lc (.idx (.idx a (.var i)) (.var j)) (.name j) (.seq c) .no own2) .nil)) (.name i) (.seq b) .no own) .nil)).ev P false env S = .ok (tabD J.length M.length (small J M T)) S := by
  have e : tabD J.length M.length (small J M T) = .tup (J.map fun x => lotD (M.map fun y => bit (T x y))) := by
    unfold tabD tabL
    rw [List.map_map]
    congr 1
    have key : ∀ {α : Type} (L : List Nat) (f : Nat → α), (List.range L.length).map (fun a => f (L.getD a 0)) = L.map f := fun L f => by
      apply List.ext_getElem?
      intro a
      rw [List.getElem?_map, List.getElem?_map]
      by_cases ha : a < L.length
      · rw [List.getElem?_range ha, List.getElem?_eq_getElem ha, Option.map_some, Option.map_some, List.getD_eq_getElem?_getD, List.getElem?_eq_getElem ha]; rfl
      · rw [List.getElem?_eq_none (by simpa using ha), List.getElem?_eq_none (by omega)]; rfl
    rw [← key J fun x => lotD (M.map fun y => bit (T x y))]
    refine List.map_congr_left fun a _ => ?_
    show lotD (rowL M.length (small J M T a)) = _
    unfold rowL small
    rw [key M fun y => bit (T (J.getD a 0) y)]
  rw [e]
  refine e_bi1 (x := .lst (J.map fun x => lotD (M.map fun y => bit (T x y)))) (S' := S) ?_ rfl rfl
  refine e_lc0 J I _ (e_seqLot hb) (fun x hx => ⟨_, rfl, ?_⟩) (lot_lim hJ hn)
  refine e_bi1 (x := .lst ((M.map fun y => bit (T x y)).map I)) (S' := S) ?_ rfl rfl
  rw [List.map_map]
  refine e_lc0 M I _ (e_seqLot (h1 x)) (fun y hy => ⟨_, rfl, ?_⟩) (lot_lim hM hm)
  obtain ⟨q1, q2, q3⟩ := h2 x y
  exact e_idx (e_idx q1 (e_var q2) rfl (tab_at (hJ.lt x hx))) (e_var q3) rfl (row_at (hM.lt y hy))
def leastD (n m : Nat) (T : Nat → Nat → Bool) : D := .tup [tabD (keptL n m T).length (keptL m n (turn T)).length (small (keptL n m T) (keptL m n (turn T)) T), lotD (keptL n m T), lotD (keptL m n (turn T))]
theorem kept_lot : Lot n (keptL n m T) := lot_fl _ _
theorem run_least (hK : 5 ≤ K) (h : Ok2 n m) : (tab.at K).run 10 [tabD n m T] S = .ok (leastD n m T) S := by
  obtain ⟨k, rfl⟩ : ∃ k, K = k + 1 := ⟨K - 1, by omega⟩
  rw [run_at' (F := f_least_tables) rfl]
  have c0 := run_check (K := k) (S := S) (T := T) (by omega) h
  have c1 := run_kept (K := k) (S := S) (T := T) (by omega) h
  have c2 := run_kept (K := k) (S := S) (T := turn T) (n := m) (m := n) (by omega) ⟨h.m1, h.m10, h.n1, h.n10⟩
  revert c0 c1 c2
  generalize tab.at k = P
  intro c0 c1 c2
  obtain ⟨n1, n10, m1, m10⟩ := h
  refine runs_eq rfl ?_
  refine w_cons (w_ex (e_call1 (e_var rfl) c0) (w_cons (w_asg (e_call1 (e_var rfl) c1) (w_cons (w_asg (e_call1 (e_turned (by omega) (by omega) (by omega) (e_wide (e_var rfl) n1) (fun x => e_var rfl) fun x r => ⟨rfl, rfl⟩) c2) ?_)))))
  exact w_cons (w_ret (e_tup (e_evsC (e_small n10 m10 kept_lot kept_lot (e_var rfl) (fun x => e_var rfl) fun x y => ⟨e_var rfl, rfl, rfl⟩) (e_evsC (e_var rfl) (e_evs1 (e_var rfl)))) (show 3 ≤ lim by decide)) ⟨rfl, rfl⟩)
theorem run_law_least (hK : 2 ≤ K) (h : Ok2 n m) : (tab.at K).run 22 [tabD n m T] S = .ok (leastD n m T) S := by
  obtain ⟨k, rfl⟩ : ∃ k, K = k + 1 := ⟨K - 1, by omega⟩
  rw [run_at' (F := f__law_least) rfl]
  have c1 := run_law_kept (K := k) (S := S) (T := T) (by omega) h
  have c2 := run_law_kept (K := k) (S := S) (T := turn T) (n := m) (m := n) (by omega) ⟨h.m1, h.m10, h.n1, h.n10⟩
  have c3 := run_law_turned (K := k) (S := S) (T := T) (by omega) h
  revert c1 c2 c3
  generalize tab.at k = P
  intro c1 c2 c3
  obtain ⟨n1, n10, m1, m10⟩ := h
  refine runs_eq rfl ?_
  refine w_cons (w_par (e_evsC (e_call1 (e_var rfl) c1) (e_evs1 (e_call1 (e_call1 (e_var rfl) c3) c2))) rfl ?_)
  exact w_cons (w_ret (e_tup (e_evsC (e_small n10 m10 kept_lot kept_lot (e_var rfl) (fun x => e_var rfl) fun x y => ⟨e_var rfl, rfl, rfl⟩) (e_evsC (e_var rfl) (e_evs1 (e_var rfl)))) (show 3 ≤ lim by decide)) ⟨rfl, rfl⟩)
end K95
end

section
set_option autoImplicit false
set_option linter.all false
set_option maxRecDepth 3000
namespace K95
open PySem BP TB
variable {K : Nat} {S : List D} {n m : Nat} {T : Nat → Nat → Bool}
/-- found + [lot + (p,) for lot in found] -/
theorem e_more {P : Prg} {env : BP.Env} {i j x a : Nat} {own : List Nat} (h1 : env[i]? = some (.val (.lst ((lots0 a).map lotD)))) (ha : a ≤ 10) (h2 : (wipeE env own)[i]? = some (.val (.lst ((lots0 a).map lotD))) ∨ True)
    (h3 : ∀ l : List Nat, ((wipeE env own).set j (.val (lotD l)))[j]? = some (.val (lotD l)) ∧ ((wipeE env own).set j (.val (lotD l)))[x]? = some (.val (.int a))) :
    (Ex.bin .add (.var i) (.lc (.bin .add (.var j) (.tup (.cons (.var x) (.nil)))) (.name j) (.seq (.var i)) (.no) own)).ev P false env S = .ok (.lst ((lots0 (a + 1)).map lotD)) S := by
  have hp : 2 ^ a ≤ 2 ^ 10 := Nat.pow_le_pow_right (by omega) ha
  have l4 : 4096 ≤ lim := by decide
  rw [lots0_succ, List.map_append]
  refine e_bin (x' := .lst ((lots0 a).map lotD)) (y := .lst (((lots0 a).map fun l => l ++ [a]).map lotD)) (y' := .lst (((lots0 a).map fun l => l ++ [a]).map lotD)) (S' := S) (S'' := S) (e_var h1) ?_ rfl rfl (bin_lst ?_)
  · rw [List.map_map]
    refine e_lc0 (lots0 a) lotD _ (e_seqL (e_var h1)) (fun l hl => ⟨_, rfl, ?_⟩) (by rw [lots0_len]; omega)
    have hl := ((mem_lots0 a l).mp hl).len
    have hb := bin_tup (xs := l.map I) (ys := [I a]) (by simp; exact lim_of (by omega))
    obtain ⟨q1, q2⟩ := h3 l
    refine e_bin (e_var q1) (e_tup1 (e_var q2)) rfl rfl ?_
    show binD .add (.tup (l.map I)) _ = _
    have : (D.tup [D.int (a : Nat)]) = .tup [I a] := rfl
    rw [this, hb]
    show _ = some (D.tup _)
    rw [List.map_append]; rfl
  · rw [List.length_map, List.length_map, List.length_map, lots0_len]; omega
theorem run_law_lots (hK : 1 ≤ K) (hn : n ≤ 10) : (tab.at K).run 20 [.int n] S = .ok (.lst ((lotsS n).map lotD)) S := by
  obtain ⟨k, rfl⟩ : ∃ k, K = k + 1 := ⟨K - 1, by omega⟩
  rw [run_at' (F := f__law_lots) rfl]
  generalize tab.at k = P
  refine runs_eq rfl ?_
  refine w_cons (w_asg (v := .lst ((lots0 0).map lotD)) (S' := S) (e_lst (e_evs1 e_tup0) (show 1 ≤ lim by decide)) ?_)
  refine w_cons (w_for (List.range n) I (fun rest env S' => ∃ i, i + rest.length = n ∧ rest = List.range' i rest.length ∧ S' = S ∧ ∃ x y, env = [.val (.int n), .val (.lst ((lots0 i).map lotD)), x, y]) (e_rg (e_var rfl) (lim_of (by omega))) ⟨0, by simp, by simp [List.range_eq_range'], rfl, _, _, rfl⟩ ?_ ?_)
  · rintro a rest env S' ⟨i, h1, h2, rfl, x, y, rfl⟩
    rw [List.length_cons, List.range'_succ] at h2
    obtain ⟨rfl, h2⟩ := List.cons.inj h2
    rw [List.length_cons] at h1
    exact ⟨_, rfl, w_cons (w_asg (e_more (i := 1) (j := 3) (x := 2) (a := a) rfl (by omega) (.inr trivial) fun l => ⟨rfl, rfl⟩) ⟨a + 1, by omega, h2, rfl, _, _, rfl⟩)⟩
  · rintro env S' ⟨i, h1, h2, rfl, x, y, rfl⟩
    simp at h1
    subst h1
    exact w_cons (w_ret (e_bi1 (e_var rfl) rfl (bi_sort_lots _)) ⟨rfl, rfl⟩)
theorem pow_lim (hn : n ≤ 10) : 2 ^ n ≤ 1024 := Nat.le_trans (Nat.pow_le_pow_right (by omega) hn) (by decide)
theorem run_law_pairs (hK : 2 ≤ K) (h : Ok2 n m) : (tab.at K).run 19 [tabD n m T] S = .ok (.lst ((fullP n m T).map pD)) S := by
  obtain ⟨k, rfl⟩ : ∃ k, K = k + 1 := ⟨K - 1, by omega⟩
  rw [run_at' (F := f__law_pairs) rfl]
  have c0 := run_law_turned (K := k) (S := S) (T := T) (by omega) h
  have c1 := run_law_lots (K := k) (S := S) (n := n) (by omega) h.n10
  have c2 : ∀ A, Lot n A → (tab.at k).run 18 [tabD n m T, lotD A] S = .ok (lotD (up m T A)) S := fun A hA => run_law_shared (by omega) h hA
  have c3 : ∀ B, Lot m B → (tab.at k).run 18 [tabD m n (turn T), lotD B] S = .ok (lotD (dn n T B)) S := fun B hB => run_law_shared (T := turn T) (by omega) ⟨h.m1, h.m10, h.n1, h.n10⟩ hB
  revert c0 c1 c2 c3
  generalize tab.at k = P
  intro c0 c1 c2 c3
  obtain ⟨n1, n10, m1, m10⟩ := h
  have hp := pow_lim n10
  refine runs_eq rfl ?_
  refine w_cons (w_par (e_evsC (e_lst e_evs0 (Nat.zero_le _)) (e_evs1 (e_call1 (e_var rfl) c0))) rfl ?_)
  refine w_cons (w_for (lotsS n) lotD (fun rest env S' => S' = S ∧ ∃ done, lotsS n = done ++ rest ∧ ∃ x y, env = [.val (tabD n m T), x, .own 1 (.lst (((done.filter (clB n m T)).map fun A => (A, up m T A)).map pD)), .val (tabD m n (turn T)), y]) (e_seqL (e_call1 (e_bi1 (e_var rfl) rfl len_tab) c1)) ⟨rfl, [], rfl, _, _, rfl⟩ ?_ ?_)
  · rintro A rest env S' ⟨e, done, hd, x, y, rfl⟩
    subst e
    have hA : Lot n A := mem_lotsS.mp (by rw [hd]; simp)
    have hlen : (((done.filter (clB n m T)).map fun A => (A, up m T A)).map pD).length < lim := by
      rw [List.length_map, List.length_map]
      have h1 := List.length_filter_le (clB n m T) done
      have h2 : done.length ≤ (lotsS n).length := by rw [hd, List.length_append]; omega
      rw [lotsS_len] at h2
      exact Nat.lt_of_le_of_lt (show _ ≤ 1024 by omega) (by decide)
    have hsucc : (done ++ [A]).filter (clB n m T) = done.filter (clB n m T) ++ (if clB n m T A = true then [A] else []) := by
      rw [List.filter_append, List.filter_cons, List.filter_nil]
    refine ⟨_, rfl, w_cons (w_asg (e_call2 (e_var rfl) (e_var rfl) (c2 A hA)) (w_cons (w_ite (v := clB n m T A) (S' := S') ?_ (fun q => w_cons (w_st (s_app (i := 2) rfl (e_tup2 (e_var rfl) (e_var rfl)) hlen) ⟨rfl, done ++ [A], by rw [hd]; simp, .val (lotD A), .val (lotD (up m T A)), ?_⟩)) fun q => ⟨rfl, done ++ [A], by rw [hd]; simp, .val (lotD A), .val (lotD (up m T A)), ?_⟩)))⟩
    · exact e_cmp (e_call2 (e_var rfl) (e_var rfl) (c3 _ (lot_fl _ _))) (e_var rfl) rfl rfl (by rw [cmp_eq, eq_lotT]; rfl)
    · rw [hsucc, if_pos q, List.map_append, List.map_append]; rfl
    · rw [hsucc, if_neg (by rw [q]; exact Bool.false_ne_true), List.append_nil]; rfl
  · rintro env S' ⟨e, done, hd, x, y, rfl⟩
    subst e
    rw [List.append_nil] at hd
    rw [← hd]
    exact w_cons (w_frz rfl (w_cons (w_ret (e_var rfl) ⟨rfl, rfl⟩)))
theorem run_pairs_of (hK : 2 ≤ K) (h : Ok2 n m) : (tab.at K).run 7 [tabD n m T] S = .ok (.lst ((fullP n m T).map pD)) S := by
  obtain ⟨k, rfl⟩ : ∃ k, K = k + 1 := ⟨K - 1, by omega⟩
  rw [run_at' (F := f_pairs_of) rfl]
  have c2 : ∀ A, Lot n A → (tab.at k).run 5 [tabD n m T, lotD A] S = .ok (lotD (up m T A)) S := fun A hA => run_marks_of (by omega) h hA
  have c3 : ∀ B, Lot m B → (tab.at k).run 6 [tabD n m T, lotD B] S = .ok (lotD (dn n T B)) S := fun B hB => run_things_of (by omega) h hB
  revert c2 c3
  generalize tab.at k = P
  intro c2 c3
  obtain ⟨n1, n10, m1, m10⟩ := h
  have hp := pow_lim n10
  refine runs_eq rfl ?_
  refine w_cons (w_asg (v := .lst ((lots0 0).map lotD)) (S' := S) (e_lst (e_evs1 e_tup0) (show 1 ≤ lim by decide)) ?_)
  refine w_cons (w_for (List.range n) I (fun rest env S' => ∃ i, i + rest.length = n ∧ rest = List.range' i rest.length ∧ S' = S ∧ ∃ x y z w, env = [.val (tabD n m T), .val (.lst ((lots0 i).map lotD)), x, y, z, w]) (e_rg (e_bi1 (e_var rfl) rfl len_tab) (lim_of (by omega))) ⟨0, by simp, by simp [List.range_eq_range'], rfl, _, _, _, _, rfl⟩ ?_ ?_)
  · rintro a rest env S' ⟨i, h1, h2, rfl, x, y, z, w, rfl⟩
    rw [List.length_cons, List.range'_succ] at h2
    obtain ⟨rfl, h2⟩ := List.cons.inj h2
    rw [List.length_cons] at h1
    exact ⟨_, rfl, w_cons (w_asg (e_more (i := 1) (j := 4) (x := 2) (a := a) rfl (by omega) (.inr trivial) fun l => ⟨rfl, rfl⟩) ⟨a + 1, by omega, h2, rfl, _, _, _, _, rfl⟩)⟩
  · rintro env S' ⟨i, h1, h2, rfl, x, y, z, w, rfl⟩
    simp at h1
    subst h1
    refine w_cons (w_asg (v := .dct true (ents kP [])) (S' := S') rfl ?_)
    let key : List Nat → LP := fun A => (dn i T (up m T A), up m T A)
    refine w_cons (w_for (lots0 i) lotD (fun rest env S'' => S'' = S' ∧ ∃ done, lots0 i = done ++ rest ∧ ∃ z w, env = [.val (tabD i m T), .val (.lst ((lots0 i).map lotD)), x, .own 1 (.dct true (ents kP (uniq (done.map key)))), z, w]) (e_seqL (e_var rfl)) ⟨rfl, [], rfl, _, _, rfl⟩ ?_ ?_)
    · rintro A rest env S'' ⟨e, done, hd, z, w, rfl⟩
      subst e
      have hA : Lot i A := (mem_lots0 i A).mp (by rw [hd]; simp)
      have hl : (ents kP (uniq (done.map key))).length < lim := by
        rw [ents_len]
        have h1 := uniq_len_le (done.map key)
        rw [List.length_map] at h1
        have h2 : done.length ≤ (lots0 i).length := by rw [hd, List.length_append]; omega
        rw [lots0_len] at h2
        exact Nat.lt_of_le_of_lt (show _ ≤ 1024 by omega) (by decide)
      refine ⟨_, rfl, w_cons (w_asg (e_call2 (e_var rfl) (e_var rfl) (c2 A hA)) (w_cons (w_st (s_setD (i := 3) rfl e_con (e_tup2 (e_call2 (e_var rfl) (e_var rfl) (c3 _ (lot_fl _ _))) (e_var rfl)) (ky_pair (key A)) hl) ⟨rfl, done ++ [A], by rw [hd]; simp, .val (lotD A), .val (lotD (up m T A)), ?_⟩)))⟩
      have e1 : dput (ents kP (uniq (done.map key))) (kP (key A)) (.bl true) = ents kP (uniq ((done ++ [A]).map key)) := by
        rw [dput_ents kP_inj, List.map_append]
        unfold uniq
        rw [List.foldl_append]; rfl
      rw [e1]; rfl
    · rintro env S'' ⟨e, done, hd, z, w, rfl⟩
      subst e
      rw [List.append_nil] at hd
      subst hd
      refine w_cons (w_ret (e_bi1 (e_peek rfl) rfl (bi_sort_P _)) ⟨rfl, ?_⟩)
      rw [full_keys nodup_uniq fun p => ?_]
      rw [mem_uniq, List.mem_map]
      exact ⟨fun ⟨A, hA, e⟩ => ⟨A, (mem_lots0 i A).mp hA, e.symm⟩, fun ⟨A, hA, e⟩ => ⟨A, (mem_lots0 i A).mpr hA, e.symm⟩⟩
theorem run_full_pairs (hK : 5 ≤ K) (h : Ok2 n m) : (tab.at K).run 8 [tabD n m T] S = .ok (.lst ((fullP n m T).map pD)) S := by
  obtain ⟨k, rfl⟩ : ∃ k, K = k + 1 := ⟨K - 1, by omega⟩
  rw [run_at' (F := f_full_pairs) rfl]
  have c0 := run_check (K := k) (S := S) (T := T) (by omega) h
  have c1 := run_pairs_of (K := k) (S := S) (T := T) (by omega) h
  revert c0 c1
  generalize tab.at k = P
  intro c0 c1
  refine runs_eq rfl ?_
  exact w_cons (w_ex (e_call1 (e_var rfl) c0) (w_cons (w_ret (e_call1 (e_var rfl) c1) ⟨rfl, rfl⟩)))
end K95
end

section
set_option autoImplicit false
set_option linter.all false
set_option maxRecDepth 3000
namespace K95
open PySem BP TB
variable {K : Nat} {n m : Nat}
/-! ### the hand -/
def hd (cs : List Int) (pos : Nat) (b h3 h4 : Int) : D := .lst [.lst (cs.map .int), .int pos, .int b, .int h3, .int h4]
def Hand (S : List D) : Prop := ∃ cs pos b h3 h4, S = [hd cs pos b h3 h4]
theorem bin_mod {i j : Int} (h : 0 < j) : binD .mod (.int i) (.int j) = some (.int (i % j)) := by
  show (if decide (0 < j) = true then some (D.int (i % j)) else none) = _
  rw [if_pos (decide_eq_true h)]
theorem bin_fdiv {i j : Int} (h : 0 < j) (h2 : j < 1073741824) : binD .fdiv (.int i) (.int j) = some (.int (i / j)) := by
  show (if (decide (0 < j) && decide (j < 1073741824)) = true then some (D.int (i / j)) else none) = _
  rw [decide_eq_true h, decide_eq_true h2]; rfl
theorem bin_mulL {i j : Int} (h : i.natAbs < 2 ^ 64) : binD .mul (.int i) (.int j) = some (.int (i * j)) := by
  show (if mulOk i j = true then some (D.int (i * j)) else none) = _
  have : mulOk i j = true := by unfold mulOk; rw [decide_eq_true h]; rfl
  rw [if_pos this]
theorem bin_mulR {i j : Int} (h : j.natAbs < 2 ^ 64) : binD .mul (.int i) (.int j) = some (.int (i * j)) := by
  show (if mulOk i j = true then some (D.int (i * j)) else none) = _
  have : mulOk i j = true := by unfold mulOk; rw [decide_eq_true h, Bool.or_true]
  rw [if_pos this]
theorem abs_mod {x j : Int} (h : 0 < j) (hj : j < 4611686018427387904) : (x % j).natAbs < 2 ^ 64 := by
  have h1 := Int.emod_nonneg x (show j ≠ 0 by omega)
  have h2 := Int.emod_lt_of_pos x h
  omega
theorem run_draw (hK : 1 ≤ K) {S : List D} (hS : Hand S) {many : Nat} (hm : 0 < many) (hm2 : many < 1000) : Ok ((tab.at K).run 13 [.ref 0, .int many] S) fun d S' => Hand S' ∧ ∃ i : Nat, i < many ∧ d = .int i := by
  obtain ⟨cs, pos, b, h3, h4, rfl⟩ := hS
  obtain ⟨k, rfl⟩ : ∃ k, K = k + 1 := ⟨K - 1, by omega⟩
  rw [run_at' (F := f__law_draw) rfl]
  generalize tab.at k = P
  refine runs_wp rfl ?_
  have hmi : (0 : Int) < many := by omega
  have fin : ∀ x : Int, ∃ i : Nat, i < many ∧ D.int (x % many) = .int i := fun x => by
    have h1 := Int.emod_nonneg x (show (many : Int) ≠ 0 by omega)
    have h2 := Int.emod_lt_of_pos x hmi
    exact ⟨(x % many).toNat, by omega, by rw [Int.toNat_of_nonneg h1]⟩
  have add : ∀ i j : Int, binD .add (.int i) (.int j) = some (.int (i + j)) := fun i j => rfl
  refine w_cons (Ok.mono (Q := fun p S' => ∃ y cs pos b h3 h4, p = (.nx, [.val (.ref 0), .val (.int many), .no, y, .no]) ∧ S' = [hd cs pos b h3 h4]) ?_ ?_)
  · refine w_ite (e_and (e_cmp (e_idx (e_var rfl) e_con rfl rfl) e_con rfl rfl (by rw [cmp_eq, eq_int])) fun _ => e_cmp (e_idx (e_var rfl) e_con rfl rfl) (e_bi1 (e_idx (e_var rfl) e_con rfl rfl) rfl (bi_len_lst _)) rfl rfl (cmp_lt _ _)) (fun q => ?_) fun _ => ⟨_, cs, pos, b, h3, h4, rfl, rfl⟩
    rw [Bool.and_eq_true, decide_eq_true_eq, decide_eq_true_eq, List.length_map] at q
    have hp : pos < cs.length := by omega
    have ecell : idxD (.lst (cs.map .int)) (.int pos) = some (.int cs[pos]) := by
      show atD _ _ = _
      rw [at_map, List.getElem?_eq_getElem hp]; rfl
    refine w_cons (w_asg (e_idx (e_idx (e_var rfl) e_con rfl rfl) (e_idx (e_var rfl) e_con rfl rfl) rfl ecell) ?_)
    refine w_cons (w_st (s_setR (c := 0) (j := 1) rfl rfl (e_bin (e_idx (e_var rfl) e_con rfl rfl) e_con rfl rfl (add _ _)) e_con rfl (show 1 < 5 by decide)) ?_)
    refine w_cons (w_st (s_setR (c := 0) (j := 3) rfl rfl (e_bin (e_bi1 (e_bin (e_bin (e_bin (e_idx (e_var rfl) e_con rfl rfl) e_con rfl rfl (bin_mulR (by decide))) (e_var rfl) rfl rfl (add _ _)) e_con rfl rfl (add _ _)) rfl (bi_int _)) e_con rfl rfl (bin_mod (by decide))) e_con rfl (show 3 < 5 by decide)) ?_)
    refine w_cons (w_ite (v := decide ((10 : Int) ^ 18 ≤ cs[pos])) (e_cmp (e_var rfl) (e_bin e_con e_con rfl rfl (show _ = some (.int ((10 : Int) ^ 18)) from rfl)) rfl rfl (cmp_ge _ _)) (fun _ => w_cons (w_st (s_setR (c := 0) (j := 2) rfl rfl (e_var rfl) e_con rfl (show 2 < 5 by decide)) ⟨_, cs, pos + 1, _, _, _, rfl, rfl⟩)) fun _ => ⟨_, cs, pos + 1, _, _, _, rfl, rfl⟩)
  rintro p S' ⟨y, cs, pos, b, h3, h4, rfl, rfl⟩
  refine w_cons (w_ite (v := decide (0 < b)) (e_cmp (e_idx (e_var rfl) e_con rfl rfl) e_con rfl rfl (cmp_gt _ _)) (fun _ => ?_) fun _ => ?_)
  · refine w_cons (w_asg (e_bin (e_bi1 (e_idx (e_var rfl) e_con rfl rfl) rfl (bi_int _)) (e_var rfl) rfl rfl (bin_mod hmi)) ?_)
    refine w_cons (w_st (s_setR (c := 0) (j := 2) rfl rfl (e_bin (e_idx (e_var rfl) e_con rfl rfl) (e_var rfl) rfl rfl (bin_fdiv hmi (by omega))) e_con rfl (show 2 < 5 by decide)) ?_)
    exact w_cons (w_ret (e_var rfl) ⟨Nat.le_refl _, ⟨cs, pos, _, _, _, rfl⟩, fin _⟩)
  · refine w_cons (w_st (s_setR (c := 0) (j := 4) rfl rfl (e_bin (e_idx (e_var rfl) e_con rfl rfl) e_con rfl rfl (add _ _)) e_con rfl (show 4 < 5 by decide)) ?_)
    refine w_cons (w_asg (e_bin (e_bi1 (e_bin (e_bi1 (e_bin (e_idx (e_var rfl) e_con rfl rfl) (e_bin e_con (e_idx (e_var rfl) e_con rfl rfl) rfl rfl (bin_mulL (by decide))) rfl rfl (add _ _)) rfl (bi_int _)) e_con rfl rfl (bin_mulR (by decide))) rfl (bi_int _)) e_con rfl rfl (bin_mod (by decide))) ?_)
    refine w_cons (w_asg (e_bin (e_bi1 (e_bin (e_var rfl) (e_bin (e_bin (e_var rfl) e_con rfl rfl (bin_fdiv (by decide) (by decide))) e_con rfl rfl (add _ _)) rfl rfl (bin_mulL (abs_mod (by decide) (by decide)))) rfl (bi_int _)) e_con rfl rfl (bin_mod (by decide))) ?_)
    refine w_cons (w_asg (e_bin (e_bi1 (e_bin (e_var rfl) (e_bin (e_bin (e_var rfl) e_con rfl rfl (bin_fdiv (by decide) (by decide))) e_con rfl rfl (add _ _)) rfl rfl (bin_mulL (abs_mod (by decide) (by decide)))) rfl (bi_int _)) e_con rfl rfl (bin_mod (by decide))) ?_)
    exact w_cons (w_ret (e_bin (e_bi1 (e_bin (e_var rfl) e_con rfl rfl (bin_fdiv (by decide) (by decide))) rfl (bi_int _)) (e_var rfl) rfl rfl (bin_mod hmi)) ⟨Nat.le_refl _, ⟨cs, pos, _, _, _, rfl⟩, fin _⟩)
end K95
end

section
set_option autoImplicit false
set_option linter.all false
set_option maxRecDepth 3000
namespace K95
open PySem BP TB
variable {K : Nat} {S : List D} {n m : Nat} {T : Nat → Nat → Bool}
theorem Hand.len {S : List D} (h : Hand S) : S.length = 1 := by obtain ⟨cs, pos, b, h3, h4, rfl⟩ := h; rfl
def Draws (P : Prg) : Prop := ∀ S, Hand S → ∀ many : Nat, 0 < many → many < 1000 → ∃ (i : Nat) (S' : List D), P.run 13 [.ref 0, .int many] S = .ok (.int i) S' ∧ i < many ∧ Hand S'
theorem draws_at {k : Nat} (hk : 1 ≤ k) : Draws (tab.at k) := fun S hS many h1 h2 => by
  obtain ⟨d, S', e, hS', i, hi, rfl⟩ := (run_draw hk hS h1 h2).get
  exact ⟨i, S', e, hi, hS'⟩
theorem run_some (hK : 2 ≤ K) {S : List D} (hS : Hand S) {xs : List D} (h0 : 0 < xs.length) (hl : xs.length < 1000) : Ok ((tab.at K).run 14 [.ref 0, .lst xs] S) fun v S' => Hand S' ∧ v ∈ xs := by
  obtain ⟨k, rfl⟩ : ∃ k, K = k + 1 := ⟨K - 1, by omega⟩
  rw [run_at' (F := f__law_some) rfl]
  obtain ⟨i, S', e, hi, hS'⟩ := draws_at (k := k) (by omega) S hS xs.length h0 hl
  revert e
  generalize tab.at k = P
  intro e
  refine runs_wp rfl ?_
  have ex : idxD (.lst xs) (.int i) = some xs[i] := by
    show atD xs i = _
    unfold atD
    rw [ixI_nat hi]
    exact List.getElem?_eq_getElem hi
  exact w_cons (w_ret (e_idx (e_var rfl) (e_call2 (e_var rfl) (e_bi1 (e_var rfl) rfl (bi_len_lst _)) e) rfl ex) ⟨by rw [hS'.len, hS.len]; exact Nat.le_refl _, hS', List.getElem_mem hi⟩)
/-! ### cuts -/
theorem e_enumLot {P : Prg} {env : BP.Env} {a : Ex} {L : List Nat} (h : a.ev P false env S = .ok (lotD L) S) : (It.enum a).evi P env S = .ok ((List.range L.length).map fun i : Nat => .tup [.int (i : Nat), .int (L.getD i 0 : Nat)]) S := by
  have := e_enumT (P := P) (env := env) (S := S) (a := a) (xs := L) (enc := I) h
  rw [this]
  congr 1
  apply List.ext_getElem?
  intro i
  rw [List.getElem?_map, List.getElem?_map, List.getElem?_zipIdx]
  by_cases hi : i < L.length
  · rw [List.getElem?_range hi, List.getElem?_eq_getElem hi]; simp [List.getD_eq_getElem?_getD, List.getElem?_eq_getElem hi]
  · rw [List.getElem?_eq_none (by omega), List.getElem?_eq_none (by simpa using hi)]; rfl
theorem run_cut (hK : 1 ≤ K) {A L : List Nat} (hL : L.length ≤ 10) : (tab.at K).run 24 [lotD A, lotD L] S = .ok (lotD (cut A L)) S := by
  obtain ⟨k, rfl⟩ : ∃ k, K = k + 1 := ⟨K - 1, by omega⟩
  rw [run_at' (F := f__law_cut) rfl]
  generalize tab.at k = P
  refine runs_eq rfl ?_
  exact w_cons (w_ret (e_bi1 (e_lc (List.range L.length) (fun i : Nat => .tup [.int (i : Nat), .int (L.getD i 0 : Nat)]) (fun a => decide (L.getD a 0 ∈ A)) I (e_enumLot (e_var rfl)) (fun a ha => ⟨_, rfl, e_in (t := true) (e_var rfl) (e_var rfl) rfl rfl (in_lot _ A), fun _ => e_var rfl⟩) (by simp; exact lim_of (by omega))) rfl rfl) ⟨rfl, rfl⟩)
theorem eq_empty (l : List Nat) : eqD (lotD l) (lotD []) = some (decide (l = [])) := eq_lotT l []
theorem kept_len : (keptL n m T).length ≤ n := fl_len _ _
theorem small_ok (h : Ok2 n m) (h1 : keptL n m T ≠ []) (h2 : keptL m n (turn T) ≠ []) : Ok2 (keptL n m T).length (keptL m n (turn T)).length :=
  ⟨List.length_pos_iff.mpr h1, Nat.le_trans kept_len h.n10, List.length_pos_iff.mpr h2, Nat.le_trans kept_len h.m10⟩
theorem run_pairs_right (hK : 6 ≤ K) (h : Ok2 n m) : (tab.at K).run 23 [tabD n m T, leastD n m T] S = .ok (.bl true) S := by
  obtain ⟨k, rfl⟩ : ∃ k, K = k + 1 := ⟨K - 1, by omega⟩
  rw [run_at' (F := f__law_are_pairs_right) rfl]
  have hJ := keeps n m T
  have hM := keeps m n (turn T)
  have hJl : (keptL n m T).length ≤ 10 := Nat.le_trans kept_len h.n10
  have hMl : (keptL m n (turn T)).length ≤ 10 := Nat.le_trans kept_len h.m10
  have c0 := run_law_pairs (K := k) (S := S) (T := T) (by omega) h
  have c1 : ∀ A L : List Nat, L.length ≤ 10 → (tab.at k).run 24 [lotD A, lotD L] S = .ok (lotD (cut A L)) S := fun A L hL => run_cut (by omega) hL
  have c2 : keptL n m T ≠ [] → keptL m n (turn T) ≠ [] → _ := fun a b => run_law_pairs (K := k) (S := S) (T := small (keptL n m T) (keptL m n (turn T)) T) (by omega) (small_ok h a b)
  have c3 : keptL n m T ≠ [] → keptL m n (turn T) ≠ [] → _ := fun a b => run_full_pairs (K := k) (S := S) (T := small (keptL n m T) (keptL m n (turn T)) T) (by omega) (small_ok h a b)
  have hf := full_cut hJ hM
  have h1 := full_one hJ hM
  revert c0 c1 c2 c3 hf h1 hJl hMl
  unfold leastD
  generalize keptL n m T = J
  generalize keptL m n (turn T) = M
  generalize tab.at k = P
  intro hJl hMl c0 c1 c2 c3 hf h1
  have hp := pow_lim h.n10
  have hfl := full_len (n := n) (m := m) (T := T)
  refine runs_eq rfl ?_
  refine w_cons (w_unp (e_var rfl) rfl ?_)
  refine w_cons (w_asg (e_call1 (e_var rfl) c0) ?_)
  refine w_cons (w_asg (v := .lst (((fullP n m T).map fun p => (cut p.1 J, cut p.2 M)).map pD)) (S' := S) ?_ ?_)
  · rw [List.map_map]
    exact e_lc0 (fullP n m T) pD _ (e_seqL (e_var rfl)) (fun p hp => ⟨_, rfl, e_tup2 (e_call2 (e_var rfl) (e_var rfl) (c1 p.1 J hJl)) (e_call2 (e_var rfl) (e_var rfl) (c1 p.2 M hMl))⟩) (Nat.le_trans (Nat.le_trans hfl hp) (by decide))
  refine w_cons (w_ite (e_or (e_cmp (e_var rfl) e_tup0 rfl rfl (by rw [cmp_eq, eq_empty])) fun _ => e_cmp (e_var rfl) e_tup0 rfl rfl (by rw [cmp_eq, eq_empty])) (fun q => ?_) fun q => ?_)
  · rw [Bool.or_eq_true, decide_eq_true_eq, decide_eq_true_eq] at q
    refine w_cons (w_ret (v := .bl true) (S' := S) (e_cmp (e_bi1 (e_var rfl) rfl (by rw [bi_len_lst, List.length_map, h1 q])) e_con rfl rfl (by rw [cmp_eq, eq_int]; rfl)) ⟨rfl, rfl⟩)
  · rw [Bool.or_eq_false_iff, decide_eq_false_iff_not, decide_eq_false_iff_not] at q
    have e1 : (Ex.bi .sorted (.cons (.var 3) .nil)).ev P false [.val (tabD n m T), .val (.tup [tabD J.length M.length (small J M T), lotD J, lotD M]), .val (.lst ((fullP n m T).map pD)), .val (.lst (((fullP n m T).map fun p => (cut p.1 J, cut p.2 M)).map pD)), .val (tabD J.length M.length (small J M T)), .val (lotD J), .val (lotD M), .no, .no] S = .ok (.lst ((fullP J.length M.length (small J M T)).map pD)) S := by
      refine e_bi1 (e_var rfl) rfl ?_
      rw [bi_sort_pairs, hf]
    refine w_cons (w_ite (v := false) (e_or (v := false) (w := false) (e_cmp e1 (e_call1 (e_var rfl) (c2 q.1 q.2)) rfl rfl (by rw [cmp_ne, eq_pairs]; simp)) fun _ => e_cmp (e_bi1 (e_var rfl) rfl (bi_len_lst _)) (e_bi1 (e_var rfl) rfl (bi_len_lst _)) rfl rfl (by rw [cmp_ne, eq_int]; simp)) (fun q => Bool.noConfusion q) fun _ => ?_)
    exact w_cons (w_ret (v := .bl true) (S' := S) (e_cmp (e_call1 (e_var rfl) (c3 q.1 q.2)) e1 rfl rfl (by rw [cmp_eq, eq_pairs]; simp)) ⟨rfl, rfl⟩)
end K95
end

section
set_option autoImplicit false
set_option linter.all false
set_option maxRecDepth 3000
namespace K95
open PySem BP TB
variable {K : Nat} {S : List D} {n m : Nat} {T : Nat → Nat → Bool}
/-! ### the same -/
theorem run_is_int (hK : 1 ≤ K) (i : Int) : (tab.at K).run 15 [.int i, .int i] S = .ok (.bl true) S := by
  obtain ⟨k, rfl⟩ : ∃ k, K = k + 1 := ⟨K - 1, by omega⟩
  rw [run_at' (F := f__law_is) rfl]
  generalize tab.at k = P
  refine runs_eq rfl ?_
  have e : isD (.int i) .non = some false := by rfl
  simp [f__law_is, isiD2, isiD, tyD, cmpD, e]
theorem run_is_tup {k : Nat} {xs : List D} (hl : xs.length ≤ 100) (h : ∀ x ∈ xs, (tab.at k).run 15 [x, x] S = .ok (.bl true) S) : (tab.at (k + 1)).run 15 [.tup xs, .tup xs] S = .ok (.bl true) S := by
  rw [run_at' (F := f__law_is) rfl]
  revert h
  generalize tab.at k = P
  intro h
  refine runs_eq rfl ?_
  simp [f__law_is, isiD2, isiD, tyD, cmpD]
  rw [e_lc0 (List.range xs.length) I (fun _ => .bl true)]
  · simp
  · exact e_rg (by simp) (lim_of (by omega))
  · intro i hi
    have hi := List.mem_range.mp hi
    have e : idxD (.tup xs) (.int i) = some xs[i] := by
      show atD xs i = _
      have := at_map xs id i
      rw [List.map_id] at this
      rw [this, List.getElem?_eq_getElem hi]; rfl
    exact ⟨_, rfl, e_call2 (e_idx (e_var rfl) (e_var rfl) rfl e) (e_idx (e_var rfl) (e_var rfl) rfl e) (h _ (List.getElem_mem hi))⟩
  · simp; exact lim_of (by omega)
theorem run_is_lot (hK : 2 ≤ K) {l : List Nat} (hl : l.length ≤ 100) : (tab.at K).run 15 [lotD l, lotD l] S = .ok (.bl true) S := by
  obtain ⟨k, rfl⟩ : ∃ k, K = k + 1 := ⟨K - 1, by omega⟩
  refine run_is_tup (by rwa [List.length_map]) fun x hx => ?_
  obtain ⟨i, _, rfl⟩ := List.mem_map.mp hx
  exact run_is_int (by omega) _
theorem run_is_tab (hK : 3 ≤ K) (hn : n ≤ 100) (hm : m ≤ 100) : (tab.at K).run 15 [tabD n m T, tabD n m T] S = .ok (.bl true) S := by
  obtain ⟨k, rfl⟩ : ∃ k, K = k + 1 := ⟨K - 1, by omega⟩
  refine run_is_tup (by rw [List.length_map]; unfold tabL; simpa using hn) fun x hx => ?_
  obtain ⟨r, hr, rfl⟩ := List.mem_map.mp hx
  unfold tabL at hr
  obtain ⟨i, _, rfl⟩ := List.mem_map.mp hr
  exact run_is_lot (by omega) (by rw [row_len]; exact hm)
theorem run_is_least (hK : 4 ≤ K) (h : Ok2 n m) : (tab.at K).run 15 [leastD n m T, leastD n m T] S = .ok (.bl true) S := by
  obtain ⟨k, rfl⟩ : ∃ k, K = k + 1 := ⟨K - 1, by omega⟩
  have hJl : (keptL n m T).length ≤ 10 := Nat.le_trans kept_len h.n10
  have hMl : (keptL m n (turn T)).length ≤ 10 := Nat.le_trans kept_len h.m10
  refine run_is_tup (show 3 ≤ 100 by decide) fun x hx => ?_
  simp only [List.mem_cons, List.not_mem_nil, or_false] at hx
  rcases hx with rfl | rfl | rfl
  · exact run_is_tab (by omega) (by omega) (by omega)
  · exact run_is_lot (by omega) (by omega)
  · exact run_is_lot (by omega) (by omega)
/-! equal -/
theorem eq_pair (p q : LP) : eqD (pD p) (pD q) = some (decide (p = q)) := by
  unfold eqD; rw [py_pD, py_pD]
  have sh : ∀ p : LP, SeqAt.shaped (pP p) = true := fun p => by unfold SeqAt.shaped; rw [lay_P, dep_P]; rfl
  show (if (SeqAt.shaped (pP p) && SeqAt.shaped (pP q)) = true then _ else _) = _
  rw [sh, sh, eqv_P]; rfl
theorem eq_tabs (l m : List (List Nat)) : eqD (.tup (l.map lotD)) (.tup (m.map lotD)) = some (decide (l = m)) := by
  have e : ∀ l : List (List Nat), (D.tup (l.map lotD)).py = some (.tuple (l.map pL)) := fun l => by
    show (D.pys (l.map lotD)).map PyData.tuple = _
    rw [pys_lots]; rfl
  unfold eqD; rw [e, e]
  show (if (SeqAt.shaped (.tuple (l.map pL)) && SeqAt.shaped (.tuple (m.map pL))) = true then _ else _) = _
  rw [shp_Lt, shp_Lt, PyData.eqv, eqv_Ls]; rfl
theorem eq_triple (t : List (List Nat)) (a b : List Nat) : eqD (.tup [.tup (t.map lotD), lotD a, lotD b]) (.tup [.tup (t.map lotD), lotD a, lotD b]) = some true := by
  have e1 : (D.tup (t.map lotD)).py = some (.tuple (t.map pL)) := by
    show (D.pys (t.map lotD)).map PyData.tuple = _
    rw [pys_lots]; rfl
  have e : (D.tup [.tup (t.map lotD), lotD a, lotD b]).py = some (.tuple [.tuple (t.map pL), pL a, pL b]) := by
    show (D.pys [.tup (t.map lotD), lotD a, lotD b]).map PyData.tuple = _
    unfold D.pys
    rw [e1]
    unfold D.pys
    rw [py_lot]
    unfold D.pys
    rw [py_lot]
    rfl
  have hd : PyData.depth (.tuple (t.map pL)) ≤ 2 := by
    rw [PyData.depth]
    have := dep_Ls t
    omega
  have sh : SeqAt.shaped (.tuple [.tuple (t.map pL), pL a, pL b]) = true := by
    unfold SeqAt.shaped
    rw [PyData.canLay0, PyData.canLayAll0, PyData.canLayAll0, PyData.canLayAll0, PyData.canLayAll0, PyData.canLay0, lay_Ls, lay_L, lay_L, PyData.depth, PyData.depthAll, PyData.depthAll, PyData.depthAll, PyData.depthAll, dep_L, dep_L]
    rw [decide_eq_true (by omega)]; rfl
  unfold eqD; rw [e]
  show (if (SeqAt.shaped _ && SeqAt.shaped _) = true then _ else _) = _
  rw [sh, PyData.eqv, PyData.eqvAll, PyData.eqvAll, PyData.eqvAll, PyData.eqvAll, PyData.eqv, eqv_Ls, eqv_L, eqv_L]
  simp
/-! again -/
theorem getD_range {a k : Nat} (h : a < k) : (List.range k).getD a 0 = a := by rw [List.getD_eq_getElem?_getD, List.getElem?_range h]; rfl
theorem tab_congr {U V : Nat → Nat → Bool} (h : ∀ i j, i < n → j < m → U i j = V i j) : tabD n m U = tabD n m V := by
  unfold tabD tabL
  congr 2
  exact List.map_congr_left fun i hi => row_eq.mpr fun j hj => h i j (List.mem_range.mp hi) hj
theorem kept_all {U : Nat → Nat → Bool} (h : ∀ a, a < n → Kept n m U a) : keptL n m U = List.range n := (keeps_one (keeps_all h)).symm
theorem least_again (n m : Nat) (T : Nat → Nat → Bool) : leastD (keptL n m T).length (keptL m n (turn T)).length (small (keptL n m T) (keptL m n (turn T)) T) = .tup [tabD (keptL n m T).length (keptL m n (turn T)).length (small (keptL n m T) (keptL m n (turn T)) T), lotD (List.range (keptL n m T).length), lotD (List.range (keptL m n (turn T)).length)] := by
  have hJ := keeps n m T
  have hM := keeps m n (turn T)
  have h1 : keptL _ _ (small (keptL n m T) (keptL m n (turn T)) T) = List.range (keptL n m T).length := kept_all fun a ha => small_kept hJ hM ha
  have h2 : keptL (keptL m n (turn T)).length (keptL n m T).length (turn (small (keptL n m T) (keptL m n (turn T)) T)) = List.range (keptL m n (turn T)).length := kept_all fun a ha => small_kept (T := turn T) hM hJ ha
  unfold leastD
  rw [h1, h2, List.length_range, List.length_range]
  congr 2
  refine tab_congr fun i j hi hj => ?_
  show small _ _ T ((List.range _).getD i 0) ((List.range _).getD j 0) = _
  rw [getD_range hi, getD_range hj]
/-! a row put to it -/
theorem least_plus {met : Nat → Bool} (h : Stale n m T met) : leastD (n + 1) m (plus n T met) = leastD n m T := by
  have e1 : keptL (n + 1) m (plus n T met) = keptL n m T := by
    refine (Lot.mk (fl_up _ _) fun a ha => (mem_fl.mp ha).1 : Lot (n + 1) (keptL (n + 1) m (plus n T met))).eq ⟨fl_up _ _, fun a ha => by have := (mem_fl.mp ha).1; omega⟩ fun a ha => ?_
    rw [(keeps (n + 1) m (plus n T met)).iff a ha]
    by_cases han : a < n
    · rw [plus_kept h han, (keeps n m T).iff a han]
    · have e : a = n := by omega
      subst e
      constructor
      · intro q; exact absurd q (plus_not h)
      · intro q
        have := (mem_fl.mp q).1
        omega
  have e2 : keptL m (n + 1) (turn (plus n T met)) = keptL m n (turn T) := by
    refine (lot_fl _ _ : Lot m (keptL m (n + 1) (turn (plus n T met)))).eq (lot_fl _ _) fun a ha => ?_
    show a ∈ keptL m (n + 1) (turn (plus n T met)) ↔ a ∈ keptL m n (turn T)
    rw [(keeps m (n + 1) (turn (plus n T met))).iff a ha, (keeps m n (turn T)).iff a ha, plus_col h ha]
  unfold leastD
  rw [e1, e2]
  congr 2
  refine tab_congr fun i j hi hj => ?_
  unfold small plus
  rw [if_pos ((keeps n m T).lot.lt _ (getD_mem hi))]
theorem add_row {met : Nat → Bool} (hn : n ≤ 10) : binD .add (tabD n m T) (.tup [lotD (rowL m met)]) = some (tabD (n + 1) m (plus n T met)) := by
  have hl : (tabL n m T).length = n := by unfold tabL; simp
  have hb := bin_tup (xs := (tabL n m T).map lotD) (ys := [lotD (rowL m met)]) (by rw [List.length_map, hl]; exact lim_of (show n + 1 ≤ 1000 by omega))
  refine hb.trans ?_
  unfold tabD tabL
  rw [List.range_succ, List.map_append, List.map_append]
  have e : rowL m (plus n T met n) = rowL m met := row_eq.mpr fun j hj => if_neg (Nat.lt_irrefl n)
  have e2 : (List.range n).map (fun i => rowL m (plus n T met i)) = (List.range n).map fun i => rowL m (T i) := List.map_congr_left fun i hi => row_eq.mpr fun j hj => if_pos (List.mem_range.mp hi)
  show some (D.tup _) = some (D.tup (((List.range n).map fun i => rowL m (plus n T met i)).map lotD ++ [lotD (rowL m (plus n T met n))]))
  rw [e, e2]
theorem rep_ones {m : Nat} (b : Bool) (h1 : 1 ≤ m) (h2 : m ≤ 10) : binD .mul (.tup [.int (bit b : Nat)]) (.int m) = some (lotD (rowL m fun _ => b)) := by
  show mulD (.tup [.int ((bit b : Nat) : Int)]) (.int (m : Int)) = _
  unfold mulD
  dsimp only
  by_cases h : (m : Int) = 1
  · rw [if_pos h]
    have : m = 1 := by omega
    subst this
    rfl
  · rw [if_neg h]
    have c : (decide (2 ≤ (m : Int)) && decide ((m : Int) ≤ 1000) && decide ([D.int (bit b : Nat)].length ≤ 1000) && ![D.int (bit b : Nat)].isEmpty) = true := by
      rw [decide_eq_true (by omega), decide_eq_true (by omega)]; rfl
    rw [if_pos c]
    congr 1
    unfold lotD rowL
    rw [List.map_map]
    have : ∀ k : Nat, (List.replicate k [D.int (bit b : Nat)]).flatten = List.replicate k (D.int (bit b : Nat)) := fun k => by
      induction k with
      | zero => rfl
      | succ k ih => rw [List.replicate_succ, List.flatten_cons, ih, List.replicate_succ]; rfl
    rw [this]
    congr 1
    rw [Int.toNat_natCast]
    apply List.ext_getElem?
    intro i
    rw [List.getElem?_map]
    by_cases hi : i < m
    · rw [List.getElem?_range hi, List.getElem?_replicate, if_pos hi]; rfl
    · rw [List.getElem?_eq_none (by simpa using hi), List.getElem?_eq_none (by simpa using hi)]; rfl
end K95
end

section
set_option autoImplicit false
set_option linter.all false
set_option maxRecDepth 3000
namespace K95
open PySem BP TB
variable {K : Nat} {n m : Nat} {T : Nat → Nat → Bool}
theorem slice_least : sliceD (leastD n m T) (some 1) none = some (pD (keptL n m T, keptL m n (turn T))) := rfl
theorem run_is_right (hK : 8 ≤ K) {S : List D} (hS : Hand S) (h : Ok2 n m) : Ok ((tab.at K).run 25 [.ref 0, tabD n m T] S) fun v S' => Hand S' ∧ v = .bl true := by
  obtain ⟨k, rfl⟩ : ∃ k, K = k + 1 := ⟨K - 1, by omega⟩
  rw [run_at' (F := f__law_is_right) rfl]
  have ht : Ok2 m n := ⟨h.m1, h.m10, h.n1, h.n10⟩
  have a1 := run_law_least (K := k) (S := S) (T := T) (by omega) h
  have a2 := run_least (K := k) (S := S) (T := T) (by omega) h
  have a3 := run_is_least (K := k) (S := S) (T := T) (by omega) h
  have a4 := run_pairs_right (K := k) (S := S) (T := T) (by omega) h
  have a5 := run_law_turned (K := k) (S := S) (T := T) (by omega) h
  have a6 := run_least (K := k) (S := S) (T := turn T) (by omega) ht
  have a7 : keptL n m T ≠ [] → keptL m n (turn T) ≠ [] → _ := fun x y => run_least (K := k) (S := S) (T := small (keptL n m T) (keptL m n (turn T)) T) (by omega) (small_ok h x y)
  have a8 : keptL n m T ≠ [] → keptL m n (turn T) ≠ [] → _ := fun x y => run_law_turned (K := k) (S := S) (T := small (keptL n m T) (keptL m n (turn T)) T) (by omega) (small_ok h x y)
  have a9 := run_turned (K := k) (S := S) (T := T) (by omega) h
  have hJ10 : (keptL n m T).length ≤ 10 := Nat.le_trans kept_len h.n10
  have hM10 : (keptL m n (turn T)).length ≤ 10 := Nat.le_trans kept_len h.m10
  have b1 : ∀ S, Hand S → ∃ (o : Nat) (S' : List D), (tab.at k).run 14 [.ref 0, .lst ((tabL n m T).map lotD)] S = .ok (rowAt m T o) S' ∧ o < n ∧ Hand S' := fun S hS => by
    have hl : (tabL n m T).length = n := by unfold tabL; simp
    obtain ⟨v, S', e, hS', hv⟩ := (run_some (K := k) (by omega) hS (xs := (tabL n m T).map lotD) (by rw [List.length_map, hl]; exact h.n1) (by rw [List.length_map, hl]; have := h.n10; omega)).get
    obtain ⟨r, hr, rfl⟩ := List.mem_map.mp hv
    unfold tabL at hr
    obtain ⟨o, ho, rfl⟩ := List.mem_map.mp hr
    exact ⟨o, S', e, List.mem_range.mp ho, hS'⟩
  have b2 : ∀ S, Hand S → ∀ o p, o < n → p < n → ∃ (met : Nat → Bool) (S' : List D), (tab.at k).run 14 [.ref 0, .lst [rowAt m T o, lotD (rowL m fun j => T o j && T p j), lotD (rowL m fun _ => true)]] S = .ok (lotD (rowL m met)) S' ∧ Stale n m T met ∧ Hand S' := fun S hS o p ho hp => by
    obtain ⟨v, S', e, hS', hv⟩ := (run_some (K := k) (by omega) hS (xs := [rowAt m T o, lotD (rowL m fun j => T o j && T p j), lotD (rowL m fun _ => true)]) (show 0 < 3 by decide) (show 3 < 1000 by decide)).get
    simp only [List.mem_cons, List.not_mem_nil, or_false] at hv
    rcases hv with rfl | rfl | rfl
    · refine ⟨fun j => T o j && T o j, S', ?_, stale_met ho ho, hS'⟩
      rw [e]
      show Res.ok (lotD (rowL m (T o))) S' = _
      congr 2
      exact row_eq.mpr fun j _ => by simp
    · exact ⟨_, S', e, stale_met ho hp, hS'⟩
    · exact ⟨_, S', e, stale_all, hS'⟩
  have b3 : n ≤ 8 → ∀ (S : List D) met, Stale n m T met → (tab.at k).run 10 [tabD (n + 1) m (plus n T met)] S = .ok (leastD n m T) S := fun hn S met hs => by
    rw [← least_plus hs]
    exact run_least (by omega) ⟨by omega, by omega, h.m1, h.m10⟩
  revert a1 a2 a3 a4 a5 a6 a7 a8 a9 b1 b2 b3
  generalize tab.at k = P
  intro a1 a2 a3 a4 a5 a6 a7 a8 a9 b1 b2 b3
  obtain ⟨n1, n10, m1, m10⟩ := h
  refine runs_wp rfl ?_
  refine w_cons (w_par (e_evsC (e_call1 (e_var rfl) a1) (e_evs1 (e_call1 (e_var rfl) a2))) rfl ?_)
  refine w_cons (w_ite (v := false) (e_or (v := false) (w := false) (e_not (t_call (e_call2 (e_var rfl) (e_var rfl) a3))) fun _ => e_not (t_call (e_call2 (e_var rfl) (e_var rfl) a4))) (fun q => Bool.noConfusion q) fun _ => ?_)
  refine w_cons (w_asg (e_call1 (e_var rfl) a5) ?_)
  refine w_cons (w_ite (v := false) (e_cmp (x := pD (keptL m n (turn T), keptL n m T)) (y := pD (keptL m n (turn T), keptL n m T)) (S' := S) (S'' := S) (e_sliceL (e_call1 (e_var rfl) a6) e_con rfl rfl) (e_tup2 (e_idx (e_var rfl) e_con rfl rfl) (e_idx (e_var rfl) e_con rfl rfl)) rfl rfl (by rw [cmp_ne, eq_pair]; simp)) (fun q => Bool.noConfusion q) fun _ => ?_)
  refine w_cons (Ok.mono (Q := fun p S' => S' = S ∧ ∃ x6 x7, p = (.nx, [.val (.ref 0), .val (tabD n m T), .val (tabD m n (turn T)), .no, .val (leastD n m T), .val (leastD n m T), x6, x7, .no, .no, .no, .no])) ?_ ?_)
  · refine w_ite (v := !decide (keptL n m T = []) && !decide (keptL m n (turn T) = [])) (e_and (e_cmp (e_idx (e_var rfl) e_con rfl rfl) e_tup0 rfl rfl (by rw [cmp_ne, eq_empty]; rfl)) fun _ => e_cmp (e_idx (e_var rfl) e_con rfl rfl) e_tup0 rfl rfl (by rw [cmp_ne, eq_empty]; rfl)) (fun q => ?_) fun _ => ⟨rfl, _, _, rfl⟩
    rw [Bool.and_eq_true, Bool.not_eq_true', Bool.not_eq_true', decide_eq_false_iff_not, decide_eq_false_iff_not] at q
    have a7 := a7 q.1 q.2
    have a8 := a8 q.1 q.2
    rw [least_again] at a7
    have hJ0 : 0 < (keptL n m T).length := List.length_pos_iff.mpr q.1
    refine w_cons (w_asg (v := tabD (keptL n m T).length (keptL m n (turn T)).length (small (keptL n m T) (keptL m n (turn T)) T)) (S' := S) (e_idx (e_var rfl) e_con rfl rfl) ?_)
    refine w_cons (w_asg (e_call1 (e_var rfl) a7) ?_)
    have r1 : ∀ (env : BP.Env) (a : Ex) (c : Nat), c ≤ 10 → a.ev P false env S = .ok (.int c) S → (Ex.bi .tuple (.cons (.rg1 a) .nil)).ev P false env S = .ok (lotD (List.range c)) S := fun env a c hc ha => e_bi1 (e_rg1 ha (lim_of (by omega))) rfl rfl
    refine w_cons (w_ite (v := false) (e_cmp (e_var rfl) (e_tup (e_evsC (e_var rfl) (e_evsC (r1 _ _ _ hJ10 (e_bi1 (e_var rfl) rfl len_tab)) (e_evs1 (r1 _ _ _ hM10 (e_bi1 (e_idx (e_var rfl) e_con rfl (tab_at (i := 0) hJ0)) rfl len_row))))) (show 3 ≤ lim by decide)) rfl rfl (by rw [cmp_ne]; show (eqD _ _).map _ = _; unfold tabD; rw [eq_triple]; rfl)) (fun q => Bool.noConfusion q) fun _ => ?_)
    refine w_cons (w_ite (v := false) (e_cmp (x := tabD (keptL m n (turn T)).length (keptL n m T).length (turn (small (keptL n m T) (keptL m n (turn T)) T))) (S' := S) (e_idx (e_call1 (e_call1 (e_var rfl) a9) a6) e_con rfl rfl) (e_call1 (e_var rfl) a8) rfl rfl (by rw [cmp_ne]; unfold tabD; rw [eq_tabs]; simp)) (fun q => Bool.noConfusion q) fun _ => ⟨rfl, _, _, rfl⟩)
  · rintro p S' ⟨rfl, x6, x7, rfl⟩
    refine w_cons (w_ite (v := decide ((8 : Int) < n)) (e_cmp (e_bi1 (e_var rfl) rfl len_tab) e_con rfl rfl (cmp_gt _ _)) (fun _ => w_cons (w_ret e_con ⟨by rw [hS.len]; exact Nat.le_refl _, hS, rfl⟩)) fun q => ?_)
    have hn8 : n ≤ 8 := by have := of_decide_eq_false q; omega
    obtain ⟨o, S1, e1, ho, hS1⟩ := b1 S' hS
    obtain ⟨p, S2, e2, hp, hS2⟩ := b1 S1 hS1
    obtain ⟨met, S3, e3, hst, hS3⟩ := b2 S2 hS2 o p ho hp
    refine w_cons (w_par (e_evsC (e_call2 (e_var rfl) (e_bi1 (e_var rfl) rfl (bi_list_tup _)) e1) (e_evs1 (e_call2 (e_var rfl) (e_bi1 (e_var rfl) rfl (bi_list_tup _)) e2))) rfl ?_)
    refine w_cons (w_asg (e_call2 (e_var rfl) (e_lst (e_evsC (e_var rfl) (e_evsC (x := lotD (rowL m fun j => T o j && T p j)) (S' := S2) ?_ (e_evs1 (e_bin (e_tup1 e_con) (e_bi1 (e_var rfl) rfl len_row) rfl rfl (rep_ones true m1 m10))))) (show 3 ≤ lim by decide)) e3) ?_)
    · refine e_bi1 (x := .lst ((rowL m fun j => T o j && T p j).map I)) (S' := S2) ?_ rfl rfl
      unfold rowL
      rw [List.map_map]
      refine e_lc0 (List.range m) (fun j => .tup [.int (bit (T o j) : Nat), .int (bit (T p j) : Nat)]) _ ?_ (fun j hj => ⟨_, rfl, ?_⟩) (by simp; exact lim_of (by omega))
      · rw [evi_zip]
        unfold zipF
        rw [e_var rfl, Res.bind_ok, e_var rfl, Res.bind_ok]
        show Res.ok (zipL ((rowL m (T o)).map I) ((rowL m (T p)).map I)) S2 = _
        congr 1
        unfold zipL rowL
        rw [List.map_map, List.map_map, List.zip_map', List.map_map]
        rfl
      · refine e_bin (e_var rfl) (e_var rfl) rfl rfl ?_
        show binD .mul (.int (bit (T o j) : Nat)) (.int (bit (T p j) : Nat)) = _
        rw [bin_mulN (by unfold bit; split <;> decide)]
        show some (D.int _) = some (D.int (bit (T o j && T p j) : Nat))
        unfold bit
        cases T o j <;> cases T p j <;> rfl
    · refine w_cons (w_ret (v := .bl true) (S' := S3) (e_cmp (e_call1 (e_bin (e_var rfl) (e_tup1 (e_var rfl)) rfl rfl (add_row n10)) (b3 hn8 S3 met hst)) (e_var rfl) rfl rfl (by rw [cmp_eq]; unfold leastD tabD; exact eq_triple _ _ _)) ⟨by rw [hS3.len, hS.len]; exact Nat.le_refl _, hS3, rfl⟩)
end K95
end

section
set_option autoImplicit false
set_option linter.all false
set_option maxRecDepth 3000
/-! PL8: more of forms; the hand of a law and what is drawn from it, for every program. -/
namespace BP
open PySem
theorem lim_of {n : Nat} (h : n ≤ 1000) : n ≤ lim := Nat.le_trans h (by decide)
section
variable {P : Prg} {env : Env} {S S' S'' : List D} {Q : Fl × Env → List D → Prop}
theorem e_rgS {a : Ex} {n : Nat} (h : a.ev P false env S = .ok (.int n) S') (hn : n ≤ lim) : (It.rg a).evi P env S = .ok ((List.range n).map I) S' := by
  rw [evi_rg, irg1F_at, h, Res.bind_ok]
  dsimp only
  rw [if_pos (rgOk_nat hn), rgL_zero]
theorem t_var {i : Nat} {b : Bool} (h : env[i]? = some (.val (.bl b))) : (Ex.var i).ev P true env S = .ok (.bl b) S := by
  rw [ev_var]
  refine truF_ok ?_
  rw [varF_at, h]
theorem e_make2 {f : Nat} {a b : Ex} {x y z : D} {S3 : List D} (h : a.ev P false env S = .ok x S') (h2 : b.ev P false env S' = .ok y S'') (hr : P.make f [x, y] S'' = .ok z S3) : (Ex.make f (.cons a (.cons b .nil))).ev P false env S = .ok z S3 := by
  rw [ev_make, finF_f, callF_at, e_evsC h (e_evs1 h2), Res.bind_ok]
  exact hr
theorem e_seqLS {a : Ex} {xs : List D} (h : a.ev P false env S = .ok (.lst xs) S') : (It.seq a).evi P env S = .ok xs S' := by
  show (a.ev P false env S).bind _ = _
  rw [h]; rfl
theorem cutL_map {α : Type} (l : List α) (f : α → D) (lo hi : Option Int) : ∃ l' : List α, cutL (l.map f) lo hi = l'.map f ∧ l'.length ≤ l.length ∧ ∀ a ∈ l', a ∈ l := by
  unfold cutL
  rw [List.length_map]
  refine ⟨(l.drop (clipI l.length 0 lo)).take (clipI l.length l.length hi - clipI l.length 0 lo), ?_, ?_, fun a ha => List.mem_of_mem_drop (List.mem_of_mem_take ha)⟩
  · rw [List.map_take, List.map_drop]
  · rw [List.length_take, List.length_drop]; omega
theorem w_cell {i : Nat} {v : D} (h : env[i]? = some (.own 1 v)) (hc : v.cont = true) (hq : Q (.nx, env.set i (.val (.ref S.length))) (S ++ [v])) : Ok ((St.cell i).go P env S) Q := by
  rw [go_cell]
  unfold cellF
  rw [h]
  show Ok (if v.cont = true then _ else _) Q
  rw [if_pos hc]
  exact hq
/-- a law's run: cells are left, a flag is told -/
theorem runs_law {F : Fn} {args : List D} (hl : args.length = F.np) (h : Ok (F.body.go P (args.map Slot.val ++ List.replicate (F.N.length - F.np) .no) []) fun p S' => p.1 = .rt (.bl true)) : ∃ S', F.runs P args [] = .ok (.bl true) S' := by
  obtain ⟨⟨fl, env⟩, S', e, hq⟩ := h.get
  have hq : fl = .rt (.bl true) := hq
  subst hq
  unfold Fn.runs
  rw [if_pos hl, e]
  show ∃ S'', back [] (.bl true) S' = _
  unfold back
  by_cases hS : S'.length ≤ ([] : List D).length
  · rw [if_pos hS]; exact ⟨_, rfl⟩
  · rw [if_neg hS]; exact ⟨[], rfl⟩
/-- x[-1] = v -/
theorem s_setLast {i d : Nat} {ke ve : Ex} {xs : List D} {v : D} (h : env[i]? = some (.own d (.lst xs))) (hv : ve.ev P false env S = .ok v S') (hk : ke.ev P false env S' = .ok (.int (-1)) S'') (hj : 0 < xs.length) :
    (St.setI i d ke ve).go P env S = .ok (.nx, env.set i (.own d (.lst (xs.set (xs.length - 1) v)))) S'' := by
  rw [setI_go, if_pos (atK_own h rfl), hv, Res.bind_ok, hk, Res.bind_ok]
  unfold chg
  rw [h]
  show chgR (if d = d then _ else _) = _
  rw [if_pos rfl]
  unfold setD ixI
  dsimp only
  rw [if_neg (by decide), if_pos (by omega)]
  show Res.ok _ _ = _
  have : ((-1 : Int) + (xs.length : Int)).toNat = xs.length - 1 := by omega
  rw [this]
theorem e_peekV {i d : Nat} {v : D} (h : env[i]? = some (.val v)) : (Ex.peek i d).ev P false env S = .ok v S := by
  rw [ev_peek, finF_f, peekF_at, h]
theorem e_neg {a : Ex} {i : Int} (h : a.ev P false env S = .ok (.int i) S') : (Ex.neg a).ev P false env S = .ok (.int (-i)) S' := by
  rw [ev_neg, finF_f, negF_at, h]; rfl
theorem e_glob {x : Str} {v : D} : (Ex.glob x v).ev P false env S = .ok v S := by rw [ev_glob, finF_f, conF_at]
theorem e_ife {c a b : Ex} {v : Bool} {w : D} (h : c.ev P true env S = .ok (.bl v) S') (h1 : v = true → a.ev P false env S' = .ok w S'') (h2 : v = false → b.ev P false env S' = .ok w S'') : (Ex.ife c a b).ev P false env S = .ok w S'' := by
  show ifF _ _ _ env S = _
  rw [ifF_eq, h, Res.bind_ok, onB_bl]
  cases v with
  | true => exact h1 rfl
  | false => exact h2 rfl
end
/-! ### numbers -/
theorem bin_mod {i j : Int} (h : 0 < j) : binD .mod (.int i) (.int j) = some (.int (i % j)) := by
  show (if decide (0 < j) = true then some (D.int (i % j)) else none) = _
  rw [if_pos (decide_eq_true h)]
theorem bin_fdiv {i j : Int} (h : 0 < j) (h2 : j < 1073741824) : binD .fdiv (.int i) (.int j) = some (.int (i / j)) := by
  show (if (decide (0 < j) && decide (j < 1073741824)) = true then some (D.int (i / j)) else none) = _
  rw [decide_eq_true h, decide_eq_true h2]; rfl
theorem bin_mulL {i j : Int} (h : i.natAbs < 2 ^ 64) : binD .mul (.int i) (.int j) = some (.int (i * j)) := by
  show (if mulOk i j = true then some (D.int (i * j)) else none) = _
  have : mulOk i j = true := by unfold mulOk; rw [decide_eq_true h]; rfl
  rw [if_pos this]
theorem bin_mulR {i j : Int} (h : j.natAbs < 2 ^ 64) : binD .mul (.int i) (.int j) = some (.int (i * j)) := by
  show (if mulOk i j = true then some (D.int (i * j)) else none) = _
  have : mulOk i j = true := by unfold mulOk; rw [decide_eq_true h, Bool.or_true]
  rw [if_pos this]
theorem abs_mod {x j : Int} (h : 0 < j) (hj : j < 4611686018427387904) : (x % j).natAbs < 2 ^ 64 := by
  have h1 := Int.emod_nonneg x (show j ≠ 0 by omega)
  have h2 := Int.emod_lt_of_pos x h
  omega
/-! ### the hand -/
def hd (cs : List Int) (pos : Nat) (b h3 h4 : Int) : D := .lst [.lst (cs.map .int), .int pos, .int b, .int h3, .int h4]
def Hand (S : List D) : Prop := ∃ cs pos b h3 h4, S = [hd cs pos b h3 h4]
theorem Hand.len {S : List D} (h : Hand S) : S.length = 1 := by obtain ⟨cs, pos, b, h3, h4, rfl⟩ := h; rfl
theorem Hand.le {S S' : List D} (h : Hand S') (h2 : Hand S) : S'.length ≤ S.length := by rw [h.len, h2.len]; exact Nat.le_refl _
def Draws (P : Prg) (f : Nat) : Prop := ∀ S, Hand S → ∀ many : Nat, 0 < many → many < 1000 → ∃ (i : Nat) (S' : List D), P.run f [.ref 0, .int many] S = .ok (.int i) S' ∧ i < many ∧ Hand S'
/-- how a cell is mixed in -/
def mixA (c1 c2 c3 : Int) : Ex := .bin .mod (.bi .int (.cons (.bin .add (.bin .add (.bin .mul (.idx (.var 0) (.con (.int 3))) (.con (.int c1))) (.var 3)) (.con (.int c2))) (.nil))) (.con (.int c3))
def mixB (c1 c2 c3 c4 : Int) : Ex := .bin .mod (.bi .int (.cons (.bin .add (.bin .add (.bin .mul (.idx (.var 0) (.con (.int 3))) (.con (.int c1))) (.bin .mul (.var 3) (.con (.int c2)))) (.con (.int c3))) (.nil))) (.con (.int c4))
def drawB (mix : Ex) (c1 c2 c3 c4 c5 c6 c7 c8 c9 : Int) : Sts := .cons (.ite (.and (.cmp .eq (.idx (.var 0) (.con (.int 2))) (.con (.int 0))) (.cmp .lt (.idx (.var 0) (.con (.int 1))) (.bi .len (.cons (.idx (.var 0) (.con (.int 0))) (.nil))))) (.cons (.asg 3 0 (.idx (.idx (.var 0) (.con (.int 0))) (.idx (.var 0) (.con (.int 1))))) (.cons (.setI 0 1 (.con (.int 1)) (.bin .add (.idx (.var 0) (.con (.int 1))) (.con (.int 1)))) (.cons (.setI 0 1 (.con (.int 3)) mix) (.cons (.ite (.cmp .ge (.var 3) (.bin .pow (.con (.int 10)) (.con (.int 18)))) (.cons (.setI 0 1 (.con (.int 2)) (.var 3)) (.nil)) (.nil)) (.nil))))) (.nil)) (.cons (.ite (.cmp .gt (.idx (.var 0) (.con (.int 2))) (.con (.int 0))) (.cons (.asg 4 0 (.bin .mod (.bi .int (.cons (.idx (.var 0) (.con (.int 2))) (.nil))) (.var 1))) (.cons (.setI 0 1 (.con (.int 2)) (.bin .fdiv (.idx (.var 0) (.con (.int 2))) (.var 1))) (.cons (.ret (.var 4)) (.nil)))) (.nil)) (.cons (.setI 0 1 (.con (.int 4)) (.bin .add (.idx (.var 0) (.con (.int 4))) (.con (.int 1)))) (.cons (.asg 2 0 (.bin .mod (.bi .int (.cons (.bin .mul (.bi .int (.cons (.bin .add (.idx (.var 0) (.con (.int 3))) (.bin .mul (.con (.int c1)) (.idx (.var 0) (.con (.int 4))))) (.nil))) (.con (.int c2))) (.nil))) (.con (.int c3)))) (.cons (.asg 2 0 (.bin .mod (.bi .int (.cons (.bin .mul (.var 2) (.bin .add (.bin .fdiv (.var 2) (.con (.int c4))) (.con (.int c5)))) (.nil))) (.con (.int c6)))) (.cons (.asg 2 0 (.bin .mod (.bi .int (.cons (.bin .mul (.var 2) (.bin .add (.bin .fdiv (.var 2) (.con (.int c7))) (.con (.int c8)))) (.nil))) (.con (.int c9)))) (.cons (.ret (.bin .mod (.bi .int (.cons (.bin .fdiv (.var 2) (.con (.int 16))) (.nil))) (.var 1))) (.nil)))))))
theorem mixA_ok {c1 c2 c3 : Int} (h1 : c1.natAbs < 2 ^ 64) (h3 : 0 < c3) : ∀ (P : Prg) (many : Nat) (cs : List Int) (pos : Nat) (b h3 h4 cell : Int), ∃ v : Int, (mixA c1 c2 c3).ev P false [.val (.ref 0), .val (.int many), .no, .val (.int cell), .no] [hd cs pos b h3 h4] = .ok (.int v) [hd cs pos b h3 h4] :=
  fun P many cs pos b x4 h4 cell => ⟨_, e_bin (e_bi1 (e_bin (e_bin (e_bin (e_idx (e_var rfl) e_con rfl rfl) e_con rfl rfl (bin_mulR h1)) (e_var rfl) rfl rfl (bin_add _ _)) e_con rfl rfl (bin_add _ _)) rfl (bi_int _)) e_con rfl rfl (bin_mod h3)⟩
theorem mixB_ok {c1 c2 c3 c4 : Int} (h1 : c1.natAbs < 2 ^ 64) (h2 : c2.natAbs < 2 ^ 64) (h3 : 0 < c4) : ∀ (P : Prg) (many : Nat) (cs : List Int) (pos : Nat) (b h3 h4 cell : Int), ∃ v : Int, (mixB c1 c2 c3 c4).ev P false [.val (.ref 0), .val (.int many), .no, .val (.int cell), .no] [hd cs pos b h3 h4] = .ok (.int v) [hd cs pos b h3 h4] :=
  fun P many cs pos b x4 h4 cell => ⟨_, e_bin (e_bi1 (e_bin (e_bin (e_bin (e_idx (e_var rfl) e_con rfl rfl) e_con rfl rfl (bin_mulR h1)) (e_bin (e_var rfl) e_con rfl rfl (bin_mulR h2)) rfl rfl (bin_add _ _)) e_con rfl rfl (bin_add _ _)) rfl (bi_int _)) e_con rfl rfl (bin_mod h3)⟩
theorem draw_go {P : Prg} {mix : Ex} {c1 c2 c3 c4 c5 c6 c7 c8 c9 : Int} (hmix : ∀ (P : Prg) (many : Nat) (cs : List Int) (pos : Nat) (b h3 h4 cell : Int), ∃ v : Int, mix.ev P false [.val (.ref 0), .val (.int many), .no, .val (.int cell), .no] [hd cs pos b h3 h4] = .ok (.int v) [hd cs pos b h3 h4])
    (b1 : c1.natAbs < 2 ^ 64) (b2 : c2.natAbs < 2 ^ 64) (b3 : 0 < c3 ∧ c3 < 4611686018427387904) (b4 : 0 < c4 ∧ c4 < 1073741824) (b6 : 0 < c6 ∧ c6 < 4611686018427387904) (b7 : 0 < c7 ∧ c7 < 1073741824) (b9 : 0 < c9) {S : List D} (hS : Hand S) {many : Nat} (hm : 0 < many) (hm2 : many < 1000) :
    Ok ((drawB mix c1 c2 c3 c4 c5 c6 c7 c8 c9).go P [.val (.ref 0), .val (.int many), .no, .no, .no] S) fun p S' => S'.length ≤ S.length ∧ match p.1 with
      | .rt v => Hand S' ∧ ∃ i : Nat, i < many ∧ v = .int i
      | .nx => False
      | _ => False := by
  obtain ⟨cs, pos, b, h3, h4, rfl⟩ := hS
  have hmi : (0 : Int) < many := by omega
  have fin : ∀ x : Int, ∃ i : Nat, i < many ∧ D.int (x % many) = .int i := fun x => by
    have h1 := Int.emod_nonneg x (show (many : Int) ≠ 0 by omega)
    have h2 := Int.emod_lt_of_pos x hmi
    exact ⟨(x % many).toNat, by omega, by rw [Int.toNat_of_nonneg h1]⟩
  have add : ∀ i j : Int, binD .add (.int i) (.int j) = some (.int (i + j)) := fun i j => rfl
  unfold drawB
  refine w_cons (Ok.mono (Q := fun p S' => ∃ y cs pos b h3 h4, p = (.nx, [.val (.ref 0), .val (.int many), .no, y, .no]) ∧ S' = [hd cs pos b h3 h4]) ?_ ?_)
  · refine w_ite (e_and (e_cmp (e_idx (e_var rfl) e_con rfl rfl) e_con rfl rfl (by rw [cmp_eq, eq_int])) fun _ => e_cmp (e_idx (e_var rfl) e_con rfl rfl) (e_bi1 (e_idx (e_var rfl) e_con rfl rfl) rfl (bi_len_lst _)) rfl rfl (cmp_lt _ _)) (fun q => ?_) fun _ => ⟨_, cs, pos, b, h3, h4, rfl, rfl⟩
    rw [Bool.and_eq_true, decide_eq_true_eq, decide_eq_true_eq, List.length_map] at q
    have hp : pos < cs.length := by omega
    have ecell : idxD (.lst (cs.map .int)) (.int pos) = some (.int cs[pos]) := by
      show atD _ _ = _
      rw [at_map, List.getElem?_eq_getElem hp]; rfl
    refine w_cons (w_asg (e_idx (e_idx (e_var rfl) e_con rfl rfl) (e_idx (e_var rfl) e_con rfl rfl) rfl ecell) ?_)
    refine w_cons (w_st (s_setR (c := 0) (j := 1) rfl rfl (e_bin (e_idx (e_var rfl) e_con rfl rfl) e_con rfl rfl (add _ _)) e_con rfl (show 1 < 5 by decide)) ?_)
    obtain ⟨v, hv⟩ := hmix P many cs (pos + 1) b h3 h4 cs[pos]
    refine w_cons (w_st (s_setR (c := 0) (j := 3) rfl rfl hv e_con rfl (show 3 < 5 by decide)) ?_)
    refine w_cons (w_ite (v := decide ((10 : Int) ^ 18 ≤ cs[pos])) (e_cmp (e_var rfl) (e_bin e_con e_con rfl rfl (show _ = some (.int ((10 : Int) ^ 18)) from rfl)) rfl rfl (cmp_ge _ _)) (fun _ => w_cons (w_st (s_setR (c := 0) (j := 2) rfl rfl (e_var rfl) e_con rfl (show 2 < 5 by decide)) ⟨_, cs, pos + 1, _, _, _, rfl, rfl⟩)) fun _ => ⟨_, cs, pos + 1, _, _, _, rfl, rfl⟩)
  rintro p S' ⟨y, cs, pos, b, h3, h4, rfl, rfl⟩
  refine w_cons (w_ite (v := decide (0 < b)) (e_cmp (e_idx (e_var rfl) e_con rfl rfl) e_con rfl rfl (cmp_gt _ _)) (fun _ => ?_) fun _ => ?_)
  · refine w_cons (w_asg (e_bin (e_bi1 (e_idx (e_var rfl) e_con rfl rfl) rfl (bi_int _)) (e_var rfl) rfl rfl (bin_mod hmi)) ?_)
    refine w_cons (w_st (s_setR (c := 0) (j := 2) rfl rfl (e_bin (e_idx (e_var rfl) e_con rfl rfl) (e_var rfl) rfl rfl (bin_fdiv hmi (by omega))) e_con rfl (show 2 < 5 by decide)) ?_)
    exact w_cons (w_ret (e_var rfl) ⟨Nat.le_refl _, ⟨cs, pos, _, _, _, rfl⟩, fin _⟩)
  · refine w_cons (w_st (s_setR (c := 0) (j := 4) rfl rfl (e_bin (e_idx (e_var rfl) e_con rfl rfl) e_con rfl rfl (add _ _)) e_con rfl (show 4 < 5 by decide)) ?_)
    refine w_cons (w_asg (e_bin (e_bi1 (e_bin (e_bi1 (e_bin (e_idx (e_var rfl) e_con rfl rfl) (e_bin e_con (e_idx (e_var rfl) e_con rfl rfl) rfl rfl (bin_mulL b1)) rfl rfl (add _ _)) rfl (bi_int _)) e_con rfl rfl (bin_mulR b2)) rfl (bi_int _)) e_con rfl rfl (bin_mod b3.1)) ?_)
    refine w_cons (w_asg (e_bin (e_bi1 (e_bin (e_var rfl) (e_bin (e_bin (e_var rfl) e_con rfl rfl (bin_fdiv b4.1 b4.2)) e_con rfl rfl (add _ _)) rfl rfl (bin_mulL (abs_mod b3.1 b3.2))) rfl (bi_int _)) e_con rfl rfl (bin_mod b6.1)) ?_)
    refine w_cons (w_asg (e_bin (e_bi1 (e_bin (e_var rfl) (e_bin (e_bin (e_var rfl) e_con rfl rfl (bin_fdiv b7.1 b7.2)) e_con rfl rfl (add _ _)) rfl rfl (bin_mulL (abs_mod b6.1 b6.2))) rfl (bi_int _)) e_con rfl rfl (bin_mod b9)) ?_)
    exact w_cons (w_ret (e_bin (e_bi1 (e_bin (e_var rfl) e_con rfl rfl (bin_fdiv (by decide) (by decide))) rfl (bi_int _)) (e_var rfl) rfl rfl (bin_mod hmi)) ⟨Nat.le_refl _, ⟨cs, pos, _, _, _, rfl⟩, fin _⟩)
/-- a def's draws -/
theorem draws_of {P P' : Prg} {F : Fn} {f : Nat} {mix : Ex} {c1 c2 c3 c4 c5 c6 c7 c8 c9 : Int} (hr : ∀ args S, P.run f args S = F.runs P' args S) (hp : F.np = 2) (hN : F.N.length = 5) (hb : F.body = drawB mix c1 c2 c3 c4 c5 c6 c7 c8 c9)
    (hmix : ∀ (P : Prg) (many : Nat) (cs : List Int) (pos : Nat) (b h3 h4 cell : Int), ∃ v : Int, mix.ev P false [.val (.ref 0), .val (.int many), .no, .val (.int cell), .no] [hd cs pos b h3 h4] = .ok (.int v) [hd cs pos b h3 h4])
    (b1 : c1.natAbs < 2 ^ 64) (b2 : c2.natAbs < 2 ^ 64) (b3 : 0 < c3 ∧ c3 < 4611686018427387904) (b4 : 0 < c4 ∧ c4 < 1073741824) (b6 : 0 < c6 ∧ c6 < 4611686018427387904) (b7 : 0 < c7 ∧ c7 < 1073741824) (b9 : 0 < c9) : Draws P f := fun S hS many h1 h2 => by
  have : Ok (F.runs P' [.ref 0, .int many] S) fun v S' => Hand S' ∧ ∃ i : Nat, i < many ∧ v = .int i := by
    refine runs_wp (by rw [hp]; rfl) ?_
    rw [hp, hN, hb]
    refine (draw_go (P := P') hmix b1 b2 b3 b4 b6 b7 b9 hS h1 h2).mono fun p S' ⟨q1, q2⟩ => ⟨q1, ?_⟩
    obtain ⟨fl, env⟩ := p
    cases fl with
    | rt v => exact q2
    | nx => exact q2.elim
    | bk => exact q2
    | ct => exact q2
  obtain ⟨v, S', e, hS', i, hi, rfl⟩ := this.get
  exact ⟨i, S', by rw [hr]; exact e, hi, hS'⟩
/-- things[draw(len(things))] -/
def someB (d : Nat) : Sts := .cons (.ret (.idx (.var 1) (.call d (.cons (.var 0) (.cons (.bi .len (.cons (.var 1) (.nil))) (.nil)))))) (.nil)
theorem some_runs {P : Prg} {F : Fn} {d : Nat} (hp : F.np = 2) (hN : F.N.length = 2) (hb : F.body = someB d) (hD : Draws P d) {S : List D} (hS : Hand S) {xs : List D} (h0 : 0 < xs.length) (hl : xs.length < 1000) : Ok (F.runs P [.ref 0, .lst xs] S) fun v S' => Hand S' ∧ v ∈ xs := by
  obtain ⟨i, S', e, hi, hS'⟩ := hD S hS xs.length h0 hl
  refine runs_wp (by rw [hp]; rfl) ?_
  rw [hp, hN, hb]
  have ex : idxD (.lst xs) (.int i) = some xs[i] := by
    show atD xs i = _
    unfold atD
    rw [ixI_nat hi]
    exact List.getElem?_eq_getElem hi
  exact w_cons (w_ret (e_idx (e_var rfl) (e_call2 (e_var rfl) (e_bi1 (e_var rfl) rfl (bi_len_lst _)) e) rfl ex) ⟨hS'.le hS, hS', List.getElem_mem hi⟩)
/-- the hand of a script -/
def handB (c1 c2 : Int) : Sts := .cons (.asg 1 0 (.lc (.bi .abs (.cons (.bi .int (.cons (.var 2) (.nil))) (.nil))) (.name 2) (.seq (.slice (.var 0) .no (.so (.con (.int 63))))) (.no) [2])) (.cons (.ret (.lst (.cons (.var 1) (.cons (.con (.int 0)) (.cons (.con (.int 0)) (.cons (.bin .add (.con (.int c1)) (.bin .mul (.con (.int c2)) (.bi .len (.cons (.var 1) (.nil))))) (.cons (.con (.int 0)) (.nil)))))))) (.nil))
theorem hand_runs {P : Prg} {F : Fn} {c1 c2 : Int} (hp : F.np = 1) (hN : F.N.length = 3) (hb : F.body = handB c1 c2) (h2 : c2.natAbs < 2 ^ 64) {S : List D} {ns : List Int} (hl : ns.length ≤ 63) : ∃ cs h3, F.runs P [.scr ns] S = .ok (hd cs 0 0 h3 0) S := by
  obtain ⟨l', hc, hc2, hc3⟩ := cutL_map ns .int none (some 63)
  refine ⟨l'.map fun i => if i < 0 then -i else i, c1 + c2 * ((((l'.map fun i => if i < 0 then -i else i).map D.int).length : Nat) : Int), runs_eq (by rw [hp]; rfl) ?_⟩
  rw [hp, hN, hb]
  have e : (Ex.lc (.bi .abs (.cons (.bi .int (.cons (.var 2) (.nil))) (.nil))) (.name 2) (.seq (.slice (.var 0) .no (.so (.con (.int 63))))) (.no) [2]).ev P false [.val (.scr ns), .no, .no] S = .ok (.lst ((l'.map fun i => if i < 0 then -i else i).map .int)) S := by
    rw [List.map_map]
    exact e_lc0 l' .int _ (e_seqL (e_sliceH (e_var rfl) e_con rfl (by show some (D.lst (cutL (ns.map .int) none (some 63))) = _; rw [hc]))) (fun i hi => ⟨_, rfl, e_bi1 (e_bi1 (e_var rfl) rfl (bi_int i)) rfl (bi_abs i)⟩) (lim_of (by omega))
  exact w_cons (w_asg e (w_cons (w_ret (e_lst (e_evsC (e_var rfl) (e_evsC e_con (e_evsC e_con (e_evsC (e_bin e_con (e_bin e_con (e_bi1 (e_var rfl) rfl (bi_len_lst _)) rfl rfl (bin_mulL h2)) rfl rfl (bin_add _ _)) (e_evs1 e_con))))) (show 5 ≤ lim by decide)) ⟨rfl, rfl⟩)))
end BP
end

section
set_option autoImplicit false
set_option linter.all false
set_option maxRecDepth 100000
namespace K95
open PySem BP TB
variable {K : Nat} {n m : Nat} {T : Nat → Nat → Bool}
def bads : List D := [.non, .tup [], .tup [.tup [.int 2]], .tup [.tup [.int 1, .int 0], .tup [.int 1]], .lst [.tup [.int 1]], .tup [.tup [.bl true]], .tup [.tup [.int 1], .tup [.int 1], .tup [.int 1], .tup [.int 1], .tup [.int 1], .tup [.int 1], .tup [.int 1], .tup [.int 1], .tup [.int 1], .tup [.int 1], .tup [.int 1]], .int 0, .dct false [], .str "table"]
theorem run_bad {v : D} (hv : v ∈ bads) {S : List D} (hS : Hand S) : (tab.at 29).run 26 [v] S = .ok (.bl true) S := by
  obtain ⟨cs, pos, b, h3, h4, rfl⟩ := hS
  unfold bads at hv
  simp only [List.mem_cons, List.not_mem_nil, or_false] at hv
  rcases hv with rfl | rfl | rfl | rfl | rfl | rfl | rfl | rfl | rfl | rfl <;> kernel_rfl
def known : D := .tup [.tup [.int 1, .int 1, .int 0], .tup [.int 0, .int 1, .int 1], .tup [.int 0, .int 1, .int 0], .tup [.int 1, .int 1, .int 0], .tup [.int 1, .int 1, .int 1]]
def known_due : D := .tup [.tup [.tup [.int 1, .int 0], .tup [.int 0, .int 1]], .tup [.int 0, .int 1], .tup [.int 0, .int 2]]
def one_due : D := .tup [.tup [], .tup [], .tup []]
def two_due : D := .tup [.tup [.tup [.int 0]], .tup [.int 0], .tup [.int 0]]
section
variable {cs : List Int} {pos : Nat} {b h3 h4 : Int}
theorem known_run : (tab.at 29).run 10 [known] [hd cs pos b h3 h4] = .ok known_due [hd cs pos b h3 h4] := by kernel_rfl
theorem known_is : (tab.at 29).run 15 [known_due, known_due] [hd cs pos b h3 h4] = .ok (.bl true) [hd cs pos b h3 h4] := by kernel_rfl
theorem one_run : (tab.at 29).run 10 [.tup [.tup [.int 1, .int 1]]] [hd cs pos b h3 h4] = .ok one_due [hd cs pos b h3 h4] := by kernel_rfl
theorem two_run : (tab.at 29).run 10 [.tup [.tup [.int 0]]] [hd cs pos b h3 h4] = .ok two_due [hd cs pos b h3 h4] := by kernel_rfl
theorem two_is : (tab.at 29).run 15 [.lst [one_due, two_due], .lst [one_due, two_due]] [hd cs pos b h3 h4] = .ok (.bl true) [hd cs pos b h3 h4] := by kernel_rfl
end
/-! ### a drawn table -/
theorem rowL_snoc (i : Nat) (f : Nat → Bool) (v : Bool) : rowL (i + 1) (fun j => if j < i then f j else v) = rowL i f ++ [bit v] := by
  unfold rowL
  rw [List.range_succ, List.map_append]
  congr 1
  · exact List.map_congr_left fun j hj => by
      show bit (if j < i then f j else v) = _
      rw [if_pos (List.mem_range.mp hj)]
  · show [bit (if i < i then f i else v)] = _
    rw [if_neg (Nat.lt_irrefl i)]
theorem tabL_snoc (n m : Nat) (T : Nat → Nat → Bool) (met : Nat → Bool) : tabL (n + 1) m (plus n T met) = tabL n m T ++ [rowL m met] := by
  unfold tabL
  rw [List.range_succ, List.map_append]
  congr 1
  · exact List.map_congr_left fun i hi => row_eq.mpr fun j hj => if_pos (List.mem_range.mp hi)
  · show [rowL m (plus n T met n)] = _
    congr 1
    exact row_eq.mpr fun j hj => if_neg (Nat.lt_irrefl n)
theorem tabL_last (n m : Nat) (T : Nat → Nat → Bool) (f : Nat → Bool) : (tabL n m T).set (n - 1) (rowL m f) = tabL n m fun i => if i = n - 1 then f else T i := by
  unfold tabL
  apply List.ext_getElem?
  intro i
  rw [List.getElem?_set]
  by_cases hi : i < n
  · rw [List.getElem?_map, List.getElem?_map, List.getElem?_range hi]
    by_cases e : n - 1 = i
    · rw [if_pos e, if_pos (by simp; omega)]
      show some _ = some (rowL m (if i = n - 1 then f else T i))
      rw [if_pos e.symm]
    · rw [if_neg e]
      show some _ = some (rowL m (if i = n - 1 then f else T i))
      rw [if_neg fun z => e z.symm]
  · rw [List.getElem?_eq_none (show ((List.range n).map _).length ≤ i by simpa using hi), List.getElem?_eq_none (show ((List.range n).map _).length ≤ i by simpa using hi)]
    split
    · rw [if_neg (by simp; omega)]
    · rfl
theorem tabL_len {n m : Nat} {T : Nat → Nat → Bool} : (tabL n m T).length = n := by unfold tabL; simp
theorem row_ev {P : Prg} (hP : Draws P) {x1 x2 x3 x6 x7 : Slot} {m b : Nat} (hm : m ≤ 10) {S : List D} (hS : Hand S) : ∃ f S', (Ex.bi .tuple (.cons (.lc (.bi .int (.cons (.cmp .lt (.call 13 (.cons (.var 0) (.cons (.con (.int 5)) (.nil)))) (.var 5)) (.nil))) (.name 7) (.rg (.var 4)) (.no) [7]) (.nil))).ev P false [.val (.ref 0), x1, x2, x3, .val (.int m), .val (.int b), x6, x7] S = .ok (lotD (rowL m f)) S' ∧ Hand S' := by
  have key : Ok ((Ex.lc (.bi .int (.cons (.cmp .lt (.call 13 (.cons (.var 0) (.cons (.con (.int 5)) (.nil)))) (.var 5)) (.nil))) (.name 7) (.rg (.var 4)) (.no) [7]).ev P false [.val (.ref 0), x1, x2, x3, .val (.int m), .val (.int b), x6, x7] S) fun v S' => Hand S' ∧ ∃ f, v = .lst ((rowL m f).map I) := by
    refine w_lc (List.range m) I (fun rest acc S => Hand S ∧ ∃ i f, i + rest.length = m ∧ acc = (rowL i f).map I) (e_rg (e_var rfl) (lim_of (by omega))) ⟨hS, 0, fun _ => false, by simp, rfl⟩ ?_ ?_
    · rintro a rest acc S1 ⟨hS1, i, f, h1, rfl⟩
      rw [List.length_cons] at h1
      obtain ⟨d, S2, e, hd, hS2⟩ := hP S1 hS1 5 (by decide) (by decide)
      refine ⟨_, rfl, true, S1, rfl, fun q => Bool.noConfusion q, fun _ => ⟨.int (bit (decide ((d : Int) < b)) : Nat), S2, e_bi1 (e_cmp (e_call2 (e_var rfl) e_con e) (e_var rfl) rfl rfl (cmp_lt _ _)) rfl (bi_intB _), hS2, i + 1, fun j => if j < i then f j else decide ((d : Int) < b), by omega, ?_⟩⟩
      rw [rowL_snoc, List.map_append]; rfl
    · rintro acc S1 ⟨hS1, i, f, h1, rfl⟩
      have h1 : i = m := by simpa using h1
      subst h1
      exact ⟨by rw [List.length_map, row_len]; exact lim_of (by omega), hS1, f, rfl⟩
  obtain ⟨v, S', e, h1, f, rfl⟩ := key.get
  exact ⟨f, S', e_bi1 e rfl rfl, h1⟩
theorem run_law_table (hK : 3 ≤ K) {S : List D} (hS : Hand S) {most : Nat} (h1 : 0 < most) (h2 : most < 10) : Ok ((tab.at K).run 16 [.ref 0, .int most] S) fun v S' => Hand S' ∧ ∃ n m T, v = tabD n m T ∧ Ok2 n m := by
  obtain ⟨k, rfl⟩ : ∃ k, K = k + 1 := ⟨K - 1, by omega⟩
  rw [run_at' (F := f__law_table) rfl]
  have hP := draws_at (k := k) (by omega)
  have hs : ∀ {S : List D}, Hand S → ∀ {xs : List D}, 0 < xs.length → xs.length < 1000 → ∃ v S', (tab.at k).run 14 [.ref 0, .lst xs] S = .ok v S' ∧ Hand S' ∧ v ∈ xs := fun hS xs q1 q2 => by
    obtain ⟨v, S', e, a, b⟩ := (run_some (K := k) (by omega) hS q1 q2).get
    exact ⟨v, S', e, a, b⟩
  revert hP hs
  generalize tab.at k = P
  intro hP hs
  obtain ⟨i1, S1, e1, l1, hS1⟩ := hP S hS most h1 (by omega)
  obtain ⟨i2, S2, e2, l2, hS2⟩ := hP S1 hS1 most h1 (by omega)
  obtain ⟨i3, S3, e3, l3, hS3⟩ := hP S2 hS2 4 (by decide) (by decide)
  refine runs_wp rfl ?_
  refine w_cons (w_par (e_evsC (e_bin e_con (e_call2 (e_var rfl) (e_var rfl) e1) rfl rfl (bin_add _ _)) (e_evsC (e_bin e_con (e_call2 (e_var rfl) (e_var rfl) e2) rfl rfl (bin_add _ _)) (e_evs1 (e_bin e_con (e_call2 (e_var rfl) e_con e3) rfl rfl (bin_add _ _))))) rfl ?_)
  have c1 : (1 : Int) + i1 = ((1 + i1 : Nat) : Int) := by omega
  have c2 : (1 : Int) + i2 = ((1 + i2 : Nat) : Int) := by omega
  have c3 : (1 : Int) + i3 = ((1 + i3 : Nat) : Int) := by omega
  rw [c1, c2, c3]
  generalize hn : 1 + i1 = n
  generalize hm : 1 + i2 = m
  generalize 1 + i3 = bar
  have key : ∀ (x6 x7 : Slot), Ok ((Ex.lc (.bi .tuple (.cons (.lc (.bi .int (.cons (.cmp .lt (.call 13 (.cons (.var 0) (.cons (.con (.int 5)) (.nil)))) (.var 5)) (.nil))) (.name 7) (.rg (.var 4)) (.no) [7]) (.nil))) (.name 6) (.rg (.var 3)) (.no) [6]).ev P false [.val (.ref 0), .val (.int most), .no, .val (.int n), .val (.int m), .val (.int bar), x6, x7] S3) fun v S' => Hand S' ∧ ∃ T, v = .lst ((tabL n m T).map lotD) := fun x6 x7 => by
    refine w_lc (List.range n) I (fun rest acc S => Hand S ∧ ∃ i T, i + rest.length = n ∧ acc = (tabL i m T).map lotD) (e_rg (e_var rfl) (lim_of (by omega))) ⟨hS3, 0, fun _ _ => false, by simp, rfl⟩ ?_ ?_
    · rintro a rest acc S4 ⟨hS4, i, T, q1, rfl⟩
      rw [List.length_cons] at q1
      obtain ⟨f, S5, e, hS5⟩ := row_ev hP (x1 := .val (.int most)) (x2 := .no) (x3 := .val (.int n)) (x6 := .val (.int a)) (x7 := x7) (m := m) (b := bar) (by omega) hS4
      refine ⟨_, rfl, true, S4, rfl, fun q => Bool.noConfusion q, fun _ => ⟨_, S5, e, hS5, i + 1, plus i T f, by omega, ?_⟩⟩
      rw [tabL_snoc, List.map_append]; rfl
    · rintro acc S4 ⟨hS4, i, T, q1, rfl⟩
      have q1 : i = n := by simpa using q1
      subst q1
      exact ⟨by rw [List.length_map, tabL_len]; exact lim_of (by omega), hS4, T, rfl⟩
  obtain ⟨v, S4, e4, hS4, T, rfl⟩ := (key .no .no).get
  refine w_cons (w_asg e4 ?_)
  obtain ⟨i5, S5, e5, l5, hS5⟩ := hP S4 hS4 3 (by decide) (by decide)
  have hfin : ∀ (S' : List D) (U : Nat → Nat → Bool), Hand S' → Hand S' ∧ ∃ n' m' T', tabD n m U = tabD n' m' T' ∧ Ok2 n' m' := fun S' U hS' => ⟨hS', n, m, U, rfl, by omega, by omega, by omega, by omega⟩
  refine w_cons (Ok.mono (Q := fun p S' => Hand S' ∧ ∃ U x6 x7, p = (.nx, [.val (.ref 0), .val (.int most), .own 1 (.lst ((tabL n m U).map lotD)), .val (.int n), .val (.int m), .val (.int bar), x6, x7])) ?_ ?_)
  · refine w_ite (e_cmp (e_call2 (e_var rfl) e_con e5) e_con rfl rfl (by rw [cmp_eq, eq_int])) (fun _ => ?_) fun _ => ⟨hS5, T, _, _, rfl⟩
    have h0 : idxD (.lst ((tabL n m T).map lotD)) (.int 0) = some (lotD (rowL m (T 0))) := by
      show atD _ ((0 : Nat) : Int) = _
      rw [at_map]
      unfold tabL
      rw [List.getElem?_map, List.getElem?_range (by omega)]; rfl
    obtain ⟨w, S6, e6, hS6, hw⟩ := hs hS5 (xs := [lotD (rowL m (T 0)), lotD (rowL m fun _ => false), lotD (rowL m fun _ => true)]) (show 0 < 3 by decide) (show 3 < 1000 by decide)
    have hw : ∃ f, w = lotD (rowL m f) := by
      simp only [List.mem_cons, List.not_mem_nil, or_false] at hw
      rcases hw with rfl | rfl | rfl <;> exact ⟨_, rfl⟩
    obtain ⟨f, rfl⟩ := hw
    refine w_cons (w_st (s_setLast (i := 2) (d := 1) rfl (e_call2 (e_var rfl) (e_lst (e_evsC (e_idx (e_peek rfl) e_con rfl h0) (e_evsC (e_bin (e_tup1 e_con) (e_var rfl) rfl rfl (rep_ones false (by omega) (by omega))) (e_evs1 (e_bin (e_tup1 e_con) (e_var rfl) rfl rfl (rep_ones true (by omega) (by omega)))))) (show 3 ≤ lim by decide)) e6) (e_neg e_con) (by rw [List.length_map, tabL_len]; omega)) ⟨hS6, fun i => if i = n - 1 then f else T i, .no, .no, ?_⟩)
    rw [← tabL_last, List.length_map, tabL_len, List.map_set]; rfl
  · rintro p S' ⟨hS', U, x6, x7, rfl⟩
    exact w_cons (w_ret (e_bi1 (e_peek rfl) rfl rfl) ⟨by rw [hS'.len, hS.len]; exact Nat.le_refl _, hfin S' U hS'⟩)
end K95
end

section
set_option autoImplicit false
set_option linter.all false
set_option maxRecDepth 3000
namespace K95
open PySem BP TB
variable {K : Nat}
theorem run_hand (hK : 1 ≤ K) {S : List D} {ns : List Int} (hl : ns.length ≤ 63) : ∃ cs h3, (tab.at K).run 12 [.scr ns] S = .ok (hd cs 0 0 h3 0) S := by
  obtain ⟨k, rfl⟩ : ∃ k, K = k + 1 := ⟨K - 1, by omega⟩
  rw [run_at' (F := f__law_hand) rfl]
  exact hand_runs (c1 := 569) (c2 := 80) rfl rfl rfl (by decide) hl
theorem law_run : ∀ ns : List Int, ns.length ≤ 63 → ∃ S', (tab.at 30).run 27 [.scr ns] [] = .ok (.bl true) S' := by
  intro ns hl
  rw [run_at' (F := f_law) rfl]
  obtain ⟨cs, h3, e0⟩ := run_hand (K := 29) (S := []) (by omega) hl
  have hS : Hand [hd cs 0 0 h3 0] := ⟨cs, 0, 0, h3, 0, rfl⟩
  have a1 := known_run (cs := cs) (pos := 0) (b := 0) (h3 := h3) (h4 := 0)
  have a2 := known_is (cs := cs) (pos := 0) (b := 0) (h3 := h3) (h4 := 0)
  have a3 := one_run (cs := cs) (pos := 0) (b := 0) (h3 := h3) (h4 := 0)
  have a4 := two_run (cs := cs) (pos := 0) (b := 0) (h3 := h3) (h4 := 0)
  have a5 := two_is (cs := cs) (pos := 0) (b := 0) (h3 := h3) (h4 := 0)
  obtain ⟨bad, S1, e1, hS1, hb⟩ := (run_some (K := 29) (by omega) hS (xs := bads) (show 0 < 10 by decide) (show 10 < 1000 by decide)).get
  have e2 := run_bad hb hS1
  have b1 : ∀ S, Hand S → ∃ n m T S', (tab.at 29).run 16 [.ref 0, .int ((5 : Nat) : Int)] S = .ok (tabD n m T) S' ∧ Hand S' ∧ Ok2 n m := fun S hS => by
    obtain ⟨v, S', e, hS', n, m, T, rfl, ok⟩ := (run_law_table (K := 29) (by omega) hS (most := 5) (by decide) (by decide)).get
    exact ⟨n, m, T, S', e, hS', ok⟩
  have b2 : ∀ S n m T, Hand S → Ok2 n m → ∃ S', (tab.at 29).run 25 [.ref 0, tabD n m T] S = .ok (.bl true) S' ∧ Hand S' := fun S n m T hS ok => by
    obtain ⟨v, S', e, hS', rfl⟩ := (run_is_right (K := 29) (T := T) (by omega) hS ok).get
    exact ⟨S', e, hS'⟩
  revert e0 a1 a2 a3 a4 a5 e1 e2 b1 b2
  generalize tab.at 29 = P
  intro e0 a1 a2 a3 a4 a5 e1 e2 b1 b2
  refine runs_law rfl ?_
  refine w_cons (w_asg (e_call1 (e_var rfl) e0) (w_cons (w_cell rfl rfl ?_)))
  have t2 : ∀ (env : BP.Env) (S : List D) (x y : D), (Ex.tup (.cons (.con x) (.cons (.con y) .nil))).ev P false env S = .ok (.tup [x, y]) S := fun env S x y => e_tup2 e_con e_con
  have t3 : ∀ (env : BP.Env) (S : List D) (x y z : D), (Ex.tup (.cons (.con x) (.cons (.con y) (.cons (.con z) .nil)))).ev P false env S = .ok (.tup [x, y, z]) S := fun env S x y z => e_tup (e_evsC e_con (e_evsC e_con (e_evs1 e_con))) (show 3 ≤ lim by decide)
  have t0 : ∀ (env : BP.Env) (S : List D), (Ex.tup .nil).ev P false env S = .ok (.tup []) S := fun env S => e_tup0
  refine w_cons (w_asg (v := known) (S' := [hd cs 0 0 h3 0]) (e_tup (e_evsC (t3 _ _ _ _ _) (e_evsC (t3 _ _ _ _ _) (e_evsC (t3 _ _ _ _ _) (e_evsC (t3 _ _ _ _ _) (e_evs1 (t3 _ _ _ _ _)))))) (show 5 ≤ lim by decide)) ?_)
  refine w_cons (w_ite (v := false) (e_not (t_call (e_call2 (e_call1 (e_var rfl) a1) (e_tup (e_evsC (e_tup2 (t2 _ _ _ _) (t2 _ _ _ _)) (e_evsC (t2 _ _ _ _) (e_evs1 (t2 _ _ _ _)))) (show 3 ≤ lim by decide)) a2))) (fun q => Bool.noConfusion q) fun _ => ?_)
  refine w_cons (w_ite (v := false) (e_not (t_call (e_call2 (e_lst (e_evsC (e_call1 (e_tup1 (t2 _ _ _ _)) a3) (e_evs1 (e_call1 (e_tup1 (e_tup1 e_con)) a4))) (show 2 ≤ lim by decide)) (e_lst (e_evsC (e_tup (e_evsC (t0 _ _) (e_evsC (t0 _ _) (e_evs1 (t0 _ _)))) (show 3 ≤ lim by decide)) (e_evs1 (e_tup (e_evsC (e_tup1 (e_tup1 e_con)) (e_evsC (e_tup1 e_con) (e_evs1 (e_tup1 e_con)))) (show 3 ≤ lim by decide)))) (show 2 ≤ lim by decide)) a5))) (fun q => Bool.noConfusion q) fun _ => ?_)
  refine w_cons (w_asg (e_call2 (e_var rfl) (e_lst (e_evsC e_con (e_evsC (t0 _ _) (e_evsC (e_tup1 (e_tup1 e_con)) (e_evsC (e_tup2 (t2 _ _ _ _) (e_tup1 e_con)) (e_evsC (e_lst (e_evs1 (e_tup1 e_con)) (show 1 ≤ lim by decide)) (e_evsC (e_tup1 (e_tup1 e_con)) (e_evsC (e_bin (e_tup1 (e_tup1 e_con)) e_con rfl rfl (show binD .mul (.tup [.tup [.int 1]]) (.int 11) = some (.tup [.tup [.int 1], .tup [.int 1], .tup [.int 1], .tup [.int 1], .tup [.int 1], .tup [.int 1], .tup [.int 1], .tup [.int 1], .tup [.int 1], .tup [.int 1], .tup [.int 1]]) from rfl)) (e_evsC e_con (e_evsC (show _ = Res.ok (D.dct false []) [hd cs 0 0 h3 0] from rfl) (e_evs1 e_con)))))))))) (show 10 ≤ lim by decide)) e1) ?_)
  refine w_cons (w_ite (v := false) (e_not (t_call (e_call1 (e_var rfl) e2))) (fun q => Bool.noConfusion q) fun _ => ?_)
  have fin : Ok ((Ex.lc (.call 25 (.cons (.var 1) (.cons (.call 16 (.cons (.var 1) (.cons (.con (.int 5)) (.nil)))) (.nil)))) (.name 4) (.rg (.con (.int 4))) (.no) [4]).ev P false [.val (.scr ns), .val (.ref 0), .val known, .val bad, .no] S1) fun v S' => Hand S' ∧ ∃ i : Nat, v = .lst ((List.range i).map fun _ => .bl true) := by
    refine w_lc (List.range 4) I (fun rest acc S => Hand S ∧ ∃ i : Nat, i + rest.length = 4 ∧ acc = (List.range i).map fun _ => .bl true) (e_rg e_con (show 4 ≤ lim by decide)) ⟨hS1, 0, rfl, rfl⟩ ?_ ?_
    · rintro a rest acc S2 ⟨hS2, i, h1, rfl⟩
      obtain ⟨n, m, T, S3, e3, hS3, ok⟩ := b1 S2 hS2
      obtain ⟨S4, e4, hS4⟩ := b2 S3 n m T hS3 ok
      refine ⟨_, rfl, true, S2, rfl, fun q => Bool.noConfusion q, fun _ => ⟨.bl true, S4, e_call2 (e_var rfl) (e_call2 (e_var rfl) e_con e3) e4, hS4, i + 1, by rw [List.length_cons] at h1; omega, ?_⟩⟩
      rw [List.range_succ, List.map_append]; rfl
    · rintro acc S2 ⟨hS2, i, h1, rfl⟩
      exact ⟨by rw [List.length_map, List.length_range]; exact lim_of (by simp at h1; omega), hS2, i, rfl⟩
  obtain ⟨v, S2, e, hS2, i, rfl⟩ := fin.get
  refine w_cons (w_ret (e_bi1 e rfl (bi_all _ _)) ?_)
  show Fl.rt (D.bl _) = _
  rw [List.all_eq_true.mpr fun _ _ => rfl]
end K95
end

section
set_option autoImplicit false
set_option linter.all false
set_option maxRecDepth 100000
set_option maxHeartbeats 0
namespace K95
open PySem PySem.Spec PyProof.Rows L2 BP
def top (i : Nat) : Stmt := PySem.Challenge.pw_beatplaces_k95_whole_least_tables.main.body.getD i (.Pass ⟨0, 0, 0, 0⟩)
def clsB : Stmt → List Stmt
  | .ClassDef _ _ _ b _ _ _ _ _ _ _ => b
  | _ => []
def d_is_integer : He.DefD := ⟨("is_integer", none), "is_integer", "is_integer", defArgs (top 1), defBody (top 1), defScope (top 1), [], []⟩
def d_is_within : He.DefD := ⟨("is_within", none), "is_within", "is_within", defArgs (top 2), defBody (top 2), defScope (top 2), [], []⟩
def d_is_tuple : He.DefD := ⟨("is_tuple", none), "is_tuple", "is_tuple", defArgs (top 3), defBody (top 3), defScope (top 3), [], []⟩
def d_is_marks : He.DefD := ⟨("is_marks", none), "is_marks", "is_marks", defArgs (top 9), defBody (top 9), defScope (top 9), [], []⟩
def d_check_marks : He.DefD := ⟨("check_marks", none), "check_marks", "check_marks", defArgs (top 10), defBody (top 10), defScope (top 10), [], []⟩
def d_marks_of : He.DefD := ⟨("marks_of", none), "marks_of", "marks_of", defArgs (top 11), defBody (top 11), defScope (top 11), [], []⟩
def d_things_of : He.DefD := ⟨("things_of", none), "things_of", "things_of", defArgs (top 12), defBody (top 12), defScope (top 12), [], []⟩
def d_pairs_of : He.DefD := ⟨("pairs_of", none), "pairs_of", "pairs_of", defArgs (top 13), defBody (top 13), defScope (top 13), [], []⟩
def d_full_pairs : He.DefD := ⟨("full_pairs", none), "full_pairs", "full_pairs", defArgs (top 14), defBody (top 14), defScope (top 14), [], []⟩
def d_turned : He.DefD := ⟨("turned", none), "turned", "turned", defArgs (top 15), defBody (top 15), defScope (top 15), [], []⟩
def d_least_tables : He.DefD := ⟨("least_tables", none), "least_tables", "least_tables", defArgs (top 16), defBody (top 16), defScope (top 16), [], []⟩
def d_kept_rows : He.DefD := ⟨("kept_rows", none), "kept_rows", "kept_rows", defArgs (top 17), defBody (top 17), defScope (top 17), [], []⟩
def d__law_hand : He.DefD := ⟨("_law_hand", none), "_law_hand", "_law_hand", defArgs (top 19), defBody (top 19), defScope (top 19), [], []⟩
def d__law_draw : He.DefD := ⟨("_law_draw", none), "_law_draw", "_law_draw", defArgs (top 20), defBody (top 20), defScope (top 20), [], []⟩
def d__law_some : He.DefD := ⟨("_law_some", none), "_law_some", "_law_some", defArgs (top 21), defBody (top 21), defScope (top 21), [], []⟩
def d__law_is : He.DefD := ⟨("_law_is", none), "_law_is", "_law_is", defArgs (top 22), defBody (top 22), defScope (top 22), [], []⟩
def d__law_table : He.DefD := ⟨("_law_table", none), "_law_table", "_law_table", defArgs (top 23), defBody (top 23), defScope (top 23), [], []⟩
def d__law_turned : He.DefD := ⟨("_law_turned", none), "_law_turned", "_law_turned", defArgs (top 24), defBody (top 24), defScope (top 24), [], []⟩
def d__law_shared : He.DefD := ⟨("_law_shared", none), "_law_shared", "_law_shared", defArgs (top 25), defBody (top 25), defScope (top 25), [], []⟩
def d__law_pairs : He.DefD := ⟨("_law_pairs", none), "_law_pairs", "_law_pairs", defArgs (top 26), defBody (top 26), defScope (top 26), [], []⟩
def d__law_lots : He.DefD := ⟨("_law_lots", none), "_law_lots", "_law_lots", defArgs (top 27), defBody (top 27), defScope (top 27), [], []⟩
def d__law_kept : He.DefD := ⟨("_law_kept", none), "_law_kept", "_law_kept", defArgs (top 28), defBody (top 28), defScope (top 28), [], []⟩
def d__law_least : He.DefD := ⟨("_law_least", none), "_law_least", "_law_least", defArgs (top 29), defBody (top 29), defScope (top 29), [], []⟩
def d__law_are_pairs_right : He.DefD := ⟨("_law_are_pairs_right", none), "_law_are_pairs_right", "_law_are_pairs_right", defArgs (top 30), defBody (top 30), defScope (top 30), [], []⟩
def d__law_cut : He.DefD := ⟨("_law_cut", none), "_law_cut", "_law_cut", defArgs (top 31), defBody (top 31), defScope (top 31), [], []⟩
def d__law_is_right : He.DefD := ⟨("_law_is_right", none), "_law_is_right", "_law_is_right", defArgs (top 32), defBody (top 32), defScope (top 32), [], []⟩
def d__law_is_no_table : He.DefD := ⟨("_law_is_no_table", none), "_law_is_no_table", "_law_is_no_table", defArgs (top 33), defBody (top 33), defScope (top 33), [], []⟩
def d_law : He.DefD := ⟨("law", none), "law", "law", defArgs (top 34), defBody (top 34), defScope (top 34), [], []⟩
def gl : List (Str × GV) := ([("is_integer", .fn 0), ("is_within", .fn 1), ("is_tuple", .fn 2), ("is_marks", .fn 3), ("check_marks", .fn 4), ("marks_of", .fn 5), ("things_of", .fn 6), ("pairs_of", .fn 7), ("full_pairs", .fn 8), ("turned", .fn 9), ("least_tables", .fn 10), ("kept_rows", .fn 11), ("_law_hand", .fn 12), ("_law_draw", .fn 13), ("_law_some", .fn 14), ("_law_is", .fn 15), ("_law_table", .fn 16), ("_law_turned", .fn 17), ("_law_shared", .fn 18), ("_law_pairs", .fn 19), ("_law_lots", .fn 20), ("_law_kept", .fn 21), ("_law_least", .fn 22), ("_law_are_pairs_right", .fn 23), ("_law_cut", .fn 24), ("_law_is_right", .fn 25), ("_law_is_no_table", .fn 26), ("law", .fn 27), ("NoTable", .exc 0), ("MOST_THINGS", .con (.int 10))] : List (Str × GV)) ++ ([("ValueError", .blt), ("abs", .blt), ("all", .blt), ("bool", .blt), ("enumerate", .blt), ("int", .blt), ("isinstance", .blt), ("len", .blt), ("list", .blt), ("min", .blt), ("range", .blt), ("sorted", .blt), ("str", .blt), ("tuple", .blt), ("zip", .blt)] : List (Str × GV))
def src : Src := ⟨([(f_is_integer, d_is_integer), (f_is_within, d_is_within), (f_is_tuple, d_is_tuple), (f_is_marks, d_is_marks), (f_check_marks, d_check_marks), (f_marks_of, d_marks_of), (f_things_of, d_things_of), (f_pairs_of, d_pairs_of), (f_full_pairs, d_full_pairs), (f_turned, d_turned), (f_least_tables, d_least_tables), (f_kept_rows, d_kept_rows), (f__law_hand, d__law_hand), (f__law_draw, d__law_draw), (f__law_some, d__law_some), (f__law_is, d__law_is), (f__law_table, d__law_table), (f__law_turned, d__law_turned), (f__law_shared, d__law_shared), (f__law_pairs, d__law_pairs), (f__law_lots, d__law_lots), (f__law_kept, d__law_kept), (f__law_least, d__law_least), (f__law_are_pairs_right, d__law_are_pairs_right), (f__law_cut, d__law_cut), (f__law_is_right, d__law_is_right), (f__law_is_no_table, d__law_is_no_table), (f_law, d_law)] : List (Fn × He.DefD)), ([] : List (Cl × Str × He.DefD)), gl, ([0, 0, 0, 0, 0, 0, 0, 0, 0, 0, 0, 0, 1, 0, 0, 0, 0, 0, 0, 0, 0, 0, 0, 0, 0, 0, 0, 0] : List Nat), (["NoTable"] : List Str)⟩
theorem glB : src.glB = true := by decide +kernel
theorem clB : src.clB = true := by decide +kernel
theorem inB : src.inB = true := by decide +kernel
theorem k_is_integer : fnB gl src.fl src.fd 0 f_is_integer d_is_integer = true := by decide +kernel
theorem b_is_integer : BindP d_is_integer (f_is_integer.N.take f_is_integer.np) := fun _ _ _ _ _ _ us hl => match us, hl with | [_], _ => rfl
theorem k_is_within : fnB gl src.fl src.fd 0 f_is_within d_is_within = true := by decide +kernel
theorem b_is_within : BindP d_is_within (f_is_within.N.take f_is_within.np) := fun _ _ _ _ _ _ us hl => match us, hl with | [_, _, _], _ => rfl
theorem k_is_tuple : fnB gl src.fl src.fd 0 f_is_tuple d_is_tuple = true := by decide +kernel
theorem b_is_tuple : BindP d_is_tuple (f_is_tuple.N.take f_is_tuple.np) := fun _ _ _ _ _ _ us hl => match us, hl with | [_, _, _], _ => rfl
theorem k_is_marks : fnB gl src.fl src.fd 0 f_is_marks d_is_marks = true := by decide +kernel
theorem b_is_marks : BindP d_is_marks (f_is_marks.N.take f_is_marks.np) := fun _ _ _ _ _ _ us hl => match us, hl with | [_], _ => rfl
theorem k_check_marks : fnB gl src.fl src.fd 0 f_check_marks d_check_marks = true := by decide +kernel
theorem b_check_marks : BindP d_check_marks (f_check_marks.N.take f_check_marks.np) := fun _ _ _ _ _ _ us hl => match us, hl with | [_], _ => rfl
theorem k_marks_of : fnB gl src.fl src.fd 0 f_marks_of d_marks_of = true := by decide +kernel
theorem b_marks_of : BindP d_marks_of (f_marks_of.N.take f_marks_of.np) := fun _ _ _ _ _ _ us hl => match us, hl with | [_, _], _ => rfl
theorem k_things_of : fnB gl src.fl src.fd 0 f_things_of d_things_of = true := by decide +kernel
theorem b_things_of : BindP d_things_of (f_things_of.N.take f_things_of.np) := fun _ _ _ _ _ _ us hl => match us, hl with | [_, _], _ => rfl
theorem k_pairs_of : fnB gl src.fl src.fd 0 f_pairs_of d_pairs_of = true := by decide +kernel
theorem b_pairs_of : BindP d_pairs_of (f_pairs_of.N.take f_pairs_of.np) := fun _ _ _ _ _ _ us hl => match us, hl with | [_], _ => rfl
theorem k_full_pairs : fnB gl src.fl src.fd 0 f_full_pairs d_full_pairs = true := by decide +kernel
theorem b_full_pairs : BindP d_full_pairs (f_full_pairs.N.take f_full_pairs.np) := fun _ _ _ _ _ _ us hl => match us, hl with | [_], _ => rfl
theorem k_turned : fnB gl src.fl src.fd 0 f_turned d_turned = true := by decide +kernel
theorem b_turned : BindP d_turned (f_turned.N.take f_turned.np) := fun _ _ _ _ _ _ us hl => match us, hl with | [_], _ => rfl
theorem k_least_tables : fnB gl src.fl src.fd 0 f_least_tables d_least_tables = true := by decide +kernel
theorem b_least_tables : BindP d_least_tables (f_least_tables.N.take f_least_tables.np) := fun _ _ _ _ _ _ us hl => match us, hl with | [_], _ => rfl
theorem k_kept_rows : fnB gl src.fl src.fd 0 f_kept_rows d_kept_rows = true := by decide +kernel
theorem b_kept_rows : BindP d_kept_rows (f_kept_rows.N.take f_kept_rows.np) := fun _ _ _ _ _ _ us hl => match us, hl with | [_], _ => rfl
theorem k__law_hand : fnB gl src.fl src.fd 1 f__law_hand d__law_hand = true := by decide +kernel
theorem b__law_hand : BindP d__law_hand (f__law_hand.N.take f__law_hand.np) := fun _ _ _ _ _ _ us hl => match us, hl with | [_], _ => rfl
theorem k__law_draw : fnB gl src.fl src.fd 0 f__law_draw d__law_draw = true := by decide +kernel
theorem b__law_draw : BindP d__law_draw (f__law_draw.N.take f__law_draw.np) := fun _ _ _ _ _ _ us hl => match us, hl with | [_, _], _ => rfl
theorem k__law_some : fnB gl src.fl src.fd 0 f__law_some d__law_some = true := by decide +kernel
theorem b__law_some : BindP d__law_some (f__law_some.N.take f__law_some.np) := fun _ _ _ _ _ _ us hl => match us, hl with | [_, _], _ => rfl
theorem k__law_is : fnB gl src.fl src.fd 0 f__law_is d__law_is = true := by decide +kernel
theorem b__law_is : BindP d__law_is (f__law_is.N.take f__law_is.np) := fun _ _ _ _ _ _ us hl => match us, hl with | [_, _], _ => rfl
theorem k__law_table : fnB gl src.fl src.fd 0 f__law_table d__law_table = true := by decide +kernel
theorem b__law_table : BindP d__law_table (f__law_table.N.take f__law_table.np) := fun _ _ _ _ _ _ us hl => match us, hl with | [_, _], _ => rfl
theorem k__law_turned : fnB gl src.fl src.fd 0 f__law_turned d__law_turned = true := by decide +kernel
theorem b__law_turned : BindP d__law_turned (f__law_turned.N.take f__law_turned.np) := fun _ _ _ _ _ _ us hl => match us, hl with | [_], _ => rfl
theorem k__law_shared : fnB gl src.fl src.fd 0 f__law_shared d__law_shared = true := by decide +kernel
theorem b__law_shared : BindP d__law_shared (f__law_shared.N.take f__law_shared.np) := fun _ _ _ _ _ _ us hl => match us, hl with | [_, _], _ => rfl
theorem k__law_pairs : fnB gl src.fl src.fd 0 f__law_pairs d__law_pairs = true := by decide +kernel
theorem b__law_pairs : BindP d__law_pairs (f__law_pairs.N.take f__law_pairs.np) := fun _ _ _ _ _ _ us hl => match us, hl with | [_], _ => rfl
theorem k__law_lots : fnB gl src.fl src.fd 0 f__law_lots d__law_lots = true := by decide +kernel
theorem b__law_lots : BindP d__law_lots (f__law_lots.N.take f__law_lots.np) := fun _ _ _ _ _ _ us hl => match us, hl with | [_], _ => rfl
theorem k__law_kept : fnB gl src.fl src.fd 0 f__law_kept d__law_kept = true := by decide +kernel
theorem b__law_kept : BindP d__law_kept (f__law_kept.N.take f__law_kept.np) := fun _ _ _ _ _ _ us hl => match us, hl with | [_], _ => rfl
theorem k__law_least : fnB gl src.fl src.fd 0 f__law_least d__law_least = true := by decide +kernel
theorem b__law_least : BindP d__law_least (f__law_least.N.take f__law_least.np) := fun _ _ _ _ _ _ us hl => match us, hl with | [_], _ => rfl
theorem k__law_are_pairs_right : fnB gl src.fl src.fd 0 f__law_are_pairs_right d__law_are_pairs_right = true := by decide +kernel
theorem b__law_are_pairs_right : BindP d__law_are_pairs_right (f__law_are_pairs_right.N.take f__law_are_pairs_right.np) := fun _ _ _ _ _ _ us hl => match us, hl with | [_, _], _ => rfl
theorem k__law_cut : fnB gl src.fl src.fd 0 f__law_cut d__law_cut = true := by decide +kernel
theorem b__law_cut : BindP d__law_cut (f__law_cut.N.take f__law_cut.np) := fun _ _ _ _ _ _ us hl => match us, hl with | [_, _], _ => rfl
theorem k__law_is_right : fnB gl src.fl src.fd 0 f__law_is_right d__law_is_right = true := by decide +kernel
theorem b__law_is_right : BindP d__law_is_right (f__law_is_right.N.take f__law_is_right.np) := fun _ _ _ _ _ _ us hl => match us, hl with | [_, _], _ => rfl
theorem k__law_is_no_table : fnB gl src.fl src.fd 0 f__law_is_no_table d__law_is_no_table = true := by decide +kernel
theorem b__law_is_no_table : BindP d__law_is_no_table (f__law_is_no_table.N.take f__law_is_no_table.np) := fun _ _ _ _ _ _ us hl => match us, hl with | [_], _ => rfl
theorem k_law : fnB gl src.fl src.fd 0 f_law d_law = true := by decide +kernel
theorem b_law : BindP d_law (f_law.N.take f_law.np) := fun _ _ _ _ _ _ us hl => match us, hl with | [_], _ => rfl
theorem bodB : bodiesB src.gl src.fl src.fd 0 src.fns = true := by
  have and_t : ∀ {a b : Bool}, a = true → b = true → (a && b) = true := fun h1 h2 => by rw [h1, h2]; rfl
  exact and_t k_is_integer (and_t k_is_within (and_t k_is_tuple (and_t k_is_marks (and_t k_check_marks (and_t k_marks_of (and_t k_things_of (and_t k_pairs_of (and_t k_full_pairs (and_t k_turned (and_t k_least_tables (and_t k_kept_rows (and_t k__law_hand (and_t k__law_draw (and_t k__law_some (and_t k__law_is (and_t k__law_table (and_t k__law_turned (and_t k__law_shared (and_t k__law_pairs (and_t k__law_lots (and_t k__law_kept (and_t k__law_least (and_t k__law_are_pairs_right (and_t k__law_cut (and_t k__law_is_right (and_t k__law_is_no_table (and_t k_law (rfl))))))))))))))))))))))))))))
theorem bin : BindAll src.fns := ⟨b_is_integer, b_is_within, b_is_tuple, b_is_marks, b_check_marks, b_marks_of, b_things_of, b_pairs_of, b_full_pairs, b_turned, b_least_tables, b_kept_rows, b__law_hand, b__law_draw, b__law_some, b__law_is, b__law_table, b__law_turned, b__law_shared, b__law_pairs, b__law_lots, b__law_kept, b__law_least, b__law_are_pairs_right, b__law_cut, b__law_is_right, b__law_is_no_table, b_law, trivial⟩
theorem binC : BindAll (src.cls.map fun c => (c.1.init, c.2.2)) := trivial
theorem tab_eq : src.tab = tab := rfl
abbrev R : PySem.W.OpenRow := PySem.W.OpenLaw.row PySem.Challenge.rw_beatplaces_k95_whole_least_tables
def ex (K : PySem.W.Frag) : Bool := src.exB PySem.Challenge.rw_beatplaces_k95_whole_least_tables.prog.main.file K
def ob (s : PySem.W.SharedT) : He.AlD × Bool := obsB 4 src.fa src.defs ex (HandSHeadRun.getT s)
theorem ob_eq (s : PySem.W.SharedT) : ob s = (hookB 4 src.fa src.defs ex).obs s.abs := obsB_eq (HandSHeadRun.getT_eq s)
def names : List Str := (["__name__", "is_integer", "is_within", "is_tuple", "PlaceError", "NoTable", "MOST_THINGS", "is_marks", "check_marks", "marks_of", "things_of", "pairs_of", "full_pairs", "turned", "least_tables", "kept_rows", "_law_hand", "_law_draw", "_law_some", "_law_is", "_law_table", "_law_turned", "_law_shared", "_law_pairs", "_law_lots", "_law_kept", "_law_least", "_law_are_pairs_right", "_law_cut", "_law_is_right"] : List Str) ++ (["_law_is_no_table"] : List Str)
theorem run (w : World) : HandSHeadRun.RunEq R (PySem.W.view R.prog [34]) (hookB 4 src.fa src.defs ex) ob 8000 names w := by
  intro os
  kernel_rfl
end K95
end

set_option maxRecDepth 100000
set_option maxHeartbeats 0
open PySem PySem.W PySem.Calls PyProof.Rows
theorem PySem.Challenge.cw_beatplaces_k95_whole_least_tables_holds : PySem.Challenge.rw_beatplaces_k95_whole_least_tables.Holds := by
  w_on; o_law
  refine HandSHeadRun.head_any (r := OpenLaw.row PySem.Challenge.rw_beatplaces_k95_whole_least_tables) (q := view (OpenLaw.row PySem.Challenge.rw_beatplaces_k95_whole_least_tables).prog [34]) (H := BP.hookB 4 K95.src.fa K95.src.defs K95.ex) (ob := K95.ob) (M := 8000) (loose := K95.names) (d := HandSHeadRun.topDef (OpenLaw.row PySem.Challenge.rw_beatplaces_k95_whole_least_tables).prog 34) (kwd := []) K95.ob_eq
    (by kernel_rfl) (fun s => by kernel_rfl) K95.run (by kernel_rfl) (by kernel_rfl) (by kernel_rfl) (by rfl) (by first | assumption | decide +kernel) (by decide +kernel) ⟨rfl, rfl, rfl, rfl, rfl, by decide +kernel⟩ ?hw ?hc
  case hw => w_witness2
  case hc =>
    refine BP.walk_ofX (l := PySem.Challenge.rw_beatplaces_k95_whole_least_tables) (n := 63) (x := "script") K95.src.tab K95.src.gl K95.src.fl K95.src.fd 27 29 K95.f_law rfl rfl rfl (by decide) (by kernel_rfl) ⟨rfl, by decide, by decide⟩ (by rw [K95.tab_eq]; exact K95.law_run) ?F
    intro w mg fa h Y G hmg0
    obtain ⟨K, KX, c, cx⟩ := Y
    have hmg : mg ("law" : PySem.Str) = some (.ref fa) := by
      have e : (HandSHeadRun.topDef (OpenLaw.row PySem.Challenge.rw_beatplaces_k95_whole_least_tables).prog 34).name = ("law" : PySem.Str) := by kernel_rfl
      rw [← e]
      exact hmg0
    have t := K95.src.top (P := (PySem.Challenge.rw_beatplaces_k95_whole_least_tables).prog) (w := w) KX G c K95.glB K95.clB K95.bodB K95.inB K95.bin K95.binC cx (by decide +kernel)
    refine ⟨K95.src.gx _ w K, rfl, rfl, ?_, KX, t, fun xx qq pa bd sc fD FD s u => ?_⟩
    · have q := (t.fnm ("law" : PySem.Str) 27 (by rfl)).1
      rw [hmg] at q
      cases q; rfl
    · exact BP.bind_law K95.src c (i := 27) rfl K95.b_law K95.bodB FD s u

