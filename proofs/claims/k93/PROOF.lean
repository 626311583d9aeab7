import PyProof.Rows.All
import HandS.ForMost
import HandS.ForExc
import HandS.ExcInit
import KE.KExcSuper
import HandS.ExcIs
import HandS.Defaults
import HandS.HeadHook4
import HandS.HeadWalk
import HandS.EndTab
import HandS.Property
import Open.Row
import PySem.Challenge.RW_bynamealone_k93_facts_texts_spoilt
import Wide.All
import OpenK.AllK
import Wide.FinOn
import KE.KStateDown
import HandS.Head0
import HandS.Head1
import HandS.Head2
import HandS.Lambda
import HandS.IsInst
import HandS.Codes
import PyProof.ReprRoads
import KE.IntTextText
import HandS.Strs
import HandS.Deep
import HandS.RaiseMore
import PyProof.ReprLen
import PyProof.StrLawsRepr
import HandS.SetFor
import HandS.More
import KE.GoesRaise
import KE.KAsSuite
import HandS.Star
import HandS.CallLocal
import HandS.Style
import KE.KRevSl
import KE.SortData
import PyProof.Rows.SortStr
import HandS.Zip
import KE.KSuperObj
import HandS.ExcCtx
import HandS.RaiseFrom
import HandS.SuiteRaise
import HandS.TupAny
import PyProof.AutoSeq1
import PyProof.EqKinds
import PyProof.P3Eq
section
set_option Elab.async false
set_option linter.all false
set_option maxRecDepth 100000
set_option maxHeartbeats 4000000
/-! raise X(), X an own class over ValueError whose __init__ is «super().__init__()» alone. -/
namespace XR
open PySem PySem.Spec PyProof.Rows L2
/-- what the written part says of such a class; file: the text's own file name -/
structure NoArg (K : PySem.W.Frag) (mg : Str → Option Value) (file : Str) (C fI : Addr) (name qual : Str) (params : Arguments) (body : List Stmt) (scope : Scope) : Prop where
  ox : OexC K C
  iC : PySem.W.findIn K (.ref C) "__init__" = some (some (.ref fI))
  tI : PySem.W.typeIn K (.ref fI) = some (.type "function")
  lk : ∃ (oc kV doc pm ct : Value) (od an : Option Addr) (osl : Array (Option Value)) (cc cda : Addr) (ccl cl : Value) (cdd cld : Option Addr) (vs : Array Value) (tf : Tok) (ccs csl : Array (Option Value)),
    K.lookup fI = some ⟨oc, od, .func (PySem.W.fnX name qual params body scope [("__class__", cc)] .none kV doc pm an (.ref cda) ct), osl⟩ ∧ PySem.W.codeIn K (.ref cda) qual = true ∧
    K.lookup cda = some ⟨ccl, cdd, .fields vs, ccs⟩ ∧ vs[2]? = some (.str file tf) ∧ K.lookup cc = some ⟨cl, cld, .cell (some (.ref C)), csl⟩
  sup : PySem.W.ks_superIn K C C "__init__" = some (some (.builtin "ValueError.__init__"))
  sub : PySem.W.subIn K (.ref C) (.type "ValueError") = some true
  mro : PySem.W.mroIn K C (.ref C) = some true
  any : PySem.W.nsIn K cStatics "thirdparty.any" = some none
  gsup : mg "super" = none
/-- the def's own scope: self, super, __class__ -/
structure NoScope (scope : Scope) : Prop where
  kind : scope.kind = .function
  co : scope.isCoroutine = false
  gen : scope.isGenerator = false
  self : scope.names.lookup ("self" : Str) = some .local
  sup : scope.names.lookup ("super" : Str) = some .globalImplicit
  cls : scope.names.lookup ("__class__" : Str) = some .free
  cell : ∀ x ∈ scope.names, x.2 ≠ .cell
abbrev supCall (p0 p1 p2 p3 : Pos) : Expr := .Call (.Attribute (.Call (.Name "super" p0) [] [] p1) "__init__" p2) [] [] p3
abbrev supBody (p0 p1 p2 p3 p4 : Pos) : List Stmt := [.Expr (supCall p0 p1 p2 p3) p4]
/-- what hangs on the written places: each by rfl -/
structure NoPlaces (qual : Str) (scope : Scope) (p0 p1 p2 p3 p4 : Pos) (pl : Env → Sem Bool) : Prop where
  hi : ∀ (L f cda cc : Addr), interactive (PySem.W.envX qual scope L f (.ref cda) [("__class__", cc)]) = false
  hs : ∀ (L f cda cc : Addr), swapsWith (supCall p0 p1 p2 p3) none p4.line (PySem.W.envX qual scope L f (.ref cda) [("__class__", cc)]) = pure false
  he : ∀ (L f cda cc : Addr), eval (supCall p0 p1 p2 p3) (PySem.W.envX qual scope L f (.ref cda) [("__class__", cc)]) = (do
      let ov ← attributeBase (.Call (.Name "super" p0) [] [] p1) "__init__" (PySem.W.envX qual scope L f (.ref cda) [("__class__", cc)]) (eval (.Call (.Name "super" p0) [] [] p1) (PySem.W.envX qual scope L f (.ref cda) [("__class__", cc)]))
      standAt p2.atName
      let (f', first) ← holding [ov] (getMethod ov "__init__" (pl (PySem.W.envX qual scope L f (.ref cda) [("__class__", cc)])))
      callWith p3 f' first (backTo p3 (starEach [] (PySem.W.envX qual scope L f (.ref cda) [("__class__", cc)]))) [])
section
variable {pl : Env → Sem Bool} {prog : Program} {w : World} {A : Around} {K : PySem.W.Frag} {mg mb : Str → Option Value} {file name qual : Str} {params : Arguments} {scope : Scope} {C fI : Addr} {p0 p1 p2 p3 p4 : Pos}
/-- the body of __init__, walked -/
theorem init_runs {h : Heap} {g : Array GenState} {d : Drawn} {t : Nat} {os : OsState} {e t0 : Addr} {R : Result → Shared → Prop} (T : NoArg K mg file C fI name qual params (supBody p0 p1 p2 p3 p4) scope) (S : NoScope scope) (PL : NoPlaces qual scope p0 p1 p2 p3 p4 pl) (X : K.In h)
    (hb : h.Ns builtinsNs mb) (hbb : ∀ x : Str, x ≠ "__name__" → mb x = bootBuiltins x) (hg : h.Ns mainGlobals mg) (hl : h.NoLimit) (hd : A.depth < recursionLimit)
    (hp : (params.posonlyargs ++ params.args).head? = some ⟨"self", none, p4⟩ ∨ ∃ ar, (params.posonlyargs ++ params.args).head? = some ar ∧ ar.arg = "self")
    (hbind : ∀ (kV doc pm cdv ct : Value) (an : Option Addr) (cl : List (Str × Addr)) (u : Value), bindArgs (PySem.W.fnX name qual params (supBody p0 p1 p2 p3 p4) scope cl .none kV doc pm an cdv ct) ⟨[u], []⟩ = pure [(("self" : Str), u)])
    (hfile : (prog.main.file == file) = true) (htop : (prog.main.scope.names.lookup ("super" : Str)).isSome = false)
    (he : h.get? e = some (PySem.HandSPX.excO C t0))
    (hq : ∀ h' t1 tk, (∀ b o, b ≠ e → h.get? b = some o → h'.get? b = some o) → h'.get? e = some (PySem.HandSPX.excO C t1) → R (.ok (.ret .none)) ⟨h', g, d, tk, os⟩) :
    codeAny (model prog w) A (.call (.ref fI) ⟨[.ref e], []⟩) R ⟨h, g, d, t, os⟩ := by
  obtain ⟨ar, hp, hars⟩ : ∃ ar, (params.posonlyargs ++ params.args).head? = some ar ∧ ar.arg = "self" := by
    rcases hp with hp | hp
    · exact ⟨_, hp, rfl⟩
    · exact hp
  obtain ⟨oc, kV, doc, pm, ct, od, an, osl, cc, cda, ccl, cl, cdd, cld, vs, tf, ccs, csl, lk, hcd, lcd, hvs, lcc⟩ := T.lk
  obtain ⟨nm, q, N, bs, bm, sn, sub, ab, col, dd, k0, k1, k2, k3, k5, hC, hbm⟩ := T.ox.cls
  refine PySem.ks_codeAny_call_defAt (fd := PySem.W.fnX name qual params (supBody p0 p1 p2 p3 p4) scope [("__class__", cc)] .none kV doc pm an (.ref cda) ct) (body := supBody p0 p1 p2 p3 p4) (binds := [(("self" : Str), Value.ref e)]) hd (X _ _ lk) rfl hl (PySem.W.codeRec_of X hcd) rfl (BindsTo.of_eq (hbind _ _ _ _ _ _ _ _)) S.cell (fun x hx => ?_) (fun h₁ hns kp => ?_) S.co S.gen S.kind
  · have ex : x = (("self" : Str), Value.ref e) := by simpa using hx
    subst ex
    exact S.self
  · have X1 : K.In h₁ := X.keeps kp
    have hcl : PySem.W.clsIn K C = some { name := nm, bases := bs, mro := .ref C :: bm, ns := N, qualname := q, hasDict := true, slotNames := sn, subclasses := sub, abstract := ab, collection := col, hasDel := false } := by unfold PySem.W.clsIn; rw [hC] <;> rfl
    have he1 := kp _ _ he
    refine PySem.ks_wpAt_execs_cons (PySem.ks_wpAt_Expr_any (PySem.ks_wpAt_MethodCall ?_ (PL.he _ _ _ _)) (PL.hi _ _ _ _) (PL.hs _ _ _ _))
    refine PySem.ks_wpAt_super_base (of := ⟨oc, od, .func _, osl⟩) (oc := ⟨ccl, cdd, .fields vs, ccs⟩) (ar := ar) S.sup S.cls (by decide +kernel) rfl (X1 _ _ lk) rfl hp rfl (X1 _ _ lcd) rfl hvs hfile htop ?_
    have hself : (fun y => ([(("self" : Str), Value.ref e)] : List (Str × Value)).reverse.lookup y) ("self" : Str) = some (Value.ref e) := by rfl
    refine PySem.W.ks_loadName_global S.kind S.sup (PySem.Calls.loadGlobal_builtin (hg.keeps kp) T.gsup (hb.keeps kp) ((hbb _ (by decide +kernel)).trans (by decide +kernel : bootBuiltins "super" = some (.type "super"))) ⟨rfl, ?_⟩)
    refine PySem.wpAny_loadName_free S.kind S.cls rfl ⟨_, X1 _ _ lcc, rfl⟩ ?_
    rw [hars]
    refine PySem.wpAny_loadName_local S.kind S.self hns hself ?_
    refine PySem.ks_wpAny_isType_cls (X1 _ _ hC) rfl ⟨rfl, ?_⟩
    refine PySem.ks_wpAny_call_super (X1 _ _ hC) rfl he1 rfl (fun c z => by cases z) (PySem.W.looks_mroIn X1 T.mro) (fun h2 e2 k2 => ?_)
    have X2 : K.In h2 := X1.keeps k2
    have he2 := k2 _ _ he1
    have hsup : PySem.W.alongIn K "__init__" (((Value.ref C :: bm).dropWhile (· != .ref C)).drop 1) = some (some (.builtin "ValueError.__init__")) := by
      have z := T.sup
      unfold PySem.W.ks_superIn at z
      rw [hcl] at z
      exact z
    have I2 : PySem.W.InstAt h2 e (PySem.HandSPX.excO C t0) C none := ⟨he2, rfl, rfl, trivial⟩
    have hI : PySem.W.Looks (model prog w) h2 (isInstance (.ref e) (.type "ValueError")) true := I2.type.andThen (PySem.W.looks_subIn X2 T.sub)
    refine PySem.W.kxs_getMethod PySem.W.kxs_ValueError e2 (PySem.W.looks_opaque X2 T.any) (l₀ := .ref C :: bm) (fun A Q E s k q => wpAny_bind ((PySem.W.looks_clsIn X2 hcl) A _ E s k (wpAny_pure q))) rfl X2 hsup hI (PySem.W.ks_ne X2 I2 hcl) (by decide +kernel) ?_
    have hw : (h2.push (PySem.W.kxs_mw "ValueError.__init__" e)).get? h2.objs.size = some (PySem.W.kxs_mw "ValueError.__init__" e) := Heap.get?_push_at rfl rfl
    have k3 : ∀ b o, h2.get? b = some o → (h2.push (PySem.W.kxs_mw "ValueError.__init__" e)).get? b = some o := fun b o z => Heap.get?_push_of_some _ z
    have he3 := k3 _ _ he2
    have X3 := X2.keeps k3
    show wpAny _ _ (callWith p3 (.ref h2.objs.size) [] (backTo p3 (starEach [] _)) []) _ _ _
    refine PySem.W.kxs_callWith (i := "ValueError.__init__") (x := e) rfl (PyProof.Rows.evalArgs_empty ⟨hw, ?_⟩)
    show wpAny _ _ (call (.ref h2.objs.size) []) _ _ _
    refine wpAny_call (codeAny_of_tree ?_)
    show wpAny _ _ (callAny (.ref h2.objs.size) ⟨[], []⟩) _ _ _
    simp only [callAny]
    refine wpAny_bind (wpAny_load hw ?_)
    simp only [PySem.W.kxs_mw, show (Value.type "method-wrapper" == Value.type "method" || Value.type "method-wrapper" == Value.type "builtin_function_or_method" || Value.type "method-wrapper" == Value.type "method-wrapper") = true by decide, if_true]
    refine PySem.W.KFB.if_so (by decide) ?_
    refine wpAny_bind (PySem.W.check_bound_init F.excBase_ValueError.toExcCallFacts (X3 _ _ hC) he3 rfl ?_)
    refine wpAny_bind (wpAny_pure (wpAny_pure ?_))
    refine ⟨plainId_quiet F.excBase_ValueError.init.plain _, codeAny_builtin F.excBase_ValueError.initEntry ?_⟩
    refine PySem.W.exc_init_tree (cls := .ref C) (t0 := t0) (dv := none) (c2 := .none) (c3 := .none) (b4 := .bool false) he3 (Nat.zero_le _) fun h' k4 e4 _ => ?_
    refine wpAt_of_wpAny (wpAny_execs_nil ?_)
    exact hq h' _ _ (fun b o hne z => k4 b o hne (k3 _ _ (k2 _ _ (kp _ _ z)))) e4
end
/-- raise X(): the exception as it is made -/
def tMkN (C : Addr) : L2.St → Hp → XK → Prop := fun _ H Q => Q (.ref C) none H
theorem pmk_noarg {X : Cx} {pl : Env → Sem Bool} {x file name qual : Str} {params : Arguments} {scope : Scope} {C fI : Addr} {p0 p1 p2 p3 p4 p pos : Pos} (T : NoArg X.K X.mg file C fI name qual params (supBody p0 p1 p2 p3 p4) scope) (S : NoScope scope) (PL : NoPlaces qual scope p0 p1 p2 p3 p4 pl)
    (hp : ∃ ar, (params.posonlyargs ++ params.args).head? = some ar ∧ ar.arg = "self")
    (hbind : ∀ (kV doc pm cdv ct : Value) (an : Option Addr) (cl : List (Str × Addr)) (u : Value), bindArgs (PySem.W.fnX name qual params (supBody p0 p1 p2 p3 p4) scope cl .none kV doc pm an cdv ct) ⟨[u], []⟩ = pure [(("self" : Str), u)])
    (hfile : (X.prog.main.file == file) = true) (htop : (X.prog.main.scope.names.lookup ("super" : Str)).isSome = false) (hr : Room 1 X.A) (hg : Gl X x) (hm : X.mg x = some (.ref C))
    (hdb : (x == ("__debug__" : Str)) = false := by decide) : PMk X (.Call (.Name x p) [] [] pos) (tMkN C) := by
  intro pins s σ H Q I hq
  obtain ⟨nm, q, N, bs, bm, sn, sub, ab, col, dd, k0, k1, k2, k3, k5, hC, hbm⟩ := T.ox.cls
  refine wpAny_Call_Name_kw (ld_glob I hg hm ?_ hdb)
  refine PySem.W.callWith_K0 I.kIn T.ox.kC ?_
  show wpAny _ _ (call (.ref C) []) _ _ _
  obtain ⟨hp1, g, dr, tk, os⟩ := s
  have KX := I.kIn
  have hn : H (hp1.objs.size + 1) = none := I.hok.fresh (Nat.le_succ _)
  have kk : ∀ b o, hp1.get? b = some o → ((hp1.push (PySem.W.kdv_tup [])).push (PySem.HandSPX.excO C hp1.objs.size)).get? b = some o := fun b o e => Heap.get?_push_of_some _ (Heap.get?_push_of_some _ e)
  have hget : ((hp1.push (PySem.W.kdv_tup [])).push (PySem.HandSPX.excO C hp1.objs.size)).get? (hp1.objs.size + 1) = some (PySem.HandSPX.excO C hp1.objs.size) := by heap_get
  obtain ⟨mb, hb1, hb2⟩ := I.mod.blt
  have bk := I.bk
  have hdp : (X.A.under (.builtin "type.__call__" ⟨[.ref C], []⟩)).depth < recursionLimit := by
    have := hr.dp
    rw [make_depth]
    omega
  refine wpAny_call (PySem.HandSPX.call_own F.excBase_ValueError (fun Y => PySem.HandSPX.refsVE_contains Y bm hbm) (KX _ _ hC) (PySem.W.looks_findIn KX T.iC) (fun self => PySem.W.bind_fn KX self T.tI) (Nat.zero_le _) ?_)
  refine init_runs (w := X.w) (mb := mb) T S PL (KX.keeps kk) ((hb1.keeps bk).keeps kk) hb2 ((I.mod.glob.keeps bk).keeps kk) (I.nolimit.keeps kk) hdp (.inr hp) hbind hfile htop hget fun h' t1 tk' k he' => ?_
  refine ⟨rfl, hp1.objs.size + 1, _, _, ⟨hp1, g, dr, tk, os⟩, H, .ref C, none, rfl, I, fun b o z => k b o (fun e => ?_) (kk b o z), ?_, he', ⟨rfl, rfl⟩, rfl, rfl, hn, rfl, I.bare, raises_own T.ox.exC T.ox.tyC, hq⟩
  · have y : b < hp1.objs.size := Heap.lt_size (show hp1.get? b = some o from z)
    have e2 : b = hp1.objs.size + 1 := e
    rw [e2] at y
    exact Nat.not_succ_le_self _ (Nat.lt_of_lt_of_le (Nat.lt_succ_self _) (Nat.le_of_lt y))
  · exact Heap.get?_none_of_le (Nat.le_succ _)
end XR
end

section
set_option Elab.async false
set_option linter.all false
set_option maxRecDepth 100000
set_option maxHeartbeats 4000000
/-! The head's facts, with own exceptions whose __init__ is super().__init__(). -/
namespace HY
open PySem PySem.Spec PyProof.Rows L2 He
/-- an own exception: its class's name, its __init__'s parameters, body, scope -/
structure XD where
  cls : Str
  qual : Str
  params : Arguments
  body : List Stmt
  scope : Scope
abbrev FnY : Type := Option (Str × Str × Arguments × FuncBody × Scope × Addr × Addr × Value)
def iAd (K : PySem.W.Frag) (C : Str) : Addr := ma K (ga K C) "__init__"
def fnY (K : PySem.W.Frag) (C : Str) : FnY := match K.lookup (iAd K C) with
  | some ⟨_, _, .func fd, _⟩ => some (fd.name, fd.qualname, fd.params, fd.body, fd.scope, fd.globals, fd.builtins, fd.defaults)
  | _ => none
def XD.val (d : XD) : FnY := some ("__init__", d.qual, d.params, .stmts d.body, d.scope, mainGlobals, builtinsNs, .none)
def oexB (K : PySem.W.Frag) (C : Addr) : Bool := match K.lookup C with
  | some ⟨.type "type", _, .cls cd, sl⟩ => (match cd.mro, sl.toList with
    | .ref C' :: bm, [_, _, _, _, some (.builtin n), _] => decide (C' = C) && (decide (n = "ValueError.__new__") && (!cd.hasDel && (cd.hasDict && PySem.HandSPX.refsVE bm)))
    | _, _ => false)
  | _ => false
theorem oexB_ok {K : PySem.W.Frag} {C : Addr} (h : oexB K C = true) : ∃ nm q N bs bm sn sub ab col dd k0 k1 k2 k3 k5, K.lookup C = some (excClassObj nm q C N bs bm true sn sub ab col dd k0 k1 k2 k3 k5 "ValueError.__new__") ∧ PySem.HandSPX.refsVE bm = true := by
  unfold oexB at h
  split at h
  · rename_i dd cd sl ho
    split at h
    · rename_i C' bm k0 k1 k2 k3 n k5 hm hs
      obtain ⟨h1, h⟩ := ba h
      obtain ⟨h2, h⟩ := ba h
      obtain ⟨h3, h⟩ := ba h
      obtain ⟨h4, h5⟩ := ba h
      have e1 := of_decide_eq_true h1
      have e2 := of_decide_eq_true h2
      obtain ⟨nm, bs, mro, ns, qn, hd, sn, sub, ab, col, del⟩ := cd
      dsimp only at hm h3 h4
      have e3 : del = false := by cases del <;> first | rfl | cases h3
      subst hm e1 e2 e3 h4
      obtain ⟨l⟩ := sl
      have e4 : l = [k0, k1, k2, k3, some (.builtin "ValueError.__new__"), k5] := hs
      subst e4
      exact ⟨nm, qn, ns, bs, bm, sn, sub, ab, col, dd, k0, k1, k2, k3, k5, ho, h5⟩
    · cases h
  · cases h
def cellB (K : PySem.W.Frag) (cc C : Addr) : Bool := match K.lookup cc with
  | some ⟨_, _, .cell (some (.ref D)), _⟩ => decide (D = C)
  | _ => false
def fileB (K : PySem.W.Frag) (cd : Value) (file : Str) : Bool := match cd with
  | .ref c => (match K.lookup c with
    | some ⟨_, _, .fields vs, _⟩ => (match (vs[2]? : Option Value) with
      | some (.str f _) => decide (f = file)
      | _ => false)
    | _ => false)
  | _ => false
def iniB (K : PySem.W.Frag) (C : Str) (q file : Str) : Bool := match K.lookup (iAd K C) with
  | some ⟨_, _, .func fd, _⟩ => (match fd.closure with
    | [(n, cc)] => decide (n = "__class__") && (cellB K cc (ga K C) && (PySem.W.codeIn K fd.code q && fileB K fd.code file))
    | _ => false)
  | _ => false
theorem ini_ok {K : PySem.W.Frag} {d : XD} {file : Str} (e : fnY K d.cls = d.val) (h : iniB K d.cls d.qual file = true) :
    ∃ (oc kV doc pm ct : Value) (od an : Option Addr) (osl : Array (Option Value)) (cc cda : Addr) (ccl cl : Value) (cdd cld : Option Addr) (vs : Array Value) (tf : Tok) (ccs csl : Array (Option Value)),
    K.lookup (iAd K d.cls) = some ⟨oc, od, .func (PySem.W.fnX "__init__" d.qual d.params d.body d.scope [("__class__", cc)] .none kV doc pm an (.ref cda) ct), osl⟩ ∧ PySem.W.codeIn K (.ref cda) d.qual = true ∧
    K.lookup cda = some ⟨ccl, cdd, .fields vs, ccs⟩ ∧ vs[2]? = some (.str file tf) ∧ K.lookup cc = some ⟨cl, cld, .cell (some (.ref (ga K d.cls))), csl⟩ := by
  unfold fnY at e
  unfold iniB at h
  cases q : K.lookup (iAd K d.cls) with
  | none =>
    rw [q] at h
    cases h
  | some o =>
    obtain ⟨oc, od, dt, osl⟩ := o
    rw [q] at h e
    cases dt with
    | func fd =>
      obtain ⟨n1, n2, n3, n4, n5, n6, n7, n8, n9, n10, n11, n12, n13, n14, n15⟩ := fd
      have e2 : (some (n1, n2, n3, n4, n5, n6, n15, n8) : FnY) = some (("__init__" : Str), d.qual, d.params, FuncBody.stmts d.body, d.scope, mainGlobals, builtinsNs, Value.none) := e
      simp only [Option.some.injEq, Prod.mk.injEq] at e2
      obtain ⟨h1, h2, h3, h4, h5, h6, h7, h8⟩ := e2
      subst h1 h2 h3 h4 h5 h6 h7 h8
      have h' : (match (generalizing := false) n7 with
        | [(n, cc)] => decide (n = "__class__") && (cellB K cc (ga K d.cls) && (PySem.W.codeIn K n13 d.qual && fileB K n13 file))
        | _ => false) = true := h
      split at h'
      · rename_i n cc
        obtain ⟨g1, g⟩ := ba h'
        obtain ⟨g2, g⟩ := ba g
        obtain ⟨g3, g4⟩ := ba g
        have en := of_decide_eq_true g1
        subst en
        unfold cellB at g2
        split at g2
        · rename_i cl cld D csl hcc
          have eD := of_decide_eq_true g2
          subst eD
          clear g h' h e
          obtain ⟨c, rfl⟩ := codeIn_ref g3
          unfold fileB at g4
          dsimp only at g4
          split at g4
          · rename_i ccl cdd vs ccs hc
            split at g4
            · rename_i f tf hv
              have ef := of_decide_eq_true g4
              subst ef
              exact ⟨oc, _, _, _, _, od, _, osl, cc, c, ccl, cl, cdd, cld, vs, tf, ccs, csl, rfl, g3, hc, hv, hcc⟩
            · cases g4
          · cases g4
        · cases g2
      · cases h'
    | _ => cases h
/-- the other facts of such a class -/
def excB (K : PySem.W.Frag) (C : Str) : Bool := oexB K (ga K C) && (eqO (PySem.W.findIn K (.ref (ga K C)) "__setattr__") (some (some (.builtin "object.__setattr__"))) && (decide (PySem.W.subIn K (.ref (ga K C)) (.type "BaseException") = some true) && (decide (PySem.W.typeIn K (.ref (ga K C)) = some (.type "type")) && (PySem.W.keepIn K (.ref (ga K C)) &&
  (eqO (PySem.W.findIn K (.ref (ga K C)) "__init__") (some (some (.ref (iAd K C)))) && (decide (PySem.W.typeIn K (.ref (iAd K C)) = some (.type "function")) && (decide (PySem.W.ks_superIn K (ga K C) (ga K C) "__init__" = some (some (.builtin "ValueError.__init__"))) &&
  (decide (PySem.W.subIn K (.ref (ga K C)) (.type "ValueError") = some true) && decide (PySem.W.mroIn K (ga K C) (.ref (ga K C)) = some true)))))))))
/-- isinstance of it, caught -/
def catB (K : PySem.W.Frag) (C : Str) : Bool := eqO (PySem.W.findIn K (.ref (ga K C)) "__getattribute__") (some (some (.builtin "BaseException.__getattribute__"))) && (eqO (PySem.W.findIn K (.ref (ga K C)) "__getattr__") (some none) && (PySem.W.hasDictIn K (ga K C) &&
  (eqO (PySem.W.findIn K (.ref (ga K C)) "__class__") (some (some (.builtin "object.__class__"))) && (eqO (PySem.W.specialIn K (.builtin "object.__class__") "__get__") (some (some (.builtin "getset_descriptor.__get__"))) && (decide (PySem.W.takesIn K (.builtin "object.__class__") = some true) &&
  (decide (PySem.W.mroIn K (ga K C) (.type "object") = some true) && decide (PySem.W.subIn K (.ref (ga K C)) (.type "BaseException") = some true)))))))
theorem catB_ok {K : PySem.W.Frag} {C : Str} (h : catB K C = true) : ExcC K (ga K C) := by
  obtain ⟨h1, h⟩ := ba h
  obtain ⟨h2, h⟩ := ba h
  obtain ⟨h3, h⟩ := ba h
  obtain ⟨h4, h⟩ := ba h
  obtain ⟨h5, h⟩ := ba h
  obtain ⟨h6, h⟩ := ba h
  obtain ⟨h7, h8⟩ := ba h
  exact ⟨eqO_ok h1, eqO_ok h2, of_decide_eq_true h8, h3, eqO_ok h4, eqO_ok h5, of_decide_eq_true h6, of_decide_eq_true h7⟩
def kitB (K : PySem.W.Frag) (p : Str × Str × Bool) : Bool := decide (PySem.W.kitOne K (.ref (ga K p.1)) (.ref (ga K p.2.1)) = some p.2.2)
theorem noarg_ok {K : PySem.W.Frag} {mg : Str → Option Value} {d : XD} {file : Str} (e : fnY K d.cls = d.val) (h1 : iniB K d.cls d.qual file = true) (h2 : excB K d.cls = true) (h3 : eqO (PySem.W.nsIn K cStatics "thirdparty.any") (some none) = true) (h4 : mg "super" = none) :
    XR.NoArg K mg file (ga K d.cls) (iAd K d.cls) "__init__" d.qual d.params d.body d.scope := by
  obtain ⟨c1, h2⟩ := ba h2
  obtain ⟨c2, h2⟩ := ba h2
  obtain ⟨c3, h2⟩ := ba h2
  obtain ⟨c4, h2⟩ := ba h2
  obtain ⟨c5, h2⟩ := ba h2
  obtain ⟨c6, h2⟩ := ba h2
  obtain ⟨c7, h2⟩ := ba h2
  obtain ⟨c8, h2⟩ := ba h2
  obtain ⟨c9, c10⟩ := ba h2
  exact ⟨⟨oexB_ok c1, eqO_ok c2, of_decide_eq_true c3, of_decide_eq_true c4, c5⟩, eqO_ok c6, of_decide_eq_true c7, ini_ok e h1, of_decide_eq_true c8, of_decide_eq_true c9, of_decide_eq_true c10, eqO_ok h3, h4⟩
/-! ### the Hook -/
def asY (g : Addr → Option Obj) (n : Nat) : List Addr := cStatics :: asD g n
/-- what is told of K: fa, fn, tf as He has them; xs the own exceptions, ks the answers of isinstance -/
def moreB (xs : List XD) (ks : List (Str × Str × Bool)) (file : Str) (K : PySem.W.Frag) : Bool :=
  eqO (PySem.W.nsIn K cStatics "thirdparty.any") (some none) && (xs.all (fun d => iniB K d.cls d.qual file && (excB K d.cls && catB K d.cls)) && ks.all (kitB K))
/-- the defs' tables are different ones -/
def nodB (tf : List Defn) (K : PySem.W.Frag) : Bool := decide ((tf.map fun p => (cT K p).2).Nodup)
abbrev AlY : Type := AlX × List FnY
def obsY (n : Nat) (fa : List Fa) (fn : List DefD) (tf : List Defn) (xs : List XD) (ks : List (Str × Str × Bool)) (file : Str) (g : Addr → Option Obj) : AlY :=
  ((obsT fa fn [] (frT g (asY g n)), (moreB xs ks file (frT g (asY g n)) && nodB tf (frT g (asY g n))) && tabsB g tf (frT g (asY g n))), xs.map fun d => fnY (frT g (asY g n)) d.cls)
def valY (fn : List DefD) (xs : List XD) (w : World) : AlY := (valX fn [] w, xs.map XD.val)
structure SaysY (fa : List Fa) (fn : List DefD) (tf : List Defn) (xs : List XD) (ks : List (Str × Str × Bool)) (file : Str) (w : World) (h : Heap) (K : PySem.W.Frag) : Prop where
  d : SaysD fa fn K
  more : moreB xs ks file K = true
  nod : nodB tf K = true
  hd : ∀ p ∈ tf, PySem.W.codeHdIn K (cT K p).1 (cT K p).2 = true
  out : ∀ p ∈ tf, K.lookup (cT K p).2 = none
  empty : ∀ p ∈ tf, h.get? (cT K p).2 = some { cls := .none, data := .fields #[] }
  ini : ∀ d ∈ xs, fnY K d.cls = d.val
theorem map_at {α β : Type} {f g : α → β} : ∀ {l : List α}, l.map f = l.map g → ∀ a ∈ l, f a = g a
  | [], _, a, ha => nomatch ha
  | b :: l, e, a, ha => by
    have e' : f b :: l.map f = g b :: l.map g := e
    injection e' with e1 e2
    rcases List.mem_cons.mp ha with rfl | ha
    · exact e1
    · exact map_at e2 a ha
theorem says_of {n : Nat} {fa : List Fa} {fn : List DefD} {tf : List Defn} {xs : List XD} {ks : List (Str × Str × Bool)} {file : Str} {w : World} {h : Heap} (e : obsY n fa fn tf xs ks file h.get? = valY fn xs w) :
    SaysY fa fn tf xs ks file w h (frT h.get? (asY h.get? n)) := by
  obtain ⟨e1, e2⟩ := Prod.mk.inj e
  obtain ⟨e3, e4⟩ := Prod.mk.inj e1
  obtain ⟨m1, m2⟩ := ba e4
  have tab := fun p hp => ba (List.all_eq_true.mp m2 p hp)
  have obj : ∀ p ∈ tf, ∃ o, h.get? (cT (frT h.get? (asY h.get? n)) p).2 = some o ∧ emptyTab o = true := fun p hp => by
    have z := (tab p hp).2
    split at z
    · rename_i o q
      exact ⟨o, q, z⟩
    · cases z
  exact { d := SaysT.d (w := w) (ts := []) e3
          more := (ba m1).1
          nod := (ba m1).2
          hd := fun p hp => (tab p hp).1
          out := fun p hp => let ⟨o, q, z⟩ := obj p hp; frT_none q z
          empty := fun p hp => by
            obtain ⟨o, q, z⟩ := obj p hp
            rw [q, emptyTab_eq z]
          ini := fun d hd => map_at e2 d hd }
def hookY (n : Nat) (fa : List Fa) (fn : List DefD) (tf : List Defn) (xs : List XD) (ks : List (Str × Str × Bool)) (file : Str) : PySem.W.Hook where
  α := AlY
  obs := fun s => obsY n fa fn tf xs ks file s.heap.get?
  val := fun w => valY fn xs w
  says := fun w h => ∃ K : PySem.W.Frag, K.In h ∧ SaysY fa fn tf xs ks file w h K
  of := fun _ _ e => ⟨_, frT_in, says_of e⟩
  keeps := fun _ _ _ ⟨K, hK, c⟩ k => ⟨K, hK.keeps k, { d := c.d, more := c.more, nod := c.nod, hd := c.hd, out := c.out, empty := fun p hp => k _ _ (c.empty p hp), ini := c.ini }⟩
theorem obsY_eq {n : Nat} {fa : List Fa} {fn : List DefD} {tf : List Defn} {xs : List XD} {ks : List (Str × Str × Bool)} {file : Str} {g : Addr → Option Obj} {s : Shared} (h : ∀ a, g a = s.heap.get? a) : obsY n fa fn tf xs ks file g = (hookY n fa fn tf xs ks file).obs s := by
  obtain rfl : g = s.heap.get? := funext h
  rfl
section
variable {fa : List Fa} {fn : List DefD} {tf : List Defn} {xs : List XD} {ks : List (Str × Str × Bool)} {file : Str} {w : World} {h : Heap} {K : PySem.W.Frag} {mg : Str → Option Value}
theorem SaysY.noarg (c : SaysY fa fn tf xs ks file w h K) (h4 : mg "super" = none) {d : XD} (hd : d ∈ xs) : XR.NoArg K mg file (ga K d.cls) (iAd K d.cls) "__init__" d.qual d.params d.body d.scope := by
  obtain ⟨m1, m2⟩ := ba c.more
  obtain ⟨m3, m4⟩ := ba m2
  obtain ⟨c1, c2⟩ := ba (List.all_eq_true.mp m3 d hd)
  exact noarg_ok (c.ini d hd) c1 (ba c2).1 m1 h4
theorem SaysY.cat (c : SaysY fa fn tf xs ks file w h K) {d : XD} (hd : d ∈ xs) : ExcC K (ga K d.cls) := by
  obtain ⟨m1, m2⟩ := ba c.more
  obtain ⟨m3, m4⟩ := ba m2
  exact catB_ok (ba (ba (List.all_eq_true.mp m3 d hd)).2).2
theorem SaysY.kit (c : SaysY fa fn tf xs ks file w h K) {p : Str × Str × Bool} (hp : p ∈ ks) : PySem.W.kitOne K (.ref (ga K p.1)) (.ref (ga K p.2.1)) = some p.2.2 := by
  obtain ⟨m1, m2⟩ := ba c.more
  exact of_decide_eq_true (List.all_eq_true.mp (ba m2).2 p hp)
end
end HY
end

section
set_option Elab.async false
set_option linter.all false
set_option maxRecDepth 100000
set_option maxHeartbeats 4000000
/-! The head's facts, with the properties of classes. -/
namespace HZ
open PySem PySem.Spec PyProof.Rows L2 He HY
/-- a property: its class's name, its own name, its getter's qualified name, parameters, body, scope -/
structure PD where
  cls : Str
  name : Str
  qual : Str
  params : Arguments
  body : List Stmt
  scope : Scope
/-- the property object, its getter -/
def pAd (K : PySem.W.Frag) (C f : Str) : Addr := match PySem.W.findIn K (.ref (ga K C)) f with
  | some (some (.ref p)) => p
  | _ => 0
def gAd (K : PySem.W.Frag) (C f : Str) : Addr := match PySem.W.recIn K (pAd K C f) "property" with
  | some (.ref g :: _) => g
  | _ => 0
def fnA (K : PySem.W.Frag) (a : Addr) : FnW := match K.lookup a with
  | some ⟨_, _, .func fd, _⟩ => some (fd.name, fd.qualname, fd.params, fd.body, fd.scope, fd.globals, fd.closure, fd.builtins)
  | _ => none
def PD.val (d : PD) : FnW := some (d.name, d.qual, d.params, .stmts d.body, d.scope, mainGlobals, [], builtinsNs)
def okA (K : PySem.W.Frag) (a : Addr) (q : Str) : Bool := PySem.W.keepIn K (.ref a) && (match K.lookup a with
  | some ⟨_, _, .func fd, _⟩ => PySem.W.codeIn K fd.code q && (dflB K fd.defaults [] && kwdB K fd.kwdefaults [])
  | _ => false)
theorem funA {K : PySem.W.Frag} {a : Addr} {d : PD} (e : fnA K a = d.val) (c : okA K a d.qual = true) : ∃ fd, FunD K d.name d.qual d.params d.body d.scope [] [] a fd := by
  obtain ⟨kp, c2⟩ := ba c
  unfold fnA at e
  cases q : K.lookup a with
  | none =>
    rw [q] at c2
    cases c2
  | some o =>
    obtain ⟨oc, od, dt, osl⟩ := o
    rw [q] at c2 e
    cases dt with
    | func fd =>
      obtain ⟨n1, n2, n3, n4, n5, n6, n7, n8, n9, n10, n11, n12, n13, n14, n15⟩ := fd
      have e2 : (some (n1, n2, n3, n4, n5, n6, n7, n15) : FnW) = some (d.name, d.qual, d.params, .stmts d.body, d.scope, mainGlobals, [], builtinsNs) := e
      simp only [Option.some.injEq, Prod.mk.injEq] at e2
      obtain ⟨h1, h2, h3, h4, h5, h6, h7, h8⟩ := e2
      subst h1 h2 h3 h4 h5 h6 h7 h8
      have c3 : (PySem.W.codeIn K n13 d.qual && (dflB K n8 [] && kwdB K n9 [])) = true := c2
      obtain ⟨k1, k2⟩ := ba c3
      obtain ⟨k3, k4⟩ := ba k2
      exact ⟨_, ⟨oc, od, n8, n9, n10, n11, n12, n13, n14, osl, rfl, q, k1, dflB_ok k3, kwdB_ok k4⟩, kp⟩
    | _ => cases c2
def propB (K : PySem.W.Frag) (d : PD) : Bool := eqO (PySem.W.findIn K (.ref (ga K d.cls)) d.name) (some (some (.ref (pAd K d.cls d.name)))) && (eqO (PySem.W.specialIn K (.ref (pAd K d.cls d.name)) "__get__") (some (some (.builtin "property.__get__"))) && (decide (PySem.W.takesIn K (.ref (pAd K d.cls d.name)) = some true) &&
  ((match PySem.W.recIn K (pAd K d.cls d.name) "property" with
    | some (.ref g :: _) => decide (g = gAd K d.cls d.name)
    | _ => false) && okA K (gAd K d.cls d.name) d.qual)))
theorem propB_ok {K : PySem.W.Frag} {d : PD} (h : propB K d = true) : PropOf K (ga K d.cls) d.name (pAd K d.cls d.name) (gAd K d.cls d.name) ∧ okA K (gAd K d.cls d.name) d.qual = true := by
  obtain ⟨h1, h⟩ := ba h
  obtain ⟨h2, h⟩ := ba h
  obtain ⟨h3, h⟩ := ba h
  obtain ⟨h4, h5⟩ := ba h
  refine ⟨⟨eqO_ok h1, eqO_ok h2, of_decide_eq_true h3, ?_⟩, h5⟩
  split at h4
  · rename_i g rest q
    have e := of_decide_eq_true h4
    exact ⟨rest, by rw [q, e]⟩
  · cases h4
/-! ### the Hook -/
abbrev AlZ : Type := AlY × (Bool × List FnW)
def obsZ (n : Nat) (fa : List Fa) (fn : List DefD) (tf : List Defn) (xs : List XD) (ps : List PD) (ks : List (Str × Str × Bool)) (file : Str) (g : Addr → Option Obj) : AlZ :=
  (obsY n fa fn tf xs ks file g, (ps.all (propB (frT g (asY g n))), ps.map fun d => fnA (frT g (asY g n)) (gAd (frT g (asY g n)) d.cls d.name)))
def valZ (fn : List DefD) (xs : List XD) (ps : List PD) (w : World) : AlZ := (valY fn xs w, (true, ps.map PD.val))
structure SaysZ (fa : List Fa) (fn : List DefD) (tf : List Defn) (xs : List XD) (ps : List PD) (ks : List (Str × Str × Bool)) (file : Str) (w : World) (h : Heap) (K : PySem.W.Frag) : Prop where
  y : SaysY fa fn tf xs ks file w h K
  pr : ∀ d ∈ ps, propB K d = true
  pf : ∀ d ∈ ps, fnA K (gAd K d.cls d.name) = d.val
theorem saysZ_of {n : Nat} {fa : List Fa} {fn : List DefD} {tf : List Defn} {xs : List XD} {ps : List PD} {ks : List (Str × Str × Bool)} {file : Str} {w : World} {h : Heap} (e : obsZ n fa fn tf xs ps ks file h.get? = valZ fn xs ps w) :
    SaysZ fa fn tf xs ps ks file w h (frT h.get? (asY h.get? n)) := by
  obtain ⟨e1, e2⟩ := Prod.mk.inj e
  obtain ⟨e3, e4⟩ := Prod.mk.inj e2
  exact ⟨says_of e1, fun d hd => List.all_eq_true.mp e3 d hd, fun d hd => map_at e4 d hd⟩
def hookZ (n : Nat) (fa : List Fa) (fn : List DefD) (tf : List Defn) (xs : List XD) (ps : List PD) (ks : List (Str × Str × Bool)) (file : Str) : PySem.W.Hook where
  α := AlZ
  obs := fun s => obsZ n fa fn tf xs ps ks file s.heap.get?
  val := fun w => valZ fn xs ps w
  says := fun w h => ∃ K : PySem.W.Frag, K.In h ∧ SaysZ fa fn tf xs ps ks file w h K
  of := fun _ _ e => ⟨_, frT_in, saysZ_of e⟩
  keeps := fun _ _ _ ⟨K, hK, c⟩ k => ⟨K, hK.keeps k, ⟨{ d := c.y.d, more := c.y.more, nod := c.y.nod, hd := c.y.hd, out := c.y.out, empty := fun p hp => k _ _ (c.y.empty p hp), ini := c.y.ini }, c.pr, c.pf⟩⟩
theorem obsZ_eq {n : Nat} {fa : List Fa} {fn : List DefD} {tf : List Defn} {xs : List XD} {ps : List PD} {ks : List (Str × Str × Bool)} {file : Str} {g : Addr → Option Obj} {s : Shared} (h : ∀ a, g a = s.heap.get? a) : obsZ n fa fn tf xs ps ks file g = (hookZ n fa fn tf xs ps ks file).obs s := by
  obtain rfl : g = s.heap.get? := funext h
  rfl
section
variable {fa : List Fa} {fn : List DefD} {tf : List Defn} {xs : List XD} {ps : List PD} {ks : List (Str × Str × Bool)} {file : Str} {w : World} {h : Heap} {K : PySem.W.Frag}
theorem SaysZ.prop (c : SaysZ fa fn tf xs ps ks file w h K) {d : PD} (hd : d ∈ ps) : PropOf K (ga K d.cls) d.name (pAd K d.cls d.name) (gAd K d.cls d.name) ∧ ∃ fd, FunD K d.name d.qual d.params d.body d.scope [] [] (gAd K d.cls d.name) fd :=
  ⟨(propB_ok (c.pr d hd)).1, funA (c.pf d hd) (propB_ok (c.pr d hd)).2⟩
end
end HZ
end

section
set_option Elab.async false
set_option linter.all false
set_option maxRecDepth 100000
/-! The text by places: each def's statement, its datum for the head. Printed by gentop.py. -/
namespace K93
open PySem L2
def top (i : Nat) : Stmt := PySem.Challenge.pw_bynamealone_k93_facts_texts_spoilt.main.body.getD i (.Pass ⟨0, 0, 0, 0⟩)
abbrev s_is_integer : Stmt := top 11
abbrev s_is_name : Stmt := top 12
abbrev s_is_condition : Stmt := top 14
abbrev s_below : Stmt := top 15
abbrev s_asks_listed : Stmt := top 16
abbrev s_asks_in : Stmt := top 17
abbrev s_asks_only : Stmt := top 21
abbrev s_is_fact : Stmt := top 22
abbrev s_are_told_names : Stmt := top 23
abbrev s_Facts_init : Stmt := inClass (top 24) 0
abbrev s_show_condition : Stmt := top 26
abbrev s_show_fact : Stmt := top 27
abbrev s_show_facts : Stmt := top 28
abbrev s_need_text : Stmt := top 30
abbrev s_need : Stmt := top 31
abbrev s_Reader_init : Stmt := inClass (top 32) 0
abbrev s_Reader_takes : Stmt := inClass (top 32) 1
abbrev s_Reader_needs : Stmt := inClass (top 32) 2
abbrev s_Reader_signs : Stmt := inClass (top 32) 3
abbrev s_Reader_word_here : Stmt := inClass (top 32) 4
abbrev s_Reader_several : Stmt := inClass (top 32) 5
abbrev s_Reader_condition_here : Stmt := inClass (top 32) 6
abbrev s_Reader_fact_here : Stmt := inClass (top 32) 8
abbrev s_read_fact : Stmt := top 33
abbrev s_made_by : Stmt := top 34
abbrev s_read_facts : Stmt := top 35
abbrev s_law_bag : Stmt := top 37
abbrev s_law_take : Stmt := top 38
abbrev s_law_one : Stmt := top 39
abbrev s_law_mixed : Stmt := top 40
abbrev s_law_names : Stmt := top 41
abbrev s_law_condition : Stmt := top 42
abbrev s_law_told : Stmt := top 43
abbrev s_law_is_name : Stmt := top 44
abbrev s_law_are_names : Stmt := top 45
abbrev s_law_asks_in : Stmt := top 46
abbrev s_law_condition_text : Stmt := top 47
abbrev s_law_fact_text : Stmt := top 48
abbrev s_law_facts_text : Stmt := top 49
abbrev s_law_name_at : Stmt := top 50
abbrev s_law_conditions_at : Stmt := top 51
abbrev s_law_condition_at : Stmt := top 52
abbrev s_law_whole : Stmt := top 53
abbrev s_law_spoilt : Stmt := top 54
abbrev s_law_read : Stmt := top 55
abbrev s_law_bent_lines : Stmt := top 56
abbrev s_law_names_read : Stmt := top 57
abbrev s_law_fact_line : Stmt := top 58
abbrev s_law_facts_read : Stmt := top 59
abbrev s_law_text : Stmt := top 60
abbrev s_law : Stmt := top 61
abbrev s_Facts_asks : Stmt := inClass (top 24) 2
abbrev s_Facts_steps : Stmt := inClass (top 24) 3
abbrev s_Facts_told : Stmt := inClass (top 24) 4
def d_is_integer : He.DefD := ⟨("is_integer", none), "is_integer", "is_integer", defArgs s_is_integer, defBody s_is_integer, defScope s_is_integer, [], []⟩
def d_is_name : He.DefD := ⟨("is_name", none), "is_name", "is_name", defArgs s_is_name, defBody s_is_name, defScope s_is_name, [], []⟩
def d_is_condition : He.DefD := ⟨("is_condition", none), "is_condition", "is_condition", defArgs s_is_condition, defBody s_is_condition, defScope s_is_condition, [], []⟩
def d_below : He.DefD := ⟨("below", none), "below", "below", defArgs s_below, defBody s_below, defScope s_below, [], []⟩
def d_asks_listed : He.DefD := ⟨("asks_listed", none), "asks_listed", "asks_listed", defArgs s_asks_listed, defBody s_asks_listed, defScope s_asks_listed, [], []⟩
def d_asks_in : He.DefD := ⟨("asks_in", none), "asks_in", "asks_in", defArgs s_asks_in, defBody s_asks_in, defScope s_asks_in, [], []⟩
def d_asks_only : He.DefD := ⟨("asks_only", none), "asks_only", "asks_only", defArgs s_asks_only, defBody s_asks_only, defScope s_asks_only, [], []⟩
def d_is_fact : He.DefD := ⟨("is_fact", none), "is_fact", "is_fact", defArgs s_is_fact, defBody s_is_fact, defScope s_is_fact, [], []⟩
def d_are_told_names : He.DefD := ⟨("are_told_names", none), "are_told_names", "are_told_names", defArgs s_are_told_names, defBody s_are_told_names, defScope s_are_told_names, [], []⟩
def d_Facts_init : He.DefD := ⟨("Facts", some "__init__"), "__init__", "Facts.__init__", defArgs s_Facts_init, defBody s_Facts_init, defScope s_Facts_init, [.adr (He.dflAt ("Facts", some "__init__") 0)], []⟩
def d_show_condition : He.DefD := ⟨("show_condition", none), "show_condition", "show_condition", defArgs s_show_condition, defBody s_show_condition, defScope s_show_condition, [], []⟩
def d_show_fact : He.DefD := ⟨("show_fact", none), "show_fact", "show_fact", defArgs s_show_fact, defBody s_show_fact, defScope s_show_fact, [], []⟩
def d_show_facts : He.DefD := ⟨("show_facts", none), "show_facts", "show_facts", defArgs s_show_facts, defBody s_show_facts, defScope s_show_facts, [], []⟩
def d_need_text : He.DefD := ⟨("need_text", none), "need_text", "need_text", defArgs s_need_text, defBody s_need_text, defScope s_need_text, [], []⟩
def d_need : He.DefD := ⟨("need", none), "need", "need", defArgs s_need, defBody s_need, defScope s_need, [], []⟩
def d_Reader_init : He.DefD := ⟨("Reader", some "__init__"), "__init__", "Reader.__init__", defArgs s_Reader_init, defBody s_Reader_init, defScope s_Reader_init, [], []⟩
def d_Reader_takes : He.DefD := ⟨("Reader", some "takes"), "takes", "Reader.takes", defArgs s_Reader_takes, defBody s_Reader_takes, defScope s_Reader_takes, [], []⟩
def d_Reader_needs : He.DefD := ⟨("Reader", some "needs"), "needs", "Reader.needs", defArgs s_Reader_needs, defBody s_Reader_needs, defScope s_Reader_needs, [], []⟩
def d_Reader_signs : He.DefD := ⟨("Reader", some "signs"), "signs", "Reader.signs", defArgs s_Reader_signs, defBody s_Reader_signs, defScope s_Reader_signs, [], []⟩
def d_Reader_word_here : He.DefD := ⟨("Reader", some "word_here"), "word_here", "Reader.word_here", defArgs s_Reader_word_here, defBody s_Reader_word_here, defScope s_Reader_word_here, [], []⟩
def d_Reader_several : He.DefD := ⟨("Reader", some "several"), "several", "Reader.several", defArgs s_Reader_several, defBody s_Reader_several, defScope s_Reader_several, [], []⟩
def d_Reader_condition_here : He.DefD := ⟨("Reader", some "condition_here"), "condition_here", "Reader.condition_here", defArgs s_Reader_condition_here, defBody s_Reader_condition_here, defScope s_Reader_condition_here, [], []⟩
def d_Reader_fact_here : He.DefD := ⟨("Reader", some "fact_here"), "fact_here", "Reader.fact_here", defArgs s_Reader_fact_here, defBody s_Reader_fact_here, defScope s_Reader_fact_here, [], []⟩
def d_read_fact : He.DefD := ⟨("read_fact", none), "read_fact", "read_fact", defArgs s_read_fact, defBody s_read_fact, defScope s_read_fact, [], []⟩
def d_made_by : He.DefD := ⟨("made_by", none), "made_by", "made_by", defArgs s_made_by, defBody s_made_by, defScope s_made_by, [], []⟩
def d_read_facts : He.DefD := ⟨("read_facts", none), "read_facts", "read_facts", defArgs s_read_facts, defBody s_read_facts, defScope s_read_facts, [], []⟩
def d_law_bag : He.DefD := ⟨("_law_bag", none), "_law_bag", "_law_bag", defArgs s_law_bag, defBody s_law_bag, defScope s_law_bag, [], []⟩
def d_law_take : He.DefD := ⟨("_law_take", none), "_law_take", "_law_take", defArgs s_law_take, defBody s_law_take, defScope s_law_take, [], []⟩
def d_law_one : He.DefD := ⟨("_law_one", none), "_law_one", "_law_one", defArgs s_law_one, defBody s_law_one, defScope s_law_one, [], []⟩
def d_law_mixed : He.DefD := ⟨("_law_mixed", none), "_law_mixed", "_law_mixed", defArgs s_law_mixed, defBody s_law_mixed, defScope s_law_mixed, [], []⟩
def d_law_names : He.DefD := ⟨("_law_names", none), "_law_names", "_law_names", defArgs s_law_names, defBody s_law_names, defScope s_law_names, [], []⟩
def d_law_condition : He.DefD := ⟨("_law_condition", none), "_law_condition", "_law_condition", defArgs s_law_condition, defBody s_law_condition, defScope s_law_condition, [], []⟩
def d_law_told : He.DefD := ⟨("_law_told", none), "_law_told", "_law_told", defArgs s_law_told, defBody s_law_told, defScope s_law_told, [], []⟩
def d_law_is_name : He.DefD := ⟨("_law_is_name", none), "_law_is_name", "_law_is_name", defArgs s_law_is_name, defBody s_law_is_name, defScope s_law_is_name, [], []⟩
def d_law_are_names : He.DefD := ⟨("_law_are_names", none), "_law_are_names", "_law_are_names", defArgs s_law_are_names, defBody s_law_are_names, defScope s_law_are_names, [], []⟩
def d_law_asks_in : He.DefD := ⟨("_law_asks_in", none), "_law_asks_in", "_law_asks_in", defArgs s_law_asks_in, defBody s_law_asks_in, defScope s_law_asks_in, [], []⟩
def d_law_condition_text : He.DefD := ⟨("_law_condition_text", none), "_law_condition_text", "_law_condition_text", defArgs s_law_condition_text, defBody s_law_condition_text, defScope s_law_condition_text, [], []⟩
def d_law_fact_text : He.DefD := ⟨("_law_fact_text", none), "_law_fact_text", "_law_fact_text", defArgs s_law_fact_text, defBody s_law_fact_text, defScope s_law_fact_text, [], []⟩
def d_law_facts_text : He.DefD := ⟨("_law_facts_text", none), "_law_facts_text", "_law_facts_text", defArgs s_law_facts_text, defBody s_law_facts_text, defScope s_law_facts_text, [], []⟩
def d_law_name_at : He.DefD := ⟨("_law_name_at", none), "_law_name_at", "_law_name_at", defArgs s_law_name_at, defBody s_law_name_at, defScope s_law_name_at, [], []⟩
def d_law_conditions_at : He.DefD := ⟨("_law_conditions_at", none), "_law_conditions_at", "_law_conditions_at", defArgs s_law_conditions_at, defBody s_law_conditions_at, defScope s_law_conditions_at, [], []⟩
def d_law_condition_at : He.DefD := ⟨("_law_condition_at", none), "_law_condition_at", "_law_condition_at", defArgs s_law_condition_at, defBody s_law_condition_at, defScope s_law_condition_at, [], []⟩
def d_law_whole : He.DefD := ⟨("_law_whole", none), "_law_whole", "_law_whole", defArgs s_law_whole, defBody s_law_whole, defScope s_law_whole, [], []⟩
def d_law_spoilt : He.DefD := ⟨("_law_spoilt", none), "_law_spoilt", "_law_spoilt", defArgs s_law_spoilt, defBody s_law_spoilt, defScope s_law_spoilt, [], []⟩
def d_law_read : He.DefD := ⟨("_law_read", none), "_law_read", "_law_read", defArgs s_law_read, defBody s_law_read, defScope s_law_read, [], []⟩
def d_law_bent_lines : He.DefD := ⟨("_law_bent_lines", none), "_law_bent_lines", "_law_bent_lines", defArgs s_law_bent_lines, defBody s_law_bent_lines, defScope s_law_bent_lines, [], []⟩
def d_law_names_read : He.DefD := ⟨("_law_names_read", none), "_law_names_read", "_law_names_read", defArgs s_law_names_read, defBody s_law_names_read, defScope s_law_names_read, [], []⟩
def d_law_fact_line : He.DefD := ⟨("_law_fact_line", none), "_law_fact_line", "_law_fact_line", defArgs s_law_fact_line, defBody s_law_fact_line, defScope s_law_fact_line, [], []⟩
def d_law_facts_read : He.DefD := ⟨("_law_facts_read", none), "_law_facts_read", "_law_facts_read", defArgs s_law_facts_read, defBody s_law_facts_read, defScope s_law_facts_read, [], []⟩
def d_law_text : He.DefD := ⟨("_law_text", none), "_law_text", "_law_text", defArgs s_law_text, defBody s_law_text, defScope s_law_text, [], []⟩
def d_law : He.DefD := ⟨("law", none), "law", "law", defArgs s_law, defBody s_law, defScope s_law, [], []⟩
def fn : List He.DefD := [d_is_integer, d_is_name, d_is_condition, d_below, d_asks_listed, d_asks_in, d_asks_only, d_is_fact, d_are_told_names, d_Facts_init, d_show_condition, d_show_fact, d_show_facts, d_need_text, d_need, d_Reader_init, d_Reader_takes, d_Reader_needs, d_Reader_signs, d_Reader_word_here, d_Reader_several, d_Reader_condition_here, d_Reader_fact_here, d_read_fact, d_made_by, d_read_facts, d_law_bag, d_law_take, d_law_one, d_law_mixed, d_law_names, d_law_condition, d_law_told, d_law_is_name, d_law_are_names, d_law_asks_in, d_law_condition_text, d_law_fact_text, d_law_facts_text, d_law_name_at, d_law_conditions_at, d_law_condition_at, d_law_whole, d_law_spoilt, d_law_read, d_law_bent_lines, d_law_names_read, d_law_fact_line, d_law_facts_read, d_law_text, d_law]
end K93
end

section
set_option Elab.async false
set_option linter.all false
set_option maxRecDepth 100000
set_option maxHeartbeats 0
/-! The head: what the top has left. Printed by gentop.py. -/
namespace K93
open PySem PySem.Spec PyProof.Rows L2
def fa : List He.Fa := [.glo "AloneError", .glo "Wrong", .glo "NoFact", .glo "TooMany", .glo "NoText", .glo "is_integer", .glo "is_name", .glo "is_condition", .glo "below", .glo "asks_listed", .glo "asks_in", .glo "asks_only", .glo "is_fact", .glo "are_told_names", .glo "Facts", .glo "show_condition", .glo "show_fact", .glo "show_facts", .glo "need_text", .glo "need", .glo "Reader", .glo "read_fact", .glo "made_by", .glo "read_facts", .glo "_law_bag", .glo "_law_take", .glo "_law_one", .glo "_law_mixed", .glo "_law_names", .glo "_law_condition", .glo "_law_told", .glo "_law_is_name", .glo "_law_are_names", .glo "_law_asks_in", .glo "_law_condition_text", .glo "_law_fact_text", .glo "_law_facts_text", .glo "_law_name_at", .glo "_law_conditions_at", .glo "_law_condition_at", .glo "_law_whole", .glo "_law_spoilt", .glo "_law_read", .glo "_law_bent_lines", .glo "_law_names_read", .glo "_law_fact_line", .glo "_law_facts_read", .glo "_law_text", .glo "law", .free "ValueError", .free "abs", .free "all", .free "bool", .free "classmethod", .free "int", .free "isinstance", .free "iter", .free "len", .free "list", .free "property", .free "range", .free "set", .free "sorted", .free "str", .free "super", .free "tuple", .str "LETTERS" "abcdefghijklmnopqrstuvwxyz", .int "LONGEST_NAME" 8, .int "MOST_ASKS" 4, .int "MOST_STEPS" 5, .int "MOST_FACTS" 24, .cls "Facts", .mkr "Facts", .noat "Facts" "its_asks", .noat "Facts" "its_steps", .noat "Facts" "its_told", .cls "Reader", .mkr "Reader", .noat "Reader" "its_place", .noat "Reader" "its_text", .meth "Reader" "takes", .meth "Reader" "needs", .meth "Reader" "signs", .meth "Reader" "word_here", .meth "Reader" "several", .meth "Reader" "condition_here", .meth "Reader" "fact_here", .exm "Wrong" "AloneError" true, .exm "NoFact" "AloneError" true, .exm "TooMany" "AloneError" true, .exm "NoText" "AloneError" true, .noat "Wrong" "place", .noat "NoFact" "index", .noat "TooMany" "limit"]
def tf : List He.Defn := [("Reader", some "condition_here"), ("read_facts", none), ("law", none)]
abbrev s_Wrong_init : Stmt := inClass (top 3) 0
def x_Wrong : HY.XD := ⟨"Wrong", "Wrong.__init__", defArgs s_Wrong_init, defBody s_Wrong_init, defScope s_Wrong_init⟩
abbrev s_NoFact_init : Stmt := inClass (top 4) 0
def x_NoFact : HY.XD := ⟨"NoFact", "NoFact.__init__", defArgs s_NoFact_init, defBody s_NoFact_init, defScope s_NoFact_init⟩
abbrev s_TooMany_init : Stmt := inClass (top 5) 0
def x_TooMany : HY.XD := ⟨"TooMany", "TooMany.__init__", defArgs s_TooMany_init, defBody s_TooMany_init, defScope s_TooMany_init⟩
abbrev s_NoText_init : Stmt := inClass (top 6) 0
def x_NoText : HY.XD := ⟨"NoText", "NoText.__init__", defArgs s_NoText_init, defBody s_NoText_init, defScope s_NoText_init⟩
def p_Facts_asks : HZ.PD := ⟨"Facts", "asks", "Facts.asks", defArgs s_Facts_asks, defBody s_Facts_asks, defScope s_Facts_asks⟩
def p_Facts_steps : HZ.PD := ⟨"Facts", "steps", "Facts.steps", defArgs s_Facts_steps, defBody s_Facts_steps, defScope s_Facts_steps⟩
def p_Facts_told : HZ.PD := ⟨"Facts", "told", "Facts.told", defArgs s_Facts_told, defBody s_Facts_told, defScope s_Facts_told⟩
def pl : List HZ.PD := [p_Facts_asks, p_Facts_steps, p_Facts_told]
def xs : List HY.XD := [x_Wrong, x_NoFact, x_TooMany, x_NoText]
def ks : List (Str × Str × Bool) := [("Wrong", "Wrong", true), ("Wrong", "NoFact", false), ("Wrong", "TooMany", false), ("Wrong", "NoText", false), ("NoFact", "Wrong", false), ("NoFact", "NoFact", true), ("NoFact", "TooMany", false), ("NoFact", "NoText", false), ("TooMany", "Wrong", false), ("TooMany", "NoFact", false), ("TooMany", "TooMany", true), ("TooMany", "NoText", false), ("NoText", "Wrong", false), ("NoText", "NoFact", false), ("NoText", "TooMany", false), ("NoText", "NoText", true)]
def loose0 : List Str := ["_wall", "__name__", "AloneError", "Wrong", "NoFact", "TooMany", "NoText", "LETTERS", "LONGEST_NAME", "MOST_ASKS", "is_integer", "is_name", "is_condition", "below", "asks_listed", "asks_in", "MOST_STEPS", "MOST_FACTS", "asks_only", "is_fact", "are_told_names", "Facts", "show_condition", "show_fact", "show_facts", "need_text", "need", "Reader", "read_fact", "made_by"]
def loose1 : List Str := ["read_facts", "_law_bag", "_law_take", "_law_one", "_law_mixed", "_law_names", "_law_condition", "_law_told", "_law_is_name", "_law_are_names", "_law_asks_in", "_law_condition_text", "_law_fact_text", "_law_facts_text", "_law_name_at", "_law_conditions_at", "_law_condition_at", "_law_whole", "_law_spoilt", "_law_read", "_law_bent_lines", "_law_names_read", "_law_fact_line", "_law_facts_read", "_law_text"]
def loose : List Str := loose0 ++ loose1
abbrev R : PySem.W.OpenRow := PySem.W.OpenLaw.row PySem.Challenge.rw_bynamealone_k93_facts_texts_spoilt
abbrev hk : PySem.W.Hook := HZ.hookZ 7 fa fn tf xs pl ks "/claim/cut.py"
def ob (s : PySem.W.SharedT) : HZ.AlZ := HZ.obsZ 7 fa fn tf xs pl ks "/claim/cut.py" (HandSHeadRun.getT s)
theorem ob_eq (s : PySem.W.SharedT) : ob s = hk.obs s.abs := HZ.obsZ_eq (HandSHeadRun.getT_eq s)
theorem run (w : World) : HandSHeadRun.RunEq R (PySem.W.view R.prog [61]) hk ob 9000 loose w := by
  intro os
  kernel_rfl
end K93
end

section
set_option Elab.async false
set_option linter.all false
set_option maxRecDepth 100000
set_option maxHeartbeats 4000000
/-! The end of a law row where the law asks repr: the law's def is run around the caller itself, whose guards are told. -/
namespace EG
open PySem PySem.Spec PyProof.Rows L2
/-- a def keeps its promise when it is called within A -/
structure RunA (P : Program) (w : World) (K : PySem.W.Frag) (mg : Str → Option Value) (base : Heap) (CX : CXT) (A : Around) (f : Addr) (fd : FuncData) (ps : List Str) (sp : Sp) : Prop where
  run : ∀ (outer : List Env) (s : Shared) (H : Hp) (args : Args) (us : List Value) (vs : List V) (Q : VK) (E : XK), Env0 P w K mg base A outer s H → BindsTo s fd args (ps.zip us) → Vals vs us → sp vs H Q E →
    codeAny (model P w) A (.call (.ref f) args) (CR CX outer P w H s Q E) s
/-- the first abstract heap: the tables, and the script, where it is not of the written part -/
def H0 (K : PySem.W.Frag) (ts : List Addr) (a : Addr) (o : Obj) (xs : List V) : Hp := fun b =>
  if b ∈ ts then some (.tbl #[]) else if b = a ∧ (K.lookup a).isNone = true then some (.frz o (.lst xs)) else none
theorem H0_cases {K : PySem.W.Frag} {ts : List Addr} {a : Addr} {o : Obj} {xs : List V} {b : Addr} {u : HO} (h : H0 K ts a o xs b = some u) : (b ∈ ts ∧ u = .tbl #[]) ∨ (b = a ∧ K.lookup a = none ∧ u = .frz o (.lst xs)) := by
  unfold H0 at h
  by_cases h1 : b ∈ ts
  · rw [if_pos h1] at h
    exact .inl ⟨h1, (Option.some.inj h).symm⟩
  · rw [if_neg h1] at h
    by_cases h2 : b = a ∧ (K.lookup a).isNone = true
    · rw [if_pos h2] at h
      exact .inr ⟨h2.1, Option.isNone_iff_eq_none.mp h2.2, (Option.some.inj h).symm⟩
    · rw [if_neg h2] at h
      cases h
theorem H0_tab {K : PySem.W.Frag} {ts : List Addr} {a : Addr} {o : Obj} {xs : List V} {b : Addr} (h : b ∈ ts) : H0 K ts a o xs b = some (.tbl #[]) := if_pos h
section
variable {P : Program} {w : World} {K : PySem.W.Frag} {mg mb : Str → Option Value} {CX : CXT} {fa a : Addr} {cs : List (Addr × Addr)} {fd : FuncData} {x : Str} {sp : Sp} {s : Shared} {vs : List Value} {ns : List Int}
theorem law_go (KX : K.In s.heap) (hg : s.heap.Ns mainGlobals mg) (hb : s.heap.Ns builtinsNs mb) (hbb : ∀ y : Str, y ≠ "__name__" → mb y = bootBuiltins y) (hlim : s.heap.NoLimit) (hgen : s.gens = #[])
    (hT : ∀ p ∈ cs, s.heap.get? p.2 = some { cls := .none, data := .fields #[] }) (nT : ∀ p ∈ cs, K.lookup p.2 = none) (hC : ∀ p ∈ cs, PySem.W.CodeHd s.heap p.1 p.2)
    (hbm : ∃ (bm : Addr) (ob : Obj), mg "__builtins__" = some (.ref bm) ∧ bm ≠ builtinsNs ∧ s.heap.get? bm = some ob ∧ ob.cls = .type "module" ∧ ob.dict = some builtinsNs ∧ ob.data = .plain)
    (ha : s.heap.get? a = some { cls := .type "list", data := .seq vs.toArray }) (hi : IntsAre vs ns) (hl : ns.length ≤ sizeLine)
    (F : ∀ base : Heap, K.In base → base.Ns mainGlobals mg → (∀ p ∈ cs, LamX.TabB base mg p.1 p.2) → RunA P w K mg base CX callerA fa fd [x] sp) (hbind : ∀ (s : Shared) (u : Value), BindsTo s fd ⟨[u], []⟩ [(x, u)])
    (hsp : ∀ H : Hp, (∀ p ∈ cs, H p.2 = some (.tbl #[])) → SqL K H a (ns.map V.int) → sp [.ref a] H (fun v _ => v = .bl true) fun _ _ _ => False)
    (hCX : ∀ H e s', CX [] H s (fun _ _ _ => False) e s' → False) :
    codeAny (model P w) callerA (.call (.ref fa) ⟨[.ref a], []⟩) (fun r s' => r = .ok (.ret (.bool true)) ∧ OldK s.heap s'.heap ∧ s'.os = s.os ∧ AllBare s'.gens) s := by
  have rv := vals_ints hi
  have lv := hi.length
  obtain ⟨H, eH⟩ : ∃ H, H = H0 K (cs.map (·.2)) a { cls := .type "list", data := .seq vs.toArray } (ns.map V.int) := ⟨_, rfl⟩
  have inTs : ∀ p ∈ cs, p.2 ∈ cs.map (·.2) := fun p hp => List.mem_map.mpr ⟨p, hp, rfl⟩
  have tsObj : ∀ b ∈ cs.map (·.2), s.heap.get? b = some { cls := .none, data := .fields #[] } ∧ K.lookup b = none := fun b hb => by
    obtain ⟨p, hp, rfl⟩ := List.mem_map.mp hb
    exact ⟨hT p hp, nT p hp⟩
  have cases_ : ∀ {b u}, H b = some u → (b ∈ cs.map (·.2) ∧ u = .tbl #[]) ∨ (b = a ∧ K.lookup a = none ∧ u = .frz { cls := .type "list", data := .seq vs.toArray } (.lst (ns.map V.int))) := fun {b u} h => by
    rw [eH] at h
    exact H0_cases h
  have tabs : ∀ p ∈ cs, H p.2 = some (.tbl #[]) := fun p hp => by
    rw [eH]
    exact H0_tab (inTs p hp)
  -- an object of another make is not tracked
  have un : ∀ {b : Addr} {o : Obj}, s.heap.get? b = some o → o.data ≠ .fields #[] → (∀ us n, o.data ≠ .seq us n) → H b = none := fun {b o} e n1 n2 => by
    cases q : H b with
    | none => rfl
    | some u =>
      exfalso
      rcases cases_ q with ⟨hb, _⟩ | ⟨rfl, _⟩
      · rw [(tsObj b hb).1] at e
        exact n1 (by rw [← Option.some.inj e])
      · rw [ha] at e
        exact n2 _ _ (by rw [← Option.some.inj e])
  have nsB : ∀ {b : Addr} {m : Str → Option Value}, s.heap.Ns b m → (hidT s.heap H).Ns b m := fun {b m} ⟨o, es, ep, e, d, r⟩ =>
    ⟨o, es, ep, hidT_get e (un e (by rw [d]; intro z; cases z) (by rw [d]; intro us n z; cases z)), d, r⟩
  have KB : K.In (hidT s.heap H) := fun b o e => hidT_get (KX b o e) (by
    cases q : H b with
    | none => rfl
    | some u =>
      exfalso
      rcases cases_ q with ⟨hb, _⟩ | ⟨rfl, n, _⟩
      · rw [(tsObj b hb).2] at e
        cases e
      · rw [n] at e
        cases e)
  have aTs : a ∉ cs.map (·.2) := fun z => by
    have q := (tsObj a z).1
    rw [ha] at q
    cases congrArg Obj.data (Option.some.inj q)
  have hok : HOk P w H s.heap := fun b u q => by
    rcases cases_ q with ⟨hb, rfl⟩ | ⟨rfl, _, rfl⟩
    · exact (tsObj b hb).1
    · exact ⟨ha, by rw [List.length_map]; exact hl, vs, _, rv, ha⟩
  have hS : SqL K H a (ns.map V.int) := by
    cases q : K.lookup a with
    | some o =>
      have e := KX a o q
      rw [ha] at e
      cases e
      exact .inr ⟨_, vs.toArray, _, q, rfl, rfl, rfl, by rw [List.size_toArray, lv]; exact hl, by simpa using rv⟩
    | none =>
      refine .inl (.inr ⟨{ cls := .type "list", data := .seq vs.toArray }, ?_⟩)
      rw [eH]
      unfold H0
      rw [if_neg aTs, if_pos ⟨rfl, by rw [q]; rfl⟩]
  have TB : ∀ p ∈ cs, LamX.TabB (hidT s.heap H) mg p.1 p.2 := fun p hp => by
    have tp := hT p hp
    obtain ⟨o, us, f1, f2, f3, f4, f5, f6, f7, c1, c2, c3, c4, c5, c6, c7, c8, c9, c10⟩ := hC p hp
    obtain ⟨bm, ob, b1, b2, b3, b4, b5, b6⟩ := hbm
    obtain ⟨og, es, ep, g1, g2, g3⟩ := id hg
    have nG : bm ≠ mainGlobals := fun q => by
      rw [q, g1] at b3
      cases b3
      rw [g2] at b6
      cases b6
    have nP : bm ≠ p.2 := fun q => by
      rw [q, tp] at b3
      cases b3
      cases b6
    refine ⟨⟨o, us, f1, f2, f3, f4, f5, f6, f7, hidT_get c1 (un c1 (fun z => ?_) (fun us' n z => ?_)), c2, c3, c4, c5, c6, c7, c8, c9, c10⟩, ⟨bm, ob, b1, b2, nG, nP, hidT_get b3 (un b3 (fun z => ?_) (fun us' n z => ?_)), b4, b5, b6⟩, fun z => ?_⟩
    · rw [c3] at z
      cases z
      simp at c4
    · rw [c3] at z
      cases z
    · rw [b6] at z
      cases z
    · rw [b6] at z
      cases z
    · rw [z, tp] at g1
      cases g1
      cases g2
  have M : L2.Mod K mg (hidT s.heap H) := ⟨KB, nsB hg, ⟨mb, nsB hb, hbb⟩, let ⟨mc, h1, h2⟩ := hlim; ⟨mc, nsB h1, h2⟩⟩
  have e0 : Env0 P w K mg (hidT s.heap H) callerA [] s H := ⟨rfl, M, fun b o e => of_hidT e, Nat.le_of_eq (hidT_size _ _), trivial, (fun b hb => absurd (show b ∈ ([] : List Addr) from hb) (by simp)), hok, .of_eq hgen⟩
  refine codeAny_mono ((F _ KB (nsB hg) TB).run [] s H ⟨[.ref a], []⟩ [.ref a] [.ref a] _ _ e0 (hbind s (.ref a)) (.cons rfl .nil) (hsp H tabs hS)) fun r s' h => ?_
  match r, h with
  | .error e, h => exact (hCX H e s' h).elim
  | .ok .next, h => exact False.elim h
  | .ok .brk, h => exact False.elim h
  | .ok .cont, h => exact False.elim h
  | .ok (.ret u), h =>
    obtain ⟨v, H', os, bare, U, hok', r', q⟩ := h
    obtain rfl : v = .bl true := q
    obtain rfl : u = Value.bool true := r'
    -- what is no table is as it was
    have old : ∀ b o, b ∉ cs.map (·.2) → s.heap.get? b = some o → s'.heap.get? b = some o := fun b o nb e => by
      cases q : H b with
      | none => exact U.keep b o e q (fun z => absurd (show b ∈ ([] : List Addr) from z) (by simp)) (by simp)
      | some u =>
        rcases cases_ q with ⟨hb, _⟩ | ⟨_, _, rfl⟩
        · exact absurd hb nb
        · obtain ⟨e1, _⟩ := hok b _ q
          obtain ⟨e2, _⟩ := hok' b _ (U.frzs b _ _ q)
          rw [e] at e1
          rw [Option.some.inj e1]
          exact e2
    have grown : ∀ p ∈ cs, ∃ more : Array Value, s'.heap.get? p.2 = some { cls := .none, data := .fields more } := fun p hp => by
      obtain ⟨more, z⟩ := U.tbls p.2 #[] (tabs p hp)
      exact ⟨_, hok' p.2 _ z⟩
    refine ⟨rfl, ⟨fun b o e => ?_, fun b o e => ?_⟩, os, bare⟩
    · by_cases hb : b ∈ cs.map (·.2)
      · obtain ⟨p, hp, rfl⟩ := List.mem_map.mp hb
        obtain ⟨more, hm⟩ := grown p hp
        rw [hT p hp] at e
        cases e
        exact .inr (.inl ⟨((hC p hp).tab (hT p hp)).isCodeTable, rfl, #[], more, rfl, by rw [Array.empty_append]; exact hm⟩)
      · exact .inl (old b o hb e)
    · by_cases hb : b ∈ cs.map (·.2)
      · obtain ⟨p, hp, rfl⟩ := List.mem_map.mp hb
        obtain ⟨more, hm⟩ := grown p hp
        exact ⟨_, hm⟩
      · exact ⟨o, old b o hb e⟩
end
/-- what is told of the law at the head's heap h -/
def LawG (l : PySem.W.OpenLaw) (w : World) (K : PySem.W.Frag) (CX : CXT) (n : Nat) (x : Str) (mg : Str → Option Value) (fa : Addr) (h : Heap) : Prop :=
  ∃ (fd : FuncData) (cs : List (Addr × Addr)) (sp : Sp), (∀ p ∈ cs, h.get? p.2 = some { cls := .none, data := .fields #[] }) ∧ (∀ p ∈ cs, K.lookup p.2 = none) ∧ (∀ p ∈ cs, PySem.W.CodeHd h p.1 p.2) ∧ (∀ (s : Shared) (u : Value), BindsTo s fd ⟨[u], []⟩ [(x, u)]) ∧
    (∀ (H : Hp) (a : Addr) (ns : List Int), ns.length ≤ n → (∀ z ∈ ns, Builtin.Int.intBits z ≤ 1048576) → (∀ p ∈ cs, H p.2 = some (.tbl #[])) → SqL K H a (ns.map V.int) → sp [.ref a] H (fun v _ => v = .bl true) fun _ _ _ => False) ∧
    ∀ base : Heap, K.In base → base.Ns mainGlobals mg → (∀ p ∈ cs, LamX.TabB base mg p.1 p.2) → RunA l.prog w K mg base CX callerA fa fd [x] sp
theorem walkG {l : PySem.W.OpenLaw} {n : Nat} {q : Program} {loose : List Str} {XP : (Str → Option Value) → Heap → Prop} {YP : World → Heap → Prop} {d : DefRec} {CX : World → CXT} {x : Str}
    (hn : l.most = some n) (hn2 : n ≤ sizeLine) (hdf : d.params.defaults = [])
    (F : ∀ (w : World) (mg : Str → Option Value) (fa : Addr) (h : Heap), YP w h → h.Ns mainGlobals mg → mg d.name = some (.ref fa) → ∃ K : PySem.W.Frag, K.In h ∧ LawG l w K (CX w) n x mg fa h)
    (hCX : ∀ (w : World) (H : Hp) (s : Shared) (e : Value) (s' : Shared), CX w [] H s (fun _ _ _ => False) e s' → False) :
    PySem.W.WalkO q loose XP YP l.row.toRowW d [] (fun f vs => PySem.call f vs) := by
  refine Att.attach_callB hn hdf fun w s0 s1 mg mb fa o pm cd doc a vs ns G Y ho hd hcd hmg hobj hints hlen hbits hgen => ?_
  obtain ⟨K, KX, fd, cs, sp, hT, nT, hC, hb, hsp, hF⟩ := F w mg fa _ Y G.T.g hmg
  exact law_go KX G.T.g G.T.b G.T.builtins G.T.nolimit hgen hT nT hC G.T.bmain hobj hints (Nat.le_trans hlen hn2) hF hb (fun H h1 h2 => hsp H a ns hlen hbits h1 h2) fun H e s' => hCX w H s1 e s'
end EG
end

section
set_option Elab.async false
set_option linter.all false
set_option maxRecDepth 100000
set_option maxHeartbeats 4000000
/-! Short words of our own over the hand layer. -/
namespace HL
open PySem PySem.Spec PyProof.Rows L2 He
abbrev S (l : List Nat) : Str := ⟨l.toArray⟩
theorem ofq (s : String) : Str.ofString s = S (s.toList.map Char.toNat) := PySem.Str.ofString_eq_toList s
theorem S_inj {a b : List Nat} (h : S a = S b) : a = b := congrArg (fun x : Str => x.cps.toList) h
theorem S_tl (x : Str) : S x.cps.toList = x := TL.mk_tl x
theorem S_len (a : List Nat) : (S a).length = a.length := by simp [S, Str.length]
theorem S_cat (a b : List Nat) : S a ++ S b = S (a ++ b) := TL.ext_tl (TL.tl_append (S a) (S b))
theorem dec_S (a b : List Nat) : decide (V.str (S a) = V.str (S b)) = decide (a = b) := by
  by_cases h : a = b
  · subst h
    simp
  · rw [decide_eq_false h, decide_eq_false]
    intro z
    injection z with z
    exact h (S_inj z)
theorem small {n : Nat} (h : n ≤ 1000000) : n ≤ sizeLine := Nat.le_trans h (by decide)
/-! ### heaps -/
theorem same_new {H : Hp} {p : Addr} {o : HO} (h : H p = none) : Same H (upd H p o) := fun b u e => by
  rw [upd_ne (ne_of_none e h)]
  exact e
theorem Same.new {H0 H : Hp} {p : Addr} {o : HO} (e : Same H0 H) (h : H p = none) : Same H0 (upd H p o) := e.trans (same_new h)
theorem free_of {H0 H : Hp} {p : Addr} (e : Same H0 H) (h : H p = none) : H0 p = none := e.free h
/-- all but what stands at p is as it was -/
def SameB (p : Addr) (H H' : Hp) : Prop := ∀ b o, H b = some o → b ≠ p → H' b = some o
theorem SameB.refl (p : Addr) (H : Hp) : SameB p H H := fun _ _ h _ => h
theorem SameB.trans {p : Addr} {H H1 H2 : Hp} (a : SameB p H H1) (b : SameB p H1 H2) : SameB p H H2 := fun c o h n => b c o (a c o h n) n
theorem SameB.of {p : Addr} {H H' : Hp} (e : Same H H') : SameB p H H' := fun b o h _ => e b o h
theorem SameB.upd {p : Addr} {H H' : Hp} (e : SameB p H H') {o : HO} : SameB p H (upd H' p o) := fun b u h n => by
  rw [upd_ne n]
  exact e b u h n
theorem SameB.new {p q : Addr} {H H' : Hp} (e : SameB p H H') {o : HO} (h : H' q = none) : SameB p H (L2.upd H' q o) := e.trans (.of (same_new h))
/-- a new object may change -/
theorem Same.mut {H H' : Hp} {p : Addr} {o : HO} (e : Same H H') (h : H p = none) : Same H (upd H' p o) := fun b u z => by
  rw [upd_ne (ne_of_none z h)]
  exact e b u z
theorem SameB.mut {r p : Addr} {H H' : Hp} {o : HO} (e : SameB r H H') (h : H p = none) : SameB r H (L2.upd H' p o) := fun b u z n => by
  rw [upd_ne (ne_of_none z h)]
  exact e b u z n
theorem SameB.free {p q : Addr} {H H' : Hp} (e : SameB p H H') (h : H' q = none) (n : q ≠ p) : H q = none := by
  cases z : H q with
  | none => rfl
  | some o =>
    rw [e q o z n] at h
    cases h
/-! ### types -/
theorem tyx_tup {K : PySem.W.Frag} {H : Hp} {a : Addr} {xs : List V} (h : SqT K H a xs) : TyX K H (.ref a) (.type "tuple") := by
  rcases h with (h | ⟨o, h⟩) | ⟨o, its, n, h, c, _⟩
  · exact .base (.tup h)
  · exact .fTuple h
  · exact .kTuple h c
/-- a def of the text, at its place, keeps its promise; how it is called -/
structure Ok (P : Program) (w : World) (K : PySem.W.Frag) (mg : Str → Option Value) (base : Heap) (CX : CXT) (k : Nat) (at_ : Str × Option Str) (ps : List Str) (sp : Sp) : Prop where
  ex : ∃ fd, FnOk P w K mg base CX k (fAd K at_) fd ps sp ∧ Binds K fd ps []
  kp : PySem.W.keepIn K (.ref (fAd K at_)) = true
theorem Ok.imp {P : Program} {w : World} {K : PySem.W.Frag} {mg : Str → Option Value} {base : Heap} {CX : CXT} {k : Nat} {at_ : Str × Option Str} {ps : List Str} {sp sp' : Sp} (O : Ok P w K mg base CX k at_ ps sp) (h : ∀ vs H Q E, sp' vs H Q E → sp vs H Q E) : Ok P w K mg base CX k at_ ps sp' :=
  let ⟨fd, F, b⟩ := O.ex; ⟨⟨fd, F.imp h, b⟩, O.kp⟩
theorem Ok.mono {P : Program} {w : World} {K : PySem.W.Frag} {mg : Str → Option Value} {base : Heap} {CX : CXT} {j k : Nat} {at_ : Str × Option Str} {ps : List Str} {sp : Sp} (O : Ok P w K mg base CX j at_ ps sp) (h : j ≤ k) : Ok P w K mg base CX k at_ ps sp :=
  let ⟨fd, F, b⟩ := O.ex; ⟨⟨fd, F.mono h, b⟩, O.kp⟩
theorem ok_of {P : Program} {w : World} {K : PySem.W.Frag} {mg : Str → Option Value} {base : Heap} {CX : CXT} {k : Nat} {d : DefD} {N ps : List Str} {sp : Sp} (D : ∃ fd, FunD K d.name d.qual d.params d.body d.scope [] [] (fAd K d.at_) fd) (Sc : FnScope N ps d.scope) (len : ∀ vs H Q E, sp vs H Q E → vs.length = ps.length)
    (hb : ∀ (kV doc pm : Value) (an : Option Addr) (cdv ct : Value) (us : List Value), us.length = ps.length → bindArgs (PySem.W.fnOf d.name d.qual d.params d.body d.scope .none kV doc pm an cdv ct) ⟨us, []⟩ = pure (ps.zip us))
    (hbody : ∀ (cdv : Value) (A : Around) (outer : List Env) (s : Shared) (H : Hp) (vs : List V) (Q : VK) (E : XK), Room k (A.deeper (envOfC d.qual d.scope s.heap.objs.size (fAd K d.at_) cdv)) → sp vs H Q E →
      ∃ t, PSs (cxOf CX P w K mg base N d.qual d.scope (fAd K d.at_) cdv A outer s H E) d.body t ∧ t { nx := fun _ H' => Q .non H', rt := Q } (start N vs) H) : Ok P w K mg base CX (k + 1) d.at_ ps sp := by
  obtain ⟨fd, F⟩ := D
  exact ⟨⟨fd, F.ok Sc len hbody, F.bindsN hb⟩, F.kp⟩
/-- for a def that lets nothing out -/
theorem ok_of0 {P : Program} {w : World} {K : PySem.W.Frag} {mg : Str → Option Value} {base : Heap} {k : Nat} {d : DefD} {N ps : List Str} {sp : Sp} (D : ∃ fd, FunD K d.name d.qual d.params d.body d.scope [] [] (fAd K d.at_) fd) (Sc : FnScope N ps d.scope) (len : ∀ vs H Q E, sp vs H Q E → vs.length = ps.length)
    (hb : ∀ (kV doc pm : Value) (an : Option Addr) (cdv ct : Value) (us : List Value), us.length = ps.length → bindArgs (PySem.W.fnOf d.name d.qual d.params d.body d.scope .none kV doc pm an cdv ct) ⟨us, []⟩ = pure (ps.zip us))
    (hbody : ∀ (cdv : Value) (A : Around) (outer : List Env) (s : Shared) (H : Hp) (vs : List V) (Q : VK) (E : XK), Room k (A.deeper (envOfC d.qual d.scope s.heap.objs.size (fAd K d.at_) cdv)) → sp vs H Q E →
      ∃ t, PSs (cxOf CX0 P w K mg base N d.qual d.scope (fAd K d.at_) cdv A outer s H E).nox d.body t ∧ t { nx := fun _ H' => Q .non H', rt := Q } (start N vs) H) : Ok P w K mg base CX0 (k + 1) d.at_ ps sp :=
  ok_of D Sc len hb fun cdv A outer s H vs Q E hr h => let ⟨t, h1, h2⟩ := hbody cdv A outer s H vs Q E hr h; ⟨t, h1.nox, h2⟩
section
variable {X : Cx} {CX : CXT} {k : Nat} {ps : List Str} {sp : Sp} {E : XK} {x c m : Str} {p pos apos : Pos} {e o : Expr} {es : List Expr} {t : TA} {ta : TE}
theorem pe_cal (O : Ok X.prog X.w X.K X.mg X.base CX k (x, none) ps sp) (hr : Room k X.A) (hm : X.mg x = some (.ref (ga X.K x))) (hx : Passes CX X E) (ha : PA X (e :: es) t) (hg : Gl X x := by rfl) (hdb : (x == ("__debug__" : Str)) = false := by decide)
    (he : starEach (e :: es) X.env = (false, eval e X.env) :: starEach es X.env := by rfl) (hpl : (backTo pos (starEach es X.env)).any (·.1) = false := by rfl) :
    PE X (.Call (.Name x p) (e :: es) [] pos) (tCall sp [] E t) := by
  obtain ⟨fd, F, b⟩ := O.ex
  exact pe_call F hr hg hm O.kp b .nil hx ha hdb he hpl
theorem pe_cam {pl : Sem Bool} (O : Ok X.prog X.w X.K X.mg X.base CX k (c, some m) ps sp) (cl : Cls X.K (ga X.K c)) (hm : Meth X.K (ga X.K c) m (ma X.K (ga X.K c) m)) (hr : Room k X.A) (hx : Passes CX X E) (ho : PE X o ta) (ha : PA X (e :: es) t)
    (hst : starEach (e :: es) X.env = (false, eval e X.env) :: starEach es X.env := by rfl) (hpl : (backTo pos (starEach es X.env)).any (·.1) = false := by rfl)
    (ht : eval (.Call (.Attribute o m apos) (e :: es) [] pos) X.env = (do
      let ov ← eval o X.env
      standAt apos.atName
      let (f, first) ← holding [ov] (getMethod ov m pl)
      callWith pos f first (backTo pos (starEach (e :: es) X.env)) (backToKw pos (keywordEach [] X.env))) := by rfl) :
    PE X (.Call (.Attribute o m apos) (e :: es) [] pos) (tMeth (ga X.K c) m sp [] E ta t) := by
  obtain ⟨fd, F, b⟩ := O.ex
  exact pe_meth ho cl hm F hr b .nil hx ha hst hpl ht
theorem pe_cam0 {pl : Sem Bool} (O : Ok X.prog X.w X.K X.mg X.base CX k (c, some m) ps sp) (cl : Cls X.K (ga X.K c)) (hm : Meth X.K (ga X.K c) m (ma X.K (ga X.K c) m)) (hr : Room k X.A) (hx : Passes CX X E) (ho : PE X o ta)
    (ht : eval (.Call (.Attribute o m apos) [] [] pos) X.env = (do
      let ov ← eval o X.env
      standAt apos.atName
      let (f, first) ← holding [ov] (getMethod ov m pl)
      callWith pos f first (backTo pos (starEach [] X.env)) (backToKw pos (keywordEach [] X.env))) := by rfl) :
    PE X (.Call (.Attribute o m apos) [] [] pos) (tMeth (ga X.K c) m sp [] E ta tNil) := by
  obtain ⟨fd, F, b⟩ := O.ex
  exact pe_meth0 ho cl hm F hr b .nil hx ht
/-- x(e, ..), x an own class with __init__ -/
theorem pe_cak (O : Ok X.prog X.w X.K X.mg X.base CX k (c, some "__init__") ps sp) (M : Mk X.K (ga X.K c) (ma X.K (ga X.K c) "__init__")) (hr : Room (k + 1) X.A) (hm : X.mg c = some (.ref (ga X.K c))) (hx : Passes CX X E) (ha : PA X (e :: es) t) (hg : Gl X c := by rfl) (hdb : (c == ("__debug__" : Str)) = false := by decide)
    (he : starEach (e :: es) X.env = (false, eval e X.env) :: starEach es X.env := by rfl) (hpl : (backTo pos (starEach es X.env)).any (·.1) = false := by rfl) :
    PE X (.Call (.Name c p) (e :: es) [] pos) (tMake (ga X.K c) sp [] E t) := by
  obtain ⟨fd, F, b⟩ := O.ex
  exact pe_make M F hr hg hm b .nil hx ha hdb he hpl
end
end HL
end

section
set_option Elab.async false
set_option linter.all false
set_option maxRecDepth 100000
/-! Names for what the head tells. Printed by genfacts.py. -/
namespace K93
open PySem PySem.Spec PyProof.Rows L2 He
/-- what the walks lean on -/
structure Wl (K : PySem.W.Frag) (mg : Str → Option Value) : Prop where
  ex : ∃ (w : World) (h : Heap), K.In h ∧ h.Ns mainGlobals mg ∧ HZ.SaysZ fa fn tf xs pl ks "/claim/cut.py" w h K
section
variable {K : PySem.W.Frag} {mg : Str → Option Value}
theorem Wl.fact (W : Wl K mg) (i : Nat) {f : Fa} (h : fa[i]? = some f := by rfl) : f.ok K = true := let ⟨_, _, _, _, c⟩ := W.ex; c.y.d.fact i h
theorem Wl.g_AloneError (W : Wl K mg) : mg "AloneError" = some (.ref (ga K "AloneError")) := let ⟨_, _, X, G, _⟩ := W.ex; glo_ok X G (W.fact 0)
theorem Wl.g_Wrong (W : Wl K mg) : mg "Wrong" = some (.ref (ga K "Wrong")) := let ⟨_, _, X, G, _⟩ := W.ex; glo_ok X G (W.fact 1)
theorem Wl.g_NoFact (W : Wl K mg) : mg "NoFact" = some (.ref (ga K "NoFact")) := let ⟨_, _, X, G, _⟩ := W.ex; glo_ok X G (W.fact 2)
theorem Wl.g_TooMany (W : Wl K mg) : mg "TooMany" = some (.ref (ga K "TooMany")) := let ⟨_, _, X, G, _⟩ := W.ex; glo_ok X G (W.fact 3)
theorem Wl.g_NoText (W : Wl K mg) : mg "NoText" = some (.ref (ga K "NoText")) := let ⟨_, _, X, G, _⟩ := W.ex; glo_ok X G (W.fact 4)
theorem Wl.g_is_integer (W : Wl K mg) : mg "is_integer" = some (.ref (ga K "is_integer")) := let ⟨_, _, X, G, _⟩ := W.ex; glo_ok X G (W.fact 5)
theorem Wl.g_is_name (W : Wl K mg) : mg "is_name" = some (.ref (ga K "is_name")) := let ⟨_, _, X, G, _⟩ := W.ex; glo_ok X G (W.fact 6)
theorem Wl.g_is_condition (W : Wl K mg) : mg "is_condition" = some (.ref (ga K "is_condition")) := let ⟨_, _, X, G, _⟩ := W.ex; glo_ok X G (W.fact 7)
theorem Wl.g_below (W : Wl K mg) : mg "below" = some (.ref (ga K "below")) := let ⟨_, _, X, G, _⟩ := W.ex; glo_ok X G (W.fact 8)
theorem Wl.g_asks_listed (W : Wl K mg) : mg "asks_listed" = some (.ref (ga K "asks_listed")) := let ⟨_, _, X, G, _⟩ := W.ex; glo_ok X G (W.fact 9)
theorem Wl.g_asks_in (W : Wl K mg) : mg "asks_in" = some (.ref (ga K "asks_in")) := let ⟨_, _, X, G, _⟩ := W.ex; glo_ok X G (W.fact 10)
theorem Wl.g_asks_only (W : Wl K mg) : mg "asks_only" = some (.ref (ga K "asks_only")) := let ⟨_, _, X, G, _⟩ := W.ex; glo_ok X G (W.fact 11)
theorem Wl.g_is_fact (W : Wl K mg) : mg "is_fact" = some (.ref (ga K "is_fact")) := let ⟨_, _, X, G, _⟩ := W.ex; glo_ok X G (W.fact 12)
theorem Wl.g_are_told_names (W : Wl K mg) : mg "are_told_names" = some (.ref (ga K "are_told_names")) := let ⟨_, _, X, G, _⟩ := W.ex; glo_ok X G (W.fact 13)
theorem Wl.g_Facts (W : Wl K mg) : mg "Facts" = some (.ref (ga K "Facts")) := let ⟨_, _, X, G, _⟩ := W.ex; glo_ok X G (W.fact 14)
theorem Wl.g_show_condition (W : Wl K mg) : mg "show_condition" = some (.ref (ga K "show_condition")) := let ⟨_, _, X, G, _⟩ := W.ex; glo_ok X G (W.fact 15)
theorem Wl.g_show_fact (W : Wl K mg) : mg "show_fact" = some (.ref (ga K "show_fact")) := let ⟨_, _, X, G, _⟩ := W.ex; glo_ok X G (W.fact 16)
theorem Wl.g_show_facts (W : Wl K mg) : mg "show_facts" = some (.ref (ga K "show_facts")) := let ⟨_, _, X, G, _⟩ := W.ex; glo_ok X G (W.fact 17)
theorem Wl.g_need_text (W : Wl K mg) : mg "need_text" = some (.ref (ga K "need_text")) := let ⟨_, _, X, G, _⟩ := W.ex; glo_ok X G (W.fact 18)
theorem Wl.g_need (W : Wl K mg) : mg "need" = some (.ref (ga K "need")) := let ⟨_, _, X, G, _⟩ := W.ex; glo_ok X G (W.fact 19)
theorem Wl.g_Reader (W : Wl K mg) : mg "Reader" = some (.ref (ga K "Reader")) := let ⟨_, _, X, G, _⟩ := W.ex; glo_ok X G (W.fact 20)
theorem Wl.g_read_fact (W : Wl K mg) : mg "read_fact" = some (.ref (ga K "read_fact")) := let ⟨_, _, X, G, _⟩ := W.ex; glo_ok X G (W.fact 21)
theorem Wl.g_made_by (W : Wl K mg) : mg "made_by" = some (.ref (ga K "made_by")) := let ⟨_, _, X, G, _⟩ := W.ex; glo_ok X G (W.fact 22)
theorem Wl.g_read_facts (W : Wl K mg) : mg "read_facts" = some (.ref (ga K "read_facts")) := let ⟨_, _, X, G, _⟩ := W.ex; glo_ok X G (W.fact 23)
theorem Wl.g__law_bag (W : Wl K mg) : mg "_law_bag" = some (.ref (ga K "_law_bag")) := let ⟨_, _, X, G, _⟩ := W.ex; glo_ok X G (W.fact 24)
theorem Wl.g__law_take (W : Wl K mg) : mg "_law_take" = some (.ref (ga K "_law_take")) := let ⟨_, _, X, G, _⟩ := W.ex; glo_ok X G (W.fact 25)
theorem Wl.g__law_one (W : Wl K mg) : mg "_law_one" = some (.ref (ga K "_law_one")) := let ⟨_, _, X, G, _⟩ := W.ex; glo_ok X G (W.fact 26)
theorem Wl.g__law_mixed (W : Wl K mg) : mg "_law_mixed" = some (.ref (ga K "_law_mixed")) := let ⟨_, _, X, G, _⟩ := W.ex; glo_ok X G (W.fact 27)
theorem Wl.g__law_names (W : Wl K mg) : mg "_law_names" = some (.ref (ga K "_law_names")) := let ⟨_, _, X, G, _⟩ := W.ex; glo_ok X G (W.fact 28)
theorem Wl.g__law_condition (W : Wl K mg) : mg "_law_condition" = some (.ref (ga K "_law_condition")) := let ⟨_, _, X, G, _⟩ := W.ex; glo_ok X G (W.fact 29)
theorem Wl.g__law_told (W : Wl K mg) : mg "_law_told" = some (.ref (ga K "_law_told")) := let ⟨_, _, X, G, _⟩ := W.ex; glo_ok X G (W.fact 30)
theorem Wl.g__law_is_name (W : Wl K mg) : mg "_law_is_name" = some (.ref (ga K "_law_is_name")) := let ⟨_, _, X, G, _⟩ := W.ex; glo_ok X G (W.fact 31)
theorem Wl.g__law_are_names (W : Wl K mg) : mg "_law_are_names" = some (.ref (ga K "_law_are_names")) := let ⟨_, _, X, G, _⟩ := W.ex; glo_ok X G (W.fact 32)
theorem Wl.g__law_asks_in (W : Wl K mg) : mg "_law_asks_in" = some (.ref (ga K "_law_asks_in")) := let ⟨_, _, X, G, _⟩ := W.ex; glo_ok X G (W.fact 33)
theorem Wl.g__law_condition_text (W : Wl K mg) : mg "_law_condition_text" = some (.ref (ga K "_law_condition_text")) := let ⟨_, _, X, G, _⟩ := W.ex; glo_ok X G (W.fact 34)
theorem Wl.g__law_fact_text (W : Wl K mg) : mg "_law_fact_text" = some (.ref (ga K "_law_fact_text")) := let ⟨_, _, X, G, _⟩ := W.ex; glo_ok X G (W.fact 35)
theorem Wl.g__law_facts_text (W : Wl K mg) : mg "_law_facts_text" = some (.ref (ga K "_law_facts_text")) := let ⟨_, _, X, G, _⟩ := W.ex; glo_ok X G (W.fact 36)
theorem Wl.g__law_name_at (W : Wl K mg) : mg "_law_name_at" = some (.ref (ga K "_law_name_at")) := let ⟨_, _, X, G, _⟩ := W.ex; glo_ok X G (W.fact 37)
theorem Wl.g__law_conditions_at (W : Wl K mg) : mg "_law_conditions_at" = some (.ref (ga K "_law_conditions_at")) := let ⟨_, _, X, G, _⟩ := W.ex; glo_ok X G (W.fact 38)
theorem Wl.g__law_condition_at (W : Wl K mg) : mg "_law_condition_at" = some (.ref (ga K "_law_condition_at")) := let ⟨_, _, X, G, _⟩ := W.ex; glo_ok X G (W.fact 39)
theorem Wl.g__law_whole (W : Wl K mg) : mg "_law_whole" = some (.ref (ga K "_law_whole")) := let ⟨_, _, X, G, _⟩ := W.ex; glo_ok X G (W.fact 40)
theorem Wl.g__law_spoilt (W : Wl K mg) : mg "_law_spoilt" = some (.ref (ga K "_law_spoilt")) := let ⟨_, _, X, G, _⟩ := W.ex; glo_ok X G (W.fact 41)
theorem Wl.g__law_read (W : Wl K mg) : mg "_law_read" = some (.ref (ga K "_law_read")) := let ⟨_, _, X, G, _⟩ := W.ex; glo_ok X G (W.fact 42)
theorem Wl.g__law_bent_lines (W : Wl K mg) : mg "_law_bent_lines" = some (.ref (ga K "_law_bent_lines")) := let ⟨_, _, X, G, _⟩ := W.ex; glo_ok X G (W.fact 43)
theorem Wl.g__law_names_read (W : Wl K mg) : mg "_law_names_read" = some (.ref (ga K "_law_names_read")) := let ⟨_, _, X, G, _⟩ := W.ex; glo_ok X G (W.fact 44)
theorem Wl.g__law_fact_line (W : Wl K mg) : mg "_law_fact_line" = some (.ref (ga K "_law_fact_line")) := let ⟨_, _, X, G, _⟩ := W.ex; glo_ok X G (W.fact 45)
theorem Wl.g__law_facts_read (W : Wl K mg) : mg "_law_facts_read" = some (.ref (ga K "_law_facts_read")) := let ⟨_, _, X, G, _⟩ := W.ex; glo_ok X G (W.fact 46)
theorem Wl.g__law_text (W : Wl K mg) : mg "_law_text" = some (.ref (ga K "_law_text")) := let ⟨_, _, X, G, _⟩ := W.ex; glo_ok X G (W.fact 47)
theorem Wl.g_law (W : Wl K mg) : mg "law" = some (.ref (ga K "law")) := let ⟨_, _, X, G, _⟩ := W.ex; glo_ok X G (W.fact 48)
theorem Wl.f_ValueError (W : Wl K mg) : mg "ValueError" = none := let ⟨_, _, X, G, _⟩ := W.ex; free_ok X G (W.fact 49)
theorem Wl.f_abs (W : Wl K mg) : mg "abs" = none := let ⟨_, _, X, G, _⟩ := W.ex; free_ok X G (W.fact 50)
theorem Wl.f_all (W : Wl K mg) : mg "all" = none := let ⟨_, _, X, G, _⟩ := W.ex; free_ok X G (W.fact 51)
theorem Wl.f_bool (W : Wl K mg) : mg "bool" = none := let ⟨_, _, X, G, _⟩ := W.ex; free_ok X G (W.fact 52)
theorem Wl.f_classmethod (W : Wl K mg) : mg "classmethod" = none := let ⟨_, _, X, G, _⟩ := W.ex; free_ok X G (W.fact 53)
theorem Wl.f_int (W : Wl K mg) : mg "int" = none := let ⟨_, _, X, G, _⟩ := W.ex; free_ok X G (W.fact 54)
theorem Wl.f_isinstance (W : Wl K mg) : mg "isinstance" = none := let ⟨_, _, X, G, _⟩ := W.ex; free_ok X G (W.fact 55)
theorem Wl.f_iter (W : Wl K mg) : mg "iter" = none := let ⟨_, _, X, G, _⟩ := W.ex; free_ok X G (W.fact 56)
theorem Wl.f_len (W : Wl K mg) : mg "len" = none := let ⟨_, _, X, G, _⟩ := W.ex; free_ok X G (W.fact 57)
theorem Wl.f_list (W : Wl K mg) : mg "list" = none := let ⟨_, _, X, G, _⟩ := W.ex; free_ok X G (W.fact 58)
theorem Wl.f_property (W : Wl K mg) : mg "property" = none := let ⟨_, _, X, G, _⟩ := W.ex; free_ok X G (W.fact 59)
theorem Wl.f_range (W : Wl K mg) : mg "range" = none := let ⟨_, _, X, G, _⟩ := W.ex; free_ok X G (W.fact 60)
theorem Wl.f_set (W : Wl K mg) : mg "set" = none := let ⟨_, _, X, G, _⟩ := W.ex; free_ok X G (W.fact 61)
theorem Wl.f_sorted (W : Wl K mg) : mg "sorted" = none := let ⟨_, _, X, G, _⟩ := W.ex; free_ok X G (W.fact 62)
theorem Wl.f_str (W : Wl K mg) : mg "str" = none := let ⟨_, _, X, G, _⟩ := W.ex; free_ok X G (W.fact 63)
theorem Wl.f_super (W : Wl K mg) : mg "super" = none := let ⟨_, _, X, G, _⟩ := W.ex; free_ok X G (W.fact 64)
theorem Wl.f_tuple (W : Wl K mg) : mg "tuple" = none := let ⟨_, _, X, G, _⟩ := W.ex; free_ok X G (W.fact 65)
theorem Wl.c_LETTERS (W : Wl K mg) : ∃ t, mg "LETTERS" = some (.str "abcdefghijklmnopqrstuvwxyz" t) := let ⟨_, _, X, G, _⟩ := W.ex; str_ok X G (W.fact 66)
theorem Wl.c_LONGEST_NAME (W : Wl K mg) : ∃ t, mg "LONGEST_NAME" = some (.int 8 t) := let ⟨_, _, X, G, _⟩ := W.ex; int_ok X G (W.fact 67)
theorem Wl.c_MOST_ASKS (W : Wl K mg) : ∃ t, mg "MOST_ASKS" = some (.int 4 t) := let ⟨_, _, X, G, _⟩ := W.ex; int_ok X G (W.fact 68)
theorem Wl.c_MOST_STEPS (W : Wl K mg) : ∃ t, mg "MOST_STEPS" = some (.int 5 t) := let ⟨_, _, X, G, _⟩ := W.ex; int_ok X G (W.fact 69)
theorem Wl.c_MOST_FACTS (W : Wl K mg) : ∃ t, mg "MOST_FACTS" = some (.int 24 t) := let ⟨_, _, X, G, _⟩ := W.ex; int_ok X G (W.fact 70)
theorem Wl.k_Facts (W : Wl K mg) : Cls K (ga K "Facts") := cls_ok (W.fact 71)
theorem Wl.mk_Facts (W : Wl K mg) : Mk K (ga K "Facts") (ma K (ga K "Facts") "__init__") := mkr_ok (W.fact 72)
theorem Wl.n_Facts_its_asks (W : Wl K mg) : NoAttr K (ga K "Facts") "its_asks" := noat_ok (W.fact 73)
theorem Wl.n_Facts_its_steps (W : Wl K mg) : NoAttr K (ga K "Facts") "its_steps" := noat_ok (W.fact 74)
theorem Wl.n_Facts_its_told (W : Wl K mg) : NoAttr K (ga K "Facts") "its_told" := noat_ok (W.fact 75)
theorem Wl.k_Reader (W : Wl K mg) : Cls K (ga K "Reader") := cls_ok (W.fact 76)
theorem Wl.mk_Reader (W : Wl K mg) : Mk K (ga K "Reader") (ma K (ga K "Reader") "__init__") := mkr_ok (W.fact 77)
theorem Wl.n_Reader_its_place (W : Wl K mg) : NoAttr K (ga K "Reader") "its_place" := noat_ok (W.fact 78)
theorem Wl.n_Reader_its_text (W : Wl K mg) : NoAttr K (ga K "Reader") "its_text" := noat_ok (W.fact 79)
theorem Wl.m_Reader_takes (W : Wl K mg) : Meth K (ga K "Reader") "takes" (ma K (ga K "Reader") "takes") := meth_ok (W.fact 80)
theorem Wl.m_Reader_needs (W : Wl K mg) : Meth K (ga K "Reader") "needs" (ma K (ga K "Reader") "needs") := meth_ok (W.fact 81)
theorem Wl.m_Reader_signs (W : Wl K mg) : Meth K (ga K "Reader") "signs" (ma K (ga K "Reader") "signs") := meth_ok (W.fact 82)
theorem Wl.m_Reader_word_here (W : Wl K mg) : Meth K (ga K "Reader") "word_here" (ma K (ga K "Reader") "word_here") := meth_ok (W.fact 83)
theorem Wl.m_Reader_several (W : Wl K mg) : Meth K (ga K "Reader") "several" (ma K (ga K "Reader") "several") := meth_ok (W.fact 84)
theorem Wl.m_Reader_condition_here (W : Wl K mg) : Meth K (ga K "Reader") "condition_here" (ma K (ga K "Reader") "condition_here") := meth_ok (W.fact 85)
theorem Wl.m_Reader_fact_here (W : Wl K mg) : Meth K (ga K "Reader") "fact_here" (ma K (ga K "Reader") "fact_here") := meth_ok (W.fact 86)
theorem Wl.x_Wrong_AloneError (W : Wl K mg) : PySem.W.exmOne K (.ref (ga K "Wrong")) (.ref (ga K "AloneError")) = some true := exm_ok (W.fact 87)
theorem Wl.x_NoFact_AloneError (W : Wl K mg) : PySem.W.exmOne K (.ref (ga K "NoFact")) (.ref (ga K "AloneError")) = some true := exm_ok (W.fact 88)
theorem Wl.x_TooMany_AloneError (W : Wl K mg) : PySem.W.exmOne K (.ref (ga K "TooMany")) (.ref (ga K "AloneError")) = some true := exm_ok (W.fact 89)
theorem Wl.x_NoText_AloneError (W : Wl K mg) : PySem.W.exmOne K (.ref (ga K "NoText")) (.ref (ga K "AloneError")) = some true := exm_ok (W.fact 90)
theorem Wl.n_Wrong_place (W : Wl K mg) : NoAttr K (ga K "Wrong") "place" := noat_ok (W.fact 91)
theorem Wl.n_NoFact_index (W : Wl K mg) : NoAttr K (ga K "NoFact") "index" := noat_ok (W.fact 92)
theorem Wl.n_TooMany_limit (W : Wl K mg) : NoAttr K (ga K "TooMany") "limit" := noat_ok (W.fact 93)
theorem Wl.D_is_integer (W : Wl K mg) : ∃ fd, FunD K d_is_integer.name d_is_integer.qual d_is_integer.params d_is_integer.body d_is_integer.scope [] [] (fAd K d_is_integer.at_) fd := let ⟨_, _, _, _, c⟩ := W.ex; c.y.d.def_ 0 (d := d_is_integer)
theorem Wl.D_is_name (W : Wl K mg) : ∃ fd, FunD K d_is_name.name d_is_name.qual d_is_name.params d_is_name.body d_is_name.scope [] [] (fAd K d_is_name.at_) fd := let ⟨_, _, _, _, c⟩ := W.ex; c.y.d.def_ 1 (d := d_is_name)
theorem Wl.D_is_condition (W : Wl K mg) : ∃ fd, FunD K d_is_condition.name d_is_condition.qual d_is_condition.params d_is_condition.body d_is_condition.scope [] [] (fAd K d_is_condition.at_) fd := let ⟨_, _, _, _, c⟩ := W.ex; c.y.d.def_ 2 (d := d_is_condition)
theorem Wl.D_below (W : Wl K mg) : ∃ fd, FunD K d_below.name d_below.qual d_below.params d_below.body d_below.scope [] [] (fAd K d_below.at_) fd := let ⟨_, _, _, _, c⟩ := W.ex; c.y.d.def_ 3 (d := d_below)
theorem Wl.D_asks_listed (W : Wl K mg) : ∃ fd, FunD K d_asks_listed.name d_asks_listed.qual d_asks_listed.params d_asks_listed.body d_asks_listed.scope [] [] (fAd K d_asks_listed.at_) fd := let ⟨_, _, _, _, c⟩ := W.ex; c.y.d.def_ 4 (d := d_asks_listed)
theorem Wl.D_asks_in (W : Wl K mg) : ∃ fd, FunD K d_asks_in.name d_asks_in.qual d_asks_in.params d_asks_in.body d_asks_in.scope [] [] (fAd K d_asks_in.at_) fd := let ⟨_, _, _, _, c⟩ := W.ex; c.y.d.def_ 5 (d := d_asks_in)
theorem Wl.D_asks_only (W : Wl K mg) : ∃ fd, FunD K d_asks_only.name d_asks_only.qual d_asks_only.params d_asks_only.body d_asks_only.scope [] [] (fAd K d_asks_only.at_) fd := let ⟨_, _, _, _, c⟩ := W.ex; c.y.d.def_ 6 (d := d_asks_only)
theorem Wl.D_is_fact (W : Wl K mg) : ∃ fd, FunD K d_is_fact.name d_is_fact.qual d_is_fact.params d_is_fact.body d_is_fact.scope [] [] (fAd K d_is_fact.at_) fd := let ⟨_, _, _, _, c⟩ := W.ex; c.y.d.def_ 7 (d := d_is_fact)
theorem Wl.D_are_told_names (W : Wl K mg) : ∃ fd, FunD K d_are_told_names.name d_are_told_names.qual d_are_told_names.params d_are_told_names.body d_are_told_names.scope [] [] (fAd K d_are_told_names.at_) fd := let ⟨_, _, _, _, c⟩ := W.ex; c.y.d.def_ 8 (d := d_are_told_names)
theorem Wl.D_Facts_init (W : Wl K mg) : ∃ fd, FunD K d_Facts_init.name d_Facts_init.qual d_Facts_init.params d_Facts_init.body d_Facts_init.scope (d_Facts_init.dvs K) (d_Facts_init.kws K) (fAd K d_Facts_init.at_) fd := let ⟨_, _, _, _, c⟩ := W.ex; c.y.d.def_ 9 (d := d_Facts_init)
theorem Wl.D_show_condition (W : Wl K mg) : ∃ fd, FunD K d_show_condition.name d_show_condition.qual d_show_condition.params d_show_condition.body d_show_condition.scope [] [] (fAd K d_show_condition.at_) fd := let ⟨_, _, _, _, c⟩ := W.ex; c.y.d.def_ 10 (d := d_show_condition)
theorem Wl.D_show_fact (W : Wl K mg) : ∃ fd, FunD K d_show_fact.name d_show_fact.qual d_show_fact.params d_show_fact.body d_show_fact.scope [] [] (fAd K d_show_fact.at_) fd := let ⟨_, _, _, _, c⟩ := W.ex; c.y.d.def_ 11 (d := d_show_fact)
theorem Wl.D_show_facts (W : Wl K mg) : ∃ fd, FunD K d_show_facts.name d_show_facts.qual d_show_facts.params d_show_facts.body d_show_facts.scope [] [] (fAd K d_show_facts.at_) fd := let ⟨_, _, _, _, c⟩ := W.ex; c.y.d.def_ 12 (d := d_show_facts)
theorem Wl.D_need_text (W : Wl K mg) : ∃ fd, FunD K d_need_text.name d_need_text.qual d_need_text.params d_need_text.body d_need_text.scope [] [] (fAd K d_need_text.at_) fd := let ⟨_, _, _, _, c⟩ := W.ex; c.y.d.def_ 13 (d := d_need_text)
theorem Wl.D_need (W : Wl K mg) : ∃ fd, FunD K d_need.name d_need.qual d_need.params d_need.body d_need.scope [] [] (fAd K d_need.at_) fd := let ⟨_, _, _, _, c⟩ := W.ex; c.y.d.def_ 14 (d := d_need)
theorem Wl.D_Reader_init (W : Wl K mg) : ∃ fd, FunD K d_Reader_init.name d_Reader_init.qual d_Reader_init.params d_Reader_init.body d_Reader_init.scope [] [] (fAd K d_Reader_init.at_) fd := let ⟨_, _, _, _, c⟩ := W.ex; c.y.d.def_ 15 (d := d_Reader_init)
theorem Wl.D_Reader_takes (W : Wl K mg) : ∃ fd, FunD K d_Reader_takes.name d_Reader_takes.qual d_Reader_takes.params d_Reader_takes.body d_Reader_takes.scope [] [] (fAd K d_Reader_takes.at_) fd := let ⟨_, _, _, _, c⟩ := W.ex; c.y.d.def_ 16 (d := d_Reader_takes)
theorem Wl.D_Reader_needs (W : Wl K mg) : ∃ fd, FunD K d_Reader_needs.name d_Reader_needs.qual d_Reader_needs.params d_Reader_needs.body d_Reader_needs.scope [] [] (fAd K d_Reader_needs.at_) fd := let ⟨_, _, _, _, c⟩ := W.ex; c.y.d.def_ 17 (d := d_Reader_needs)
theorem Wl.D_Reader_signs (W : Wl K mg) : ∃ fd, FunD K d_Reader_signs.name d_Reader_signs.qual d_Reader_signs.params d_Reader_signs.body d_Reader_signs.scope [] [] (fAd K d_Reader_signs.at_) fd := let ⟨_, _, _, _, c⟩ := W.ex; c.y.d.def_ 18 (d := d_Reader_signs)
theorem Wl.D_Reader_word_here (W : Wl K mg) : ∃ fd, FunD K d_Reader_word_here.name d_Reader_word_here.qual d_Reader_word_here.params d_Reader_word_here.body d_Reader_word_here.scope [] [] (fAd K d_Reader_word_here.at_) fd := let ⟨_, _, _, _, c⟩ := W.ex; c.y.d.def_ 19 (d := d_Reader_word_here)
theorem Wl.D_Reader_several (W : Wl K mg) : ∃ fd, FunD K d_Reader_several.name d_Reader_several.qual d_Reader_several.params d_Reader_several.body d_Reader_several.scope [] [] (fAd K d_Reader_several.at_) fd := let ⟨_, _, _, _, c⟩ := W.ex; c.y.d.def_ 20 (d := d_Reader_several)
theorem Wl.D_Reader_condition_here (W : Wl K mg) : ∃ fd, FunD K d_Reader_condition_here.name d_Reader_condition_here.qual d_Reader_condition_here.params d_Reader_condition_here.body d_Reader_condition_here.scope [] [] (fAd K d_Reader_condition_here.at_) fd := let ⟨_, _, _, _, c⟩ := W.ex; c.y.d.def_ 21 (d := d_Reader_condition_here)
theorem Wl.D_Reader_fact_here (W : Wl K mg) : ∃ fd, FunD K d_Reader_fact_here.name d_Reader_fact_here.qual d_Reader_fact_here.params d_Reader_fact_here.body d_Reader_fact_here.scope [] [] (fAd K d_Reader_fact_here.at_) fd := let ⟨_, _, _, _, c⟩ := W.ex; c.y.d.def_ 22 (d := d_Reader_fact_here)
theorem Wl.D_read_fact (W : Wl K mg) : ∃ fd, FunD K d_read_fact.name d_read_fact.qual d_read_fact.params d_read_fact.body d_read_fact.scope [] [] (fAd K d_read_fact.at_) fd := let ⟨_, _, _, _, c⟩ := W.ex; c.y.d.def_ 23 (d := d_read_fact)
theorem Wl.D_made_by (W : Wl K mg) : ∃ fd, FunD K d_made_by.name d_made_by.qual d_made_by.params d_made_by.body d_made_by.scope [] [] (fAd K d_made_by.at_) fd := let ⟨_, _, _, _, c⟩ := W.ex; c.y.d.def_ 24 (d := d_made_by)
theorem Wl.D_read_facts (W : Wl K mg) : ∃ fd, FunD K d_read_facts.name d_read_facts.qual d_read_facts.params d_read_facts.body d_read_facts.scope [] [] (fAd K d_read_facts.at_) fd := let ⟨_, _, _, _, c⟩ := W.ex; c.y.d.def_ 25 (d := d_read_facts)
theorem Wl.D_law_bag (W : Wl K mg) : ∃ fd, FunD K d_law_bag.name d_law_bag.qual d_law_bag.params d_law_bag.body d_law_bag.scope [] [] (fAd K d_law_bag.at_) fd := let ⟨_, _, _, _, c⟩ := W.ex; c.y.d.def_ 26 (d := d_law_bag)
theorem Wl.D_law_take (W : Wl K mg) : ∃ fd, FunD K d_law_take.name d_law_take.qual d_law_take.params d_law_take.body d_law_take.scope [] [] (fAd K d_law_take.at_) fd := let ⟨_, _, _, _, c⟩ := W.ex; c.y.d.def_ 27 (d := d_law_take)
theorem Wl.D_law_one (W : Wl K mg) : ∃ fd, FunD K d_law_one.name d_law_one.qual d_law_one.params d_law_one.body d_law_one.scope [] [] (fAd K d_law_one.at_) fd := let ⟨_, _, _, _, c⟩ := W.ex; c.y.d.def_ 28 (d := d_law_one)
theorem Wl.D_law_mixed (W : Wl K mg) : ∃ fd, FunD K d_law_mixed.name d_law_mixed.qual d_law_mixed.params d_law_mixed.body d_law_mixed.scope [] [] (fAd K d_law_mixed.at_) fd := let ⟨_, _, _, _, c⟩ := W.ex; c.y.d.def_ 29 (d := d_law_mixed)
theorem Wl.D_law_names (W : Wl K mg) : ∃ fd, FunD K d_law_names.name d_law_names.qual d_law_names.params d_law_names.body d_law_names.scope [] [] (fAd K d_law_names.at_) fd := let ⟨_, _, _, _, c⟩ := W.ex; c.y.d.def_ 30 (d := d_law_names)
theorem Wl.D_law_condition (W : Wl K mg) : ∃ fd, FunD K d_law_condition.name d_law_condition.qual d_law_condition.params d_law_condition.body d_law_condition.scope [] [] (fAd K d_law_condition.at_) fd := let ⟨_, _, _, _, c⟩ := W.ex; c.y.d.def_ 31 (d := d_law_condition)
theorem Wl.D_law_told (W : Wl K mg) : ∃ fd, FunD K d_law_told.name d_law_told.qual d_law_told.params d_law_told.body d_law_told.scope [] [] (fAd K d_law_told.at_) fd := let ⟨_, _, _, _, c⟩ := W.ex; c.y.d.def_ 32 (d := d_law_told)
theorem Wl.D_law_is_name (W : Wl K mg) : ∃ fd, FunD K d_law_is_name.name d_law_is_name.qual d_law_is_name.params d_law_is_name.body d_law_is_name.scope [] [] (fAd K d_law_is_name.at_) fd := let ⟨_, _, _, _, c⟩ := W.ex; c.y.d.def_ 33 (d := d_law_is_name)
theorem Wl.D_law_are_names (W : Wl K mg) : ∃ fd, FunD K d_law_are_names.name d_law_are_names.qual d_law_are_names.params d_law_are_names.body d_law_are_names.scope [] [] (fAd K d_law_are_names.at_) fd := let ⟨_, _, _, _, c⟩ := W.ex; c.y.d.def_ 34 (d := d_law_are_names)
theorem Wl.D_law_asks_in (W : Wl K mg) : ∃ fd, FunD K d_law_asks_in.name d_law_asks_in.qual d_law_asks_in.params d_law_asks_in.body d_law_asks_in.scope [] [] (fAd K d_law_asks_in.at_) fd := let ⟨_, _, _, _, c⟩ := W.ex; c.y.d.def_ 35 (d := d_law_asks_in)
theorem Wl.D_law_condition_text (W : Wl K mg) : ∃ fd, FunD K d_law_condition_text.name d_law_condition_text.qual d_law_condition_text.params d_law_condition_text.body d_law_condition_text.scope [] [] (fAd K d_law_condition_text.at_) fd := let ⟨_, _, _, _, c⟩ := W.ex; c.y.d.def_ 36 (d := d_law_condition_text)
theorem Wl.D_law_fact_text (W : Wl K mg) : ∃ fd, FunD K d_law_fact_text.name d_law_fact_text.qual d_law_fact_text.params d_law_fact_text.body d_law_fact_text.scope [] [] (fAd K d_law_fact_text.at_) fd := let ⟨_, _, _, _, c⟩ := W.ex; c.y.d.def_ 37 (d := d_law_fact_text)
theorem Wl.D_law_facts_text (W : Wl K mg) : ∃ fd, FunD K d_law_facts_text.name d_law_facts_text.qual d_law_facts_text.params d_law_facts_text.body d_law_facts_text.scope [] [] (fAd K d_law_facts_text.at_) fd := let ⟨_, _, _, _, c⟩ := W.ex; c.y.d.def_ 38 (d := d_law_facts_text)
theorem Wl.D_law_name_at (W : Wl K mg) : ∃ fd, FunD K d_law_name_at.name d_law_name_at.qual d_law_name_at.params d_law_name_at.body d_law_name_at.scope [] [] (fAd K d_law_name_at.at_) fd := let ⟨_, _, _, _, c⟩ := W.ex; c.y.d.def_ 39 (d := d_law_name_at)
theorem Wl.D_law_conditions_at (W : Wl K mg) : ∃ fd, FunD K d_law_conditions_at.name d_law_conditions_at.qual d_law_conditions_at.params d_law_conditions_at.body d_law_conditions_at.scope [] [] (fAd K d_law_conditions_at.at_) fd := let ⟨_, _, _, _, c⟩ := W.ex; c.y.d.def_ 40 (d := d_law_conditions_at)
theorem Wl.D_law_condition_at (W : Wl K mg) : ∃ fd, FunD K d_law_condition_at.name d_law_condition_at.qual d_law_condition_at.params d_law_condition_at.body d_law_condition_at.scope [] [] (fAd K d_law_condition_at.at_) fd := let ⟨_, _, _, _, c⟩ := W.ex; c.y.d.def_ 41 (d := d_law_condition_at)
theorem Wl.D_law_whole (W : Wl K mg) : ∃ fd, FunD K d_law_whole.name d_law_whole.qual d_law_whole.params d_law_whole.body d_law_whole.scope [] [] (fAd K d_law_whole.at_) fd := let ⟨_, _, _, _, c⟩ := W.ex; c.y.d.def_ 42 (d := d_law_whole)
theorem Wl.D_law_spoilt (W : Wl K mg) : ∃ fd, FunD K d_law_spoilt.name d_law_spoilt.qual d_law_spoilt.params d_law_spoilt.body d_law_spoilt.scope [] [] (fAd K d_law_spoilt.at_) fd := let ⟨_, _, _, _, c⟩ := W.ex; c.y.d.def_ 43 (d := d_law_spoilt)
theorem Wl.D_law_read (W : Wl K mg) : ∃ fd, FunD K d_law_read.name d_law_read.qual d_law_read.params d_law_read.body d_law_read.scope [] [] (fAd K d_law_read.at_) fd := let ⟨_, _, _, _, c⟩ := W.ex; c.y.d.def_ 44 (d := d_law_read)
theorem Wl.D_law_bent_lines (W : Wl K mg) : ∃ fd, FunD K d_law_bent_lines.name d_law_bent_lines.qual d_law_bent_lines.params d_law_bent_lines.body d_law_bent_lines.scope [] [] (fAd K d_law_bent_lines.at_) fd := let ⟨_, _, _, _, c⟩ := W.ex; c.y.d.def_ 45 (d := d_law_bent_lines)
theorem Wl.D_law_names_read (W : Wl K mg) : ∃ fd, FunD K d_law_names_read.name d_law_names_read.qual d_law_names_read.params d_law_names_read.body d_law_names_read.scope [] [] (fAd K d_law_names_read.at_) fd := let ⟨_, _, _, _, c⟩ := W.ex; c.y.d.def_ 46 (d := d_law_names_read)
theorem Wl.D_law_fact_line (W : Wl K mg) : ∃ fd, FunD K d_law_fact_line.name d_law_fact_line.qual d_law_fact_line.params d_law_fact_line.body d_law_fact_line.scope [] [] (fAd K d_law_fact_line.at_) fd := let ⟨_, _, _, _, c⟩ := W.ex; c.y.d.def_ 47 (d := d_law_fact_line)
theorem Wl.D_law_facts_read (W : Wl K mg) : ∃ fd, FunD K d_law_facts_read.name d_law_facts_read.qual d_law_facts_read.params d_law_facts_read.body d_law_facts_read.scope [] [] (fAd K d_law_facts_read.at_) fd := let ⟨_, _, _, _, c⟩ := W.ex; c.y.d.def_ 48 (d := d_law_facts_read)
theorem Wl.D_law_text (W : Wl K mg) : ∃ fd, FunD K d_law_text.name d_law_text.qual d_law_text.params d_law_text.body d_law_text.scope [] [] (fAd K d_law_text.at_) fd := let ⟨_, _, _, _, c⟩ := W.ex; c.y.d.def_ 49 (d := d_law_text)
theorem Wl.D_law (W : Wl K mg) : ∃ fd, FunD K d_law.name d_law.qual d_law.params d_law.body d_law.scope [] [] (fAd K d_law.at_) fd := let ⟨_, _, _, _, c⟩ := W.ex; c.y.d.def_ 50 (d := d_law)
theorem Wl.na_x_Wrong (W : Wl K mg) : XR.NoArg K mg "/claim/cut.py" (ga K x_Wrong.cls) (HY.iAd K x_Wrong.cls) "__init__" x_Wrong.qual x_Wrong.params x_Wrong.body x_Wrong.scope := let ⟨_, _, _, _, c⟩ := W.ex; c.y.noarg W.f_super (d := x_Wrong) (by simp [xs])
theorem Wl.cat_x_Wrong (W : Wl K mg) : ExcC K (ga K x_Wrong.cls) := let ⟨_, _, _, _, c⟩ := W.ex; c.y.cat (d := x_Wrong) (by simp [xs])
theorem Wl.na_x_NoFact (W : Wl K mg) : XR.NoArg K mg "/claim/cut.py" (ga K x_NoFact.cls) (HY.iAd K x_NoFact.cls) "__init__" x_NoFact.qual x_NoFact.params x_NoFact.body x_NoFact.scope := let ⟨_, _, _, _, c⟩ := W.ex; c.y.noarg W.f_super (d := x_NoFact) (by simp [xs])
theorem Wl.cat_x_NoFact (W : Wl K mg) : ExcC K (ga K x_NoFact.cls) := let ⟨_, _, _, _, c⟩ := W.ex; c.y.cat (d := x_NoFact) (by simp [xs])
theorem Wl.na_x_TooMany (W : Wl K mg) : XR.NoArg K mg "/claim/cut.py" (ga K x_TooMany.cls) (HY.iAd K x_TooMany.cls) "__init__" x_TooMany.qual x_TooMany.params x_TooMany.body x_TooMany.scope := let ⟨_, _, _, _, c⟩ := W.ex; c.y.noarg W.f_super (d := x_TooMany) (by simp [xs])
theorem Wl.cat_x_TooMany (W : Wl K mg) : ExcC K (ga K x_TooMany.cls) := let ⟨_, _, _, _, c⟩ := W.ex; c.y.cat (d := x_TooMany) (by simp [xs])
theorem Wl.na_x_NoText (W : Wl K mg) : XR.NoArg K mg "/claim/cut.py" (ga K x_NoText.cls) (HY.iAd K x_NoText.cls) "__init__" x_NoText.qual x_NoText.params x_NoText.body x_NoText.scope := let ⟨_, _, _, _, c⟩ := W.ex; c.y.noarg W.f_super (d := x_NoText) (by simp [xs])
theorem Wl.cat_x_NoText (W : Wl K mg) : ExcC K (ga K x_NoText.cls) := let ⟨_, _, _, _, c⟩ := W.ex; c.y.cat (d := x_NoText) (by simp [xs])
theorem Wl.q_Facts_asks (W : Wl K mg) : PropOf K (ga K p_Facts_asks.cls) p_Facts_asks.name (HZ.pAd K p_Facts_asks.cls p_Facts_asks.name) (HZ.gAd K p_Facts_asks.cls p_Facts_asks.name) ∧ ∃ fd, FunD K p_Facts_asks.name p_Facts_asks.qual p_Facts_asks.params p_Facts_asks.body p_Facts_asks.scope [] [] (HZ.gAd K p_Facts_asks.cls p_Facts_asks.name) fd := let ⟨_, _, _, _, c⟩ := W.ex; c.prop (d := p_Facts_asks) (by simp [pl])
theorem Wl.q_Facts_steps (W : Wl K mg) : PropOf K (ga K p_Facts_steps.cls) p_Facts_steps.name (HZ.pAd K p_Facts_steps.cls p_Facts_steps.name) (HZ.gAd K p_Facts_steps.cls p_Facts_steps.name) ∧ ∃ fd, FunD K p_Facts_steps.name p_Facts_steps.qual p_Facts_steps.params p_Facts_steps.body p_Facts_steps.scope [] [] (HZ.gAd K p_Facts_steps.cls p_Facts_steps.name) fd := let ⟨_, _, _, _, c⟩ := W.ex; c.prop (d := p_Facts_steps) (by simp [pl])
theorem Wl.q_Facts_told (W : Wl K mg) : PropOf K (ga K p_Facts_told.cls) p_Facts_told.name (HZ.pAd K p_Facts_told.cls p_Facts_told.name) (HZ.gAd K p_Facts_told.cls p_Facts_told.name) ∧ ∃ fd, FunD K p_Facts_told.name p_Facts_told.qual p_Facts_told.params p_Facts_told.body p_Facts_told.scope [] [] (HZ.gAd K p_Facts_told.cls p_Facts_told.name) fd := let ⟨_, _, _, _, c⟩ := W.ex; c.prop (d := p_Facts_told) (by simp [pl])
theorem Wl.kit (W : Wl K mg) {p : Str × Str × Bool} (hp : p ∈ ks) : PySem.W.kitOne K (.ref (ga K p.1)) (.ref (ga K p.2.1)) = some p.2.2 := let ⟨_, _, _, _, c⟩ := W.ex; c.y.kit hp
end
end K93
end

section
set_option Elab.async false
set_option linter.all false
set_option maxRecDepth 100000
set_option maxHeartbeats 4000000
/-! Rules of our own: repr of data, xs[i] += e, a lambda handed to a method that may raise. -/
namespace XP
open PySem PySem.Spec PyProof.Rows L2
section
variable {X : Cx}
/-- repr of a list or a tuple that holds data -/
def rRepr (K : PySem.W.Frag) (units : Nat) : List V → Hp → VK → Prop := fun xs H Q => ∃ (a : Addr) (d : PyData), xs = [.ref a] ∧ Dp K H (.ref a) d ∧ SeqAt.shaped d = true ∧ d.showable = true ∧ units + (d.depth + 1) < cLine ∧ d.shown.length ≤ sizeLine ∧ Q (.str d.shown) H
theorem call_repr (hg : X.A.guards = some []) : CallR X (.builtin "repr") (rRepr X.K X.A.units) := by
  intro pins s σ H xs us Q I r h
  obtain ⟨a, d, rfl, hd, sh, sw, hu, hz, q⟩ := h
  obtain ⟨u, rfl, ru⟩ := vals1 r
  obtain rfl : u = Value.ref a := ru
  obtain ⟨as, rd⟩ := Dp.reads I d (.ref a) (.ref a) hd rfl
  have nd : d.hasDict = false := PyData.hasDict_of_canLay d (SeqAt.canLay_of_shaped sh)
  exact repr_of_reads' rd sw (PyData.noDict_hsm nd) hg hu (fun b o e => e) (fun h' u tk k => ⟨.str d.shown, H, I.kept k, ⟨_, rfl⟩, q⟩) hz
theorem get_list : PGet X (rIxL X.K) := by
  intro pins s σ H x y v u Q I rx ry h
  obtain ⟨p, xs, i, z, rfl, rfl, hq, he, q⟩ := h
  cases rx
  obtain ⟨t, rfl⟩ := ry
  obtain ⟨its, r, pl, hz⟩ := I.list hq
  obtain ⟨j, h1, h2, h3, h4, h5⟩ := atI_get he
  obtain ⟨w, ew, rw'⟩ := r.get h2
  have hl := r.length
  have hn := line63
  have fin : EP X pins σ Q w s := ⟨z, H, I, rw', q⟩
  by_cases h0 : 0 ≤ i
  · have hj : i.toNat = j := by
      rw [seqIndex_of h0 h5] at h1
      exact Option.some.inj h1
    exact wpAny_getItem_list pl.isList h0 (by omega) (by rw [hj]; simpa using ew) fin
  · have hj : (i + (its.toArray.size : Int)).toNat = j := by
      rw [seqIndex_neg (by omega) h4] at h1
      rw [List.size_toArray, ← hl]
      exact Option.some.inj h1
    exact wpAny_getItem_list_neg pl.isList (by omega) (by rw [List.size_toArray] <;> omega) (by omega) (by rw [hj]; simpa using ew) fin
/-- == and != of data, by their depth -/
def rEqE (K : PySem.W.Frag) (units : Nat) : R2 := fun x y H Q => ∃ d e, Dp K H x d ∧ Dp K H y e ∧ d.canLay0 = true ∧ e.canLay0 = true ∧ units + min d.depth e.depth < cLine ∧ Q (.bl (PyData.eqv d e)) H
def rNeE (K : PySem.W.Frag) (units : Nat) : R2 := fun x y H Q => ∃ d e, Dp K H x d ∧ Dp K H y e ∧ d.canLay0 = true ∧ e.canLay0 = true ∧ units + min d.depth e.depth < cLine ∧ Q (.bl (!PyData.eqv d e)) H
theorem op_eqE : OpR X (compareOp .Eq) (rEqE X.K X.A.units) := by
  intro pins s σ H x y v u Q I rx ry h
  obtain ⟨d, e, hd, he, sd, se, hu, q⟩ := h
  obtain ⟨as, r1⟩ := Dp.reads I d x v hd rx
  obtain ⟨bs, r2⟩ := Dp.reads I e y u he ry
  exact SeqAt.compareEq_reads r1 r2 sd se hu ⟨.bl _, H, I, rfl, q⟩
theorem op_neE : OpR X (compareOp .NotEq) (rNeE X.K X.A.units) := by
  intro pins s σ H x y v u Q I rx ry h
  obtain ⟨d, e, hd, he, sd, se, hu, q⟩ := h
  obtain ⟨as, r1⟩ := Dp.reads I d x v hd rx
  obtain ⟨bs, r2⟩ := Dp.reads I e y u he ry
  exact SeqAt.compareNe_reads r1 r2 sd se hu ⟨.bl _, H, I, rfl, q⟩
/-- x in t, t a tuple of data -/
def rInT (K : PySem.W.Frag) (units : Nat) : R2 := fun x y H Q => ∃ d ds, Dp K H x d ∧ Dp K H y (.tuple ds) ∧ d.canLay0 = true ∧ PyData.canLayAll0 ds = true ∧ units + 1 + min (PyData.depthAll ds) d.depth < cLine ∧ Q (.bl (ds.any fun z => PyData.eqv z d)) H
theorem op_inT : OpR X (compareOp .In) (rInT X.K X.A.units) := by
  intro pins s σ H x y v u Q I rx ry h
  obtain ⟨d, ds, hd, he, sd, se, hu, q⟩ := h
  obtain ⟨as, r1⟩ := Dp.reads I d x v hd rx
  obtain ⟨bs, r2⟩ := Dp.reads I (.tuple ds) y u he ry
  exact SeqAt.in_tuple_reads r2 r1 se sd hu ⟨.bl _, H, I, rfl, q⟩
/-- o[i] += e, o a list -/
theorem ps_augL {o i e : Expr} {to ti te : TE} {tpos pos : Pos} (ho : PE X o to) (hi : PE X i ti) (he : PE X e te) (ha : ∀ ov iv new, augStore i ov iv new = (do holding [new, ov, iv] (setItem ov iv new); release [new, ov, iv] []; pure .next) := by intros; rfl) :
    PS X (.AugAssign (.Subscript o i tpos) .Add e pos) (tAugS to ti te (rIxL X.K) (ipI fun i j => i + j) rSetL) := ps_augS ho hi get_list he ip_add set_list ha
end
end XP
namespace XP
open PySem PySem.Spec PyProof.Rows L2 LamX
/-- what a callee's context Z knows of the callable f in its slot i, which it calls a: tl is what the callable makes, by what is wanted of an exception -/
def ActS (Z : Cx) (a : Str) (i : Nat) (f c' : Addr) (q : Str) (tl : XK → Hp → VK → Prop) : Prop :=
  ∀ (W : WX) (pn : List (Addr × Obj)) (xe : Value → Shared → Prop) (E : XK) (p1 p2 : Pos), Takes (Z.tr pn xe) W → (∀ cls d σ' H', E cls d H' → W cls d σ' H') →
    PE (Z.tr pn xe) (.Call (.Name a p1) [] [] p2) (fun σZ HZ Q => σZ[i]? = some (some (.ref f)) ∧ HZ c' = some (CodeO c' q) ∧ tl E HZ Q)
/-- the callee's body, the callable its last argument -/
def GivesM (X : Cx) (CXg : CXT) (k : Nat) (Ng : List Str) (qg : Str) (sg : Scope) (g : Addr) (bg : List Stmt) (a : Str) (i : Nat) (q : Str) (TT : List V → XK → (XK → Hp → VK → Prop) → Hp → VK → Prop) : Prop :=
  ∀ (f c' : Addr) (cdg : Value) (s : Shared) (H : Hp) (vs : List V) (Q : VK) (Eg : XK) (tl : XK → Hp → VK → Prop), vs.length = i → Room k (X.A.deeper (envOfC qg sg s.heap.objs.size g cdg)) →
    ActS (cxOf CXg X.prog X.w X.K X.mg X.base Ng qg sg g cdg X.A X.stack s H Eg) a i f c' q tl → H c' = some (CodeO c' q) → TT vs Eg tl H Q →
    ∃ t, PSs (cxOf CXg X.prog X.w X.K X.mg X.base Ng qg sg g cdg X.A X.stack s H Eg) bg t ∧ t { nx := fun _ H' => Q .non H', rt := Q } (L2.start Ng (vs ++ [.ref f])) H
/-- o.m(e1, e2, lambda: body) -/
def tLamM (T : List (Addr × Str)) (C : Addr) (m : Str) (TT : List V → XK → (XK → Hp → VK → Prop) → Hp → VK → Prop) (E : XK) (ta t1 t2 : TE) (t : XK → TE) : TE := fun σ H Q => ta σ H fun x H1 => ∃ a dx fs, x = .ref a ∧ H1 a = some (.ins C dx fs) ∧ fs.lookup m = none ∧
  t1 σ H1 fun v1 H2 => t2 σ H2 fun v2 H3 => Tabs T H3 ∧ ∀ H4, ExtN H3 H4 → Tabs T H4 → TT [x, v1, v2] E (fun E' H' Q' => t E' σ H' Q') H4 Q
section
variable {X : Cx}
theorem pe_lammeth {CXg : CXT} {pl : Sem Bool} {T : List (Addr × Str)} {TT : List V → XK → (XK → Hp → VK → Prop) → Hp → VK → Prop} {x qg m a : Str} {C g c P : Addr} {k : Nat} {pg : Arguments} {bg : List Stmt} {sg : Scope} {fd : FuncData} {Ng ps : List Str}
    {params : Arguments} {body : Expr} {scope : Scope} {ta t1 t2 : TE} {t : XK → TE} {o e1 e2 : Expr} {lpos pos apos : Pos} {E : XK}
    (D : FunD X.K x qg pg bg sg [] [] g fd) (hb : L2.Binds X.K fd ps []) (hps : ps.length = 4) (cl : Cls X.K C) (hme : Meth X.K C m g) (Sg : FnScope Ng ps sg) (hNg : Ng[3]? = some a) (hva : Vis sg a)
    (hG : GivesM X CXg (k + 1) Ng qg sg g bg a 3 (X.env.qual ++ "<lambda>") TT)
    (TB : TabB X.base X.mg c P) (hcode : X.env.code = .ref c) (hmT : (P, X.env.qual ++ "<lambda>") ∈ T) (hu : ∀ p ∈ T, p.1 = P → p.2 = X.env.qual ++ "<lambda>") (hr : Room (k + 2) X.A) (hx : Passes CXg X E) (L : LamS X.env.scope scope) (hdef : defaultsOf params X.env = ([], []))
    (hbind : ∀ (q : Str) (cl : List (Str × Addr)) (pm cv ctv : Value), bindArgs (PySem.W.kla_fn "<lambda>" q params body scope cl pm cv ctv) ⟨[], []⟩ = pure [])
    (hbody : ∀ (A : Around) (outer : List Env) (s : Shared) (H : Hp) (E : XK) (f c' : Addr), Room k (A.deeper (lamEnv X scope s.heap.objs.size f c')) → PE (lamCx X A outer s H E scope f c') body (t E))
    (ho : PE X o ta) (h1 : PE X e1 t1) (h2 : PE X e2 t2)
    (hst : starEach [e1, e2, .Lambda params body scope lpos] X.env = [(false, eval e1 X.env), (false, eval e2 X.env), (false, eval (.Lambda params body scope lpos) X.env)] := by rfl)
    (hst0 : starEach [e1, e2, .Lambda params body scope lpos] X.env = (false, eval e1 X.env) :: starEach [e2, .Lambda params body scope lpos] X.env := by rfl)
    (hpl : (backTo pos (starEach [e2, .Lambda params body scope lpos] X.env)).any (·.1) = false := by rfl)
    (ht : eval (.Call (.Attribute o m apos) [e1, e2, .Lambda params body scope lpos] [] pos) X.env = (do
      let ov ← eval o X.env
      standAt apos.atName
      let (f, first) ← holding [ov] (getMethod ov m pl)
      callWith pos f first (backTo pos (starEach [e1, e2, .Lambda params body scope lpos] X.env)) (backToKw pos (keywordEach [] X.env))) := by rfl)
    (hd : (a == ("__debug__" : Str)) = false := by decide) (hcd : (a == ("__classdict__" : Str)) = false := by decide) :
    PE X (.Call (.Attribute o m apos) [e1, e2, .Lambda params body scope lpos] [] pos) (tLamM T C m TT E ta t1 t2 t) := by
  refine ⟨fun pins s σ H Q I h => ?_⟩
  refine PySem.W.methodCall_KW (pl := pl) (thn (ho.run pins s σ H _ I h) fun u s1 ⟨y, H1, I1, ry, b, dx, fs, ex, ea, l, q⟩ => ?_) ht
  subst ex
  obtain rfl : u = Value.ref b := ry
  refine getmeth_ok I1 ea cl hme l ?_
  refine PySem.W.callWith_K (first := [.ref b]) (h₀ := X.base) I.ok.mod.kin hme.kp ?_ hst0 hpl
  rw [hst]
  show wpAny _ _ (spliced [(false, eval e1 X.env), (false, eval e2 X.env), (false, eval (.Lambda params body scope lpos) X.env)]) _ _ s1
  refine Calls.spliced_cons (thn (h1.run pins s1 σ H1 _ I1 q) fun u1 s2 ⟨v1, H2, I2, r1, q2⟩ => ?_)
  refine Calls.spliced_cons (thn (h2.run pins s2 σ H2 _ I2 q2) fun u2 s3 ⟨v2, H3, I3, r2, q3⟩ => ?_)
  obtain ⟨hT, q3⟩ := q3
  refine Calls.spliced_cons (lam_make2 I3 TB hcode hmT hu hT hdef (L.has I3.ok) fun f c' pm' ctv H4 s4 I4 eN T4 hf hfn hfr hco => ?_)
  refine Calls.spliced_nil ⟨I4.kIn, ?_⟩
  obtain ⟨oc, od, dV, kV, doc, pm, an, cdv, ct, osl, rfl, lk, hcg, _, _⟩ := D.ex
  have rc : codeAny (model X.prog X.w) X.A (.call (.ref g) ⟨[.ref b, u1, u2, .ref f], []⟩) (CR CXg X.stack X.prog X.w H4 s4 Q E) s4 := by
    refine run_ofS (N := Ng) (ps := ps) (us := [.ref b, u1, u2, .ref f]) (vs := [.ref b, v1, v2, .ref f]) lk hcg Sg hr I4.env0 (hb s4 [.ref b, u1, u2, .ref f] I4.kIn (by rw [hps] <;> rfl)) (.cons rfl (.cons r1 (.cons r2 (.cons rfl .nil)))) hps.symm fun hr' => ?_
    exact hG f c' cdv s4 H4 [.ref b, v1, v2] Q E (fun E' H' Q' => t E' σ H' Q') rfl hr' (fun W pn xe E' p1 p2 tk hW => pe_act (i := 3) I4 L hf hfn hfr (hbind _ _ _ _ _) tk hW hr' (fun A outer s H hr2 => hbody A outer s H E' f c' hr2) hNg hva hd hcd) hco (q3 H4 eN T4)
  refine wpAny_call (codeAny_mono rc fun r s5 hq => ?_)
  cases r with
  | error e => exact hx pins σ H4 s4 e s5 I4 hq
  | ok fl =>
    cases fl with
    | ret u => exact I4.after hq
    | next => exact False.elim hq
    | brk => exact False.elim hq
    | cont => exact False.elim hq
end
end XP
end

section
set_option Elab.async false
set_option linter.all false
set_option maxRecDepth 100000
set_option maxHeartbeats 4000000
/-! Comprehensions by what they give; frames. -/
namespace HL
open PySem PySem.Spec PyProof.Rows L2 He
/-- what X allows to change may change -/
def Fr (X : Addr → HO → Prop) (H H' : Hp) : Prop := ∀ b o, H b = some o → X b o → H' b = some o
theorem Fr.refl (X : Addr → HO → Prop) (H : Hp) : Fr X H H := fun _ _ h _ => h
theorem Fr.trans {X : Addr → HO → Prop} {H H1 H2 : Hp} (a : Fr X H H1) (b : Fr X H1 H2) : Fr X H H2 := fun c o h x => b c o (a c o h x) x
theorem Fr.of {X : Addr → HO → Prop} {H H' : Hp} (e : Same H H') : Fr X H H' := fun b o h _ => e b o h
theorem Fr.same {X : Addr → HO → Prop} {H H1 H2 : Hp} (a : Fr X H H1) (e : Same H1 H2) : Fr X H H2 := a.trans (.of e)
theorem Fr.new {X : Addr → HO → Prop} {H H' : Hp} {p : Addr} {o : HO} (e : Fr X H H') (h : H' p = none) : Fr X H (upd H' p o) := e.trans (.of (same_new h))
/-- an object that was not there, or that may change, changes -/
theorem Fr.mut {X : Addr → HO → Prop} {H H' : Hp} {p : Addr} {o : HO} (e : Fr X H H') (h : ∀ u, H p = some u → ¬ X p u) : Fr X H (upd H' p o) := fun b u z x => by
  have n : b ≠ p := fun q => h u (q ▸ z) (q ▸ x)
  rw [upd_ne n]
  exact e b u z x
theorem Fr.mutN {X : Addr → HO → Prop} {H H' : Hp} {p : Addr} {o : HO} (e : Fr X H H') (h : H p = none) : Fr X H (upd H' p o) := e.mut fun u z => by rw [h] at z; cases z
abbrev XAll : Addr → HO → Prop := fun _ _ => True
theorem Fr.toSame {H H' : Hp} (e : Fr XAll H H') : Same H H' := fun b o h => e b o h trivial
abbrev XB (p : Addr) : Addr → HO → Prop := fun b _ => b ≠ p
theorem Fr.ofB {p : Addr} {H H' : Hp} (e : SameB p H H') : Fr (XB p) H H' := e
/-- tuples stay whatever moves -/
def TupK (H H' : Hp) : Prop := ∀ b xs, H b = some (.tup xs) → H' b = some (.tup xs)
theorem TupK.refl (H : Hp) : TupK H H := fun _ _ h => h
theorem TupK.trans {H H1 H2 : Hp} (a : TupK H H1) (b : TupK H1 H2) : TupK H H2 := fun c o h => b c o (a c o h)
theorem TupK.of {H H' : Hp} (e : Same H H') : TupK H H' := fun b xs h => e b _ h
theorem Fr.tup {X : Addr → HO → Prop} {H H' : Hp} (e : Fr X H H') (hX : ∀ b xs, H b = some (.tup xs) → X b (.tup xs)) : TupK H H' := fun b xs h => e b _ h (hX b xs h)
theorem SameB.tup {p : Addr} {H H' : Hp} {o : HO} (e : SameB p H H') (h : H p = some o) (n : ∀ xs, o ≠ .tup xs) : TupK H H' := fun b xs z => e b _ z fun q => by
  subst q
  rw [h] at z
  exact n xs (Option.some.inj z)
theorem TupK.new {H H' : Hp} {p : Addr} {o : HO} (e : TupK H H') (h : H' p = none) : TupK H (upd H' p o) := e.trans (.of (same_new h))
theorem TupK.mut {H H' : Hp} {p : Addr} {o u : HO} (e : TupK H H') (h : H' p = some u) (n : ∀ xs, u ≠ .tup xs) : TupK H (upd H' p o) := fun b xs z => by
  have z' := e b xs z
  rw [upd_ne (fun q => by
    subst q
    rw [h] at z'
    exact n xs (Option.some.inj z'))]
  exact z'
/-- two lists, item by item -/
def All2 {α β : Type} (R : α → β → Prop) : List α → List β → Prop
  | [], [] => True
  | a :: as, b :: bs => R a b ∧ All2 R as bs
  | _, _ => False
theorem All2.length {α β : Type} {R : α → β → Prop} : ∀ {as : List α} {bs : List β}, All2 R as bs → as.length = bs.length
  | [], [], _ => rfl
  | a :: as, b :: bs, h => by rw [List.length_cons, List.length_cons, All2.length h.2]
  | [], _ :: _, h => h.elim
  | _ :: _, [], h => h.elim
theorem All2.imp {α β : Type} {R R' : α → β → Prop} (f : ∀ a b, R a b → R' a b) : ∀ {as : List α} {bs : List β}, All2 R as bs → All2 R' as bs
  | [], [], _ => trivial
  | a :: as, b :: bs, h => ⟨f a b h.1, All2.imp f h.2⟩
  | [], _ :: _, h => h.elim
  | _ :: _, [], h => h.elim
theorem All2.snoc {α β : Type} {R : α → β → Prop} {a : α} {b : β} (x : R a b) : ∀ {as : List α} {bs : List β}, All2 R as bs → All2 R (as ++ [a]) (bs ++ [b])
  | [], [], _ => ⟨x, trivial⟩
  | c :: as, d :: bs, h => ⟨h.1, All2.snoc x h.2⟩
  | [], _ :: _, h => h.elim
  | _ :: _, [], h => h.elim
theorem All2.get {α β : Type} {R : α → β → Prop} : ∀ {as : List α} {bs : List β} {i : Nat} {a : α}, All2 R as bs → as[i]? = some a → ∃ b, bs[i]? = some b ∧ R a b
  | [], [], i, a, _, e => by simp at e
  | c :: as, d :: bs, 0, a, h, e => by
    have : c = a := by simpa using e
    subst this
    exact ⟨d, by simp, h.1⟩
  | c :: as, d :: bs, i + 1, a, h, e => by
    obtain ⟨b, e1, r⟩ := All2.get (i := i) h.2 (by simpa using e)
    exact ⟨b, by simpa using e1, r⟩
  | [], _ :: _, _, _, h, _ => h.elim
  | _ :: _, [], _, _, h, _ => h.elim
theorem All2.getR {α β : Type} {R : α → β → Prop} {as : List α} {bs : List β} {i : Nat} {b : β} (h : All2 R as bs) (e : bs[i]? = some b) : ∃ a, as[i]? = some a ∧ R a b := by
  have hl := h.length
  have hi := (List.getElem?_eq_some_iff.mp e).1
  have : i < as.length := by omega
  obtain ⟨b', e1, r⟩ := h.get (List.getElem?_eq_getElem this)
  rw [e] at e1
  cases e1
  exact ⟨_, List.getElem?_eq_getElem this, r⟩
theorem take_succ' {α : Type} {l : List α} {i : Nat} {x : α} (h : l[i]? = some x) : l.take (i + 1) = l.take i ++ [x] := by
  rw [List.take_add_one, h]
  rfl
theorem yes_in {te : TE} {σ : L2.St} {H : Hp} {B : Hp → Prop} {Q : VK} (h : te σ H Q) : tYes σ H fun b H3 => if b = true then te σ H3 Q else B H3 := by
  show (if true = true then te σ H Q else B H)
  rw [if_pos rfl]
  exact h
section
variable {K : PySem.W.Frag} {a : Addr} {xs out : List V} {te : TE} {i n : Nat} {σ : L2.St} {H1 : Hp} {D : Addr} {Qd : Hp → Prop}
theorem wipe1 {σ : L2.St} {i : Nat} {x : V} : wipe ((wipe σ [i]).set i (some x)) [i] = wipe σ [i] := by
  show ((((wipe σ []).set i none).set i (some x))).set i none = (wipe σ []).set i none
  rw [List.set_set, List.set_set]
theorem tseq {K : PySem.W.Frag} {H H' : Hp} {a : Addr} {xs : List V} (e : Same H H') (h : SqT K H a xs) : SqT K H' a xs := by
  rcases h with (h | ⟨o, h⟩) | h
  · exact .inl (.inl (e _ _ h))
  · exact .inl (.inr ⟨o, e _ _ h⟩)
  · exact .inr h
/-- [e for x in xs], a list, e known for each item, nothing is changed -/
theorem lcL (hD : H1 D = none) (hxs : SqL K H1 a xs) (hlen : out.length = xs.length) (hsz : xs.length ≤ sizeLine)
    (hs : ∀ k x y H Q, xs[k]? = some x → out[k]? = some y → Same H1 H → H D = some (.lst (out.take k)) → (∀ H', Same H H' → Q y H') → te ((wipe σ [i]).set i (some x)) H Q) (hd : ∀ H, Same H1 H → H D = some (.lst out) → Qd H) :
    ∃ W : Nat → Nat → Hp → Prop, (∃ m, W 0 m (upd H1 D (.lst []))) ∧ ∀ j m H, W j m H →
      ((Itl K a).stop j H ∧ Qd H) ∨ ((Itl K a).go j H ∧ ∃ Nx : Hp → Prop, (∀ H', Nx H' → ∃ m', m' < m ∧ W (j + 1) m' H') ∧ ∀ x H', (Itl K a).yld j H x H' → gName i x (wipe σ [i]) H' fun σ2 H2 => wipe σ2 [i] = wipe σ [i] ∧ tYes σ2 H2 fun b H3 =>
        if b = true then te σ2 H3 fun y H4 => ∃ acc, H4 D = some (.lst acc) ∧ acc.length < sizeLine ∧ Nx (upd H4 D (.lst (acc ++ [y]))) else Nx H3) := by
  refine lc_list (xs := xs) (fun k H => Same H1 H ∧ H D = some (.lst (out.take k))) ⟨same_new hD, by rw [upd_same] <;> rfl⟩ (fun k H _ ⟨e, _⟩ => e.seq hxs) (fun k x H hx ⟨e, hl⟩ => ⟨wipe1, ?_⟩) (fun H ⟨e, hl⟩ => hd H e (by rw [hl, ← hlen, List.take_length]))
  have hk := (List.getElem?_eq_some_iff.mp hx).1
  have ho : out[k]? = some out[k] := List.getElem?_eq_getElem (by omega)
  refine yes_in (hs k x out[k] H _ hx ho e hl fun H' e' => ⟨_, e' _ _ hl, by rw [List.length_take]; omega, ?_, ?_⟩)
  · exact fun b u z => by
      rw [upd_ne (ne_of_none z hD)]
      exact e' _ _ (e _ _ z)
  · rw [upd_same, take_succ' ho]
/-- .. a tuple -/
theorem lcT (hD : H1 D = none) (hxs : SqT K H1 a xs) (hlen : out.length = xs.length) (hsz : xs.length ≤ sizeLine)
    (hs : ∀ k x y H Q, xs[k]? = some x → out[k]? = some y → Same H1 H → H D = some (.lst (out.take k)) → (∀ H', Same H H' → Q y H') → te ((wipe σ [i]).set i (some x)) H Q) (hd : ∀ H, Same H1 H → H D = some (.lst out) → Qd H) :
    ∃ W : Nat → Nat → Hp → Prop, (∃ m, W 0 m (upd H1 D (.lst []))) ∧ ∀ j m H, W j m H →
      ((Itt K a).stop j H ∧ Qd H) ∨ ((Itt K a).go j H ∧ ∃ Nx : Hp → Prop, (∀ H', Nx H' → ∃ m', m' < m ∧ W (j + 1) m' H') ∧ ∀ x H', (Itt K a).yld j H x H' → gName i x (wipe σ [i]) H' fun σ2 H2 => wipe σ2 [i] = wipe σ [i] ∧ tYes σ2 H2 fun b H3 =>
        if b = true then te σ2 H3 fun y H4 => ∃ acc, H4 D = some (.lst acc) ∧ acc.length < sizeLine ∧ Nx (upd H4 D (.lst (acc ++ [y]))) else Nx H3) := by
  refine lc_tup (xs := xs) (fun k H => Same H1 H ∧ H D = some (.lst (out.take k))) ⟨same_new hD, by rw [upd_same] <;> rfl⟩ (fun k H _ ⟨e, _⟩ => tseq e hxs) (fun k x H hx ⟨e, hl⟩ => ⟨wipe1, ?_⟩) (fun H ⟨e, hl⟩ => hd H e (by rw [hl, ← hlen, List.take_length]))
  have hk := (List.getElem?_eq_some_iff.mp hx).1
  have ho : out[k]? = some out[k] := List.getElem?_eq_getElem (by omega)
  refine yes_in (hs k x out[k] H _ hx ho e hl fun H' e' => ⟨_, e' _ _ hl, by rw [List.length_take]; omega, ?_, ?_⟩)
  · exact fun b u z => by
      rw [upd_ne (ne_of_none z hD)]
      exact e' _ _ (e _ _ z)
  · rw [upd_same, take_succ' ho]
/-- .. a range -/
theorem lcR {lo : Int} (hD : H1 D = none) (hlen : out.length = n) (hsz : n ≤ sizeLine)
    (hs : ∀ k y H Q, k < n → out[k]? = some y → Same H1 H → H D = some (.lst (out.take k)) → (∀ H', Same H H' → Q y H') → te ((wipe σ [i]).set i (some (.int (lo + k)))) H Q) (hd : ∀ H, Same H1 H → H D = some (.lst out) → Qd H) :
    ∃ W : Nat → Nat → Hp → Prop, (∃ m, W 0 m (upd H1 D (.lst []))) ∧ ∀ j m H, W j m H →
      ((Itr lo n).stop j H ∧ Qd H) ∨ ((Itr lo n).go j H ∧ ∃ Nx : Hp → Prop, (∀ H', Nx H' → ∃ m', m' < m ∧ W (j + 1) m' H') ∧ ∀ x H', (Itr lo n).yld j H x H' → gName i x (wipe σ [i]) H' fun σ2 H2 => wipe σ2 [i] = wipe σ [i] ∧ tYes σ2 H2 fun b H3 =>
        if b = true then te σ2 H3 fun y H4 => ∃ acc, H4 D = some (.lst acc) ∧ acc.length < sizeLine ∧ Nx (upd H4 D (.lst (acc ++ [y]))) else Nx H3) := by
  refine lc_range (fun k H => Same H1 H ∧ H D = some (.lst (out.take k))) ⟨same_new hD, by rw [upd_same] <;> rfl⟩ (fun k H hk ⟨e, hl⟩ => ⟨wipe1, ?_⟩) (fun H ⟨e, hl⟩ => hd H e (by rw [hl, ← hlen, List.take_length]))
  have ho : out[k]? = some out[k] := List.getElem?_eq_getElem (by omega)
  refine yes_in (hs k out[k] H _ hk ho e hl fun H' e' => ⟨_, e' _ _ hl, by rw [List.length_take]; omega, ?_, ?_⟩)
  · exact fun b u z => by
      rw [upd_ne (ne_of_none z hD)]
      exact e' _ _ (e _ _ z)
  · rw [upd_same, take_succ' ho]
/-- .. a range, the items told by R alone, F what each turn keeps -/
theorem lcRR {lo : Int} {X : Addr → HO → Prop} {I : Hp → Prop} {α : Type} {R : V → α → Hp → Prop} (hD : H1 D = none) (hX : ∀ l, X D (.lst l)) (h0 : I (upd H1 D (.lst []))) (hI : ∀ H l, I H → H D = some (.lst l) → ∀ l', I (upd H D (.lst l'))) (hsz : n ≤ sizeLine)
    (hR : ∀ v c H H', R v c H → Fr X H H' → I H → R v c H') (hR2 : ∀ v c H l l', R v c H → H D = some (.lst l) → R v c (upd H D (.lst l')))
    (hs : ∀ k H Q, k < n → Fr X H1 H → I H → (∀ v c H', Fr X H H' → I H' → R v c H' → Q v H') → te ((wipe σ [i]).set i (some (.int (lo + k)))) H Q)
    (hd : ∀ H vs cs, Fr X H1 H → I H → H D = some (.lst vs) → vs.length = n → All2 (fun v c => R v c H) vs cs → Qd H) :
    ∃ W : Nat → Nat → Hp → Prop, (∃ m, W 0 m (upd H1 D (.lst []))) ∧ ∀ j m H, W j m H →
      ((Itr lo n).stop j H ∧ Qd H) ∨ ((Itr lo n).go j H ∧ ∃ Nx : Hp → Prop, (∀ H', Nx H' → ∃ m', m' < m ∧ W (j + 1) m' H') ∧ ∀ x H', (Itr lo n).yld j H x H' → gName i x (wipe σ [i]) H' fun σ2 H2 => wipe σ2 [i] = wipe σ [i] ∧ tYes σ2 H2 fun b H3 =>
        if b = true then te σ2 H3 fun y H4 => ∃ acc, H4 D = some (.lst acc) ∧ acc.length < sizeLine ∧ Nx (upd H4 D (.lst (acc ++ [y]))) else Nx H3) := by
  refine lc_range (fun k H => Fr X H1 H ∧ I H ∧ ∃ vs cs, H D = some (.lst vs) ∧ vs.length = k ∧ All2 (fun v c => R v c H) vs cs) ⟨.of (same_new hD), h0, [], [], upd_same, rfl, trivial⟩ (fun k H hk ⟨e, h1, vs, cs, hl, hn, hA⟩ => ⟨wipe1, ?_⟩) (fun H ⟨e, h1, vs, cs, hl, hn, hA⟩ => hd H vs cs e h1 hl hn hA)
  refine yes_in (hs k H _ hk e h1 fun v' c H' e' h1' r => ⟨vs, e' _ _ hl (hX _), by omega, ?_, hI H' _ h1' (e' _ _ hl (hX _)) _, vs ++ [v'], cs ++ [c], upd_same, by rw [List.length_append, hn] <;> rfl, ?_⟩)
  · exact (e.trans e').mutN hD
  · have hl' := e' _ _ hl (hX vs)
    exact All2.snoc (R := fun v c => R v c (upd H' D (.lst (vs ++ [v'])))) (hR2 _ _ _ _ _ r hl') (hA.imp fun v c z => hR2 _ _ _ _ _ (hR _ _ _ _ z e' h1) hl')
/-- [e for c in s] -/
theorem lcS {x : Str} (hD : H1 D = none) (hlen : out.length = x.cps.size) (hsz : x.cps.size ≤ sizeLine)
    (hs : ∀ k c y H Q, x.cps[k]? = some c → out[k]? = some y → Same H1 H → H D = some (.lst (out.take k)) → (∀ H', Same H H' → Q y H') → te ((wipe σ [i]).set i (some (.str ⟨#[c]⟩))) H Q) (hd : ∀ H, Same H1 H → H D = some (.lst out) → Qd H) :
    ∃ W : Nat → Nat → Hp → Prop, (∃ m, W 0 m (upd H1 D (.lst []))) ∧ ∀ j m H, W j m H →
      ((Its x).stop j H ∧ Qd H) ∨ ((Its x).go j H ∧ ∃ Nx : Hp → Prop, (∀ H', Nx H' → ∃ m', m' < m ∧ W (j + 1) m' H') ∧ ∀ v H', (Its x).yld j H v H' → gName i v (wipe σ [i]) H' fun σ2 H2 => wipe σ2 [i] = wipe σ [i] ∧ tYes σ2 H2 fun b H3 =>
        if b = true then te σ2 H3 fun y H4 => ∃ acc, H4 D = some (.lst acc) ∧ acc.length < sizeLine ∧ Nx (upd H4 D (.lst (acc ++ [y]))) else Nx H3) := by
  refine ⟨fun k m H => m = x.cps.size - k ∧ k ≤ x.cps.size ∧ Same H1 H ∧ H D = some (.lst (out.take k)), ⟨_, rfl, Nat.zero_le _, same_new hD, by rw [upd_same] <;> rfl⟩, ?_⟩
  rintro k m H ⟨rfl, hk, e, hl⟩
  by_cases hlt : k < x.cps.size
  · refine .inr ⟨hlt, fun H' => Same H1 H' ∧ H' D = some (.lst (out.take (k + 1))), fun H' h' => ⟨x.cps.size - (k + 1), by omega, rfl, hlt, h'⟩, fun v H' y => ?_⟩
    obtain ⟨e0, c, hc, ev⟩ := y
    subst e0 ev
    refine ⟨wipe1, ?_⟩
    have ho : out[k]? = some out[k] := List.getElem?_eq_getElem (by omega)
    refine yes_in (hs k c out[k] _ _ hc ho e hl fun H'' e' => ⟨_, e' _ _ hl, by rw [List.length_take]; omega, ?_, ?_⟩)
    · exact fun b u z => by
        rw [upd_ne (ne_of_none z hD)]
        exact e' _ _ (e _ _ z)
    · rw [upd_same, take_succ' ho]
  · have ek : k = x.cps.size := by omega
    subst ek
    exact .inl ⟨Nat.le_refl _, hd H e (by rw [hl, ← hlen, List.take_length])⟩
end
/-- while: W with its measure, Z where it ends -/
theorem while_z {c : TT} {tb : TS} {D : Ends} {σ : L2.St} {H : Hp} (W : Nat → L2.St → Hp → Prop) (Z : L2.St → Hp → Prop) (w0 : ∃ m, W m σ H)
    (turn : ∀ m σ H, W m σ H → ∀ N F : L2.St → Hp → Prop, (∀ m' σ' H', m' < m → W m' σ' H' → N σ' H') → (∀ σ' H', Z σ' H' → F σ' H') → c σ H fun b H1 => if b = true then tb { D with nx := N, ct := N, bk := F } σ H1 else F σ H1)
    (mono : ∀ σ H (Q Q' : Bool → Hp → Prop), (∀ b H1, Q b H1 → Q' b H1) → c σ H Q → c σ H Q') (fin : ∀ σ H, Z σ H → D.nx σ H) : tWhile c tb D σ H := by
  refine ⟨W, w0, fun m σ H w => ?_⟩
  refine mono σ H _ _ (fun b H1 q => ?_) (turn m σ H w (fun σ' H' => ∃ m', m' < m ∧ W m' σ' H') D.nx (fun m' σ' H' h1 h2 => ⟨m', h1, h2⟩) fin)
  cases b with
  | true => exact ⟨_, fun σ' H' h => h, q⟩
  | false => exact q
/-- .. where the test is known first -/
theorem while_zz {c : TT} {tb : TS} {D : Ends} {σ : L2.St} {H : Hp} (W : Nat → L2.St → Hp → Prop) (Z : L2.St → Hp → Prop) (w0 : ∃ m, W m σ H)
    (turn : ∀ m σ H, W m σ H → ∀ (R : Bool → Hp → Prop), (∀ H1, (∀ N F : L2.St → Hp → Prop, (∀ m' σ' H', m' < m → W m' σ' H' → N σ' H') → (∀ σ' H', Z σ' H' → F σ' H') → tb { D with nx := N, ct := N, bk := F } σ H1) → R true H1) → (∀ H1, Z σ H1 → R false H1) → c σ H R)
    (fin : ∀ σ H, Z σ H → D.nx σ H) : tWhile c tb D σ H := by
  refine ⟨W, w0, fun m σ H w => ?_⟩
  refine turn m σ H w _ (fun H1 h => ?_) fun H1 z => ?_
  · show (if true = true then _ else _)
    rw [if_pos rfl]
    exact ⟨fun σ' H' => ∃ m', m' < m ∧ W m' σ' H', fun _ _ h => h, h _ _ (fun m' σ' H' h1 h2 => ⟨m', h1, h2⟩) fin⟩
  · show (if false = true then _ else _)
    rw [if_neg (by simp)]
    exact fin _ _ z
/-! ### ways that meet again -/
theorem te_cont {te : TE} {σ : L2.St} {H : Hp} {Q : VK} (R : VK) (h : ∀ Q' : VK, (∀ v H', R v H' → Q' v H') → te σ H Q') (hQ : ∀ v H', R v H' → Q v H') : te σ H Q := h Q hQ
theorem asg_cont {te : TE} {g : TG} {D : Ends} {σ : L2.St} {H : Hp} (R : VK) (h : ∀ Q' : VK, (∀ v H', R v H' → Q' v H') → te σ H Q') (hQ : ∀ v H', R v H' → g v σ H' D.nx) : tAsg te g D σ H := h _ hQ
theorem seq_cont {a b : TS} {D : Ends} {σ : L2.St} {H : Hp} (R : L2.St → Hp → Prop) (h : ∀ N : L2.St → Hp → Prop, (∀ σ' H', R σ' H' → N σ' H') → a { D with nx := N } σ H) (hb : ∀ σ' H', R σ' H' → b D σ' H') : tSeq a b D σ H := h _ hb
theorem cat_q (s : String) (b : List Nat) : Str.ofString s ++ S b = S (s.toList.map Char.toNat ++ b) := by rw [ofq, S_cat]
theorem q_cat (a : List Nat) (s : String) : S a ++ Str.ofString s = S (a ++ s.toList.map Char.toNat) := by rw [ofq, S_cat]
theorem joinL_len (b : List Nat) : ∀ ys : List (List Nat), (ys.map (·.length)).sum + ys.length * b.length ≤ (TL.joinL b ys).length + b.length
  | [] => by simp
  | [x] => by simp [TL.joinL]
  | x :: y :: r => by
    have ih := joinL_len b (y :: r)
    have e : TL.joinL b (x :: y :: r) = x ++ (b ++ TL.joinL b (y :: r)) := rfl
    rw [e, List.length_append, List.length_append]
    simp only [List.map_cons, List.sum_cons, List.length_cons, Nat.succ_mul] at ih ⊢
    omega
end HL
end

section
set_option linter.all false
set_option maxRecDepth 100000
set_option maxHeartbeats 4000000
/-! The two readers of conditions and parts, as plain functions on signs, and that they tell the same. -/
namespace M
open L2 TL
abbrev Cs := List Nat
/-- the signs of a written text -/
def q (s : String) : Cs := s.toList.map Char.toNat
abbrev LET : Cs := q "abcdefghijklmnopqrstuvwxyz"
abbrev DIG : Cs := q "0123456789"
def isLet (c : Nat) : Bool := decide (c ∈ LET)
def isDig (c : Nat) : Bool := decide (c ∈ DIG)
/-- a name -/
structure Nm (n : Cs) : Prop where
  pos : 0 < n.length
  most : n.length ≤ 8
  all : ∀ c ∈ n, isLet c = true
inductive Cond where
  | word (b : Bool)
  | ask (n : Cs)
  | neg (c : Cond)
  | many (b : Bool) (cs : List Cond)
inductive Part where
  | back
  | leave (k : Nat)
  | step (n : Cs)
  | call (n : Cs)
  | row (ps : List Part)
  | whil (c : Cond) (p : Part)
  | ite (c : Cond) (p r : Part)
def nq (b : Bool) : Cs := if b then q "all" else q "any"
def yq (b : Bool) : Cs := if b then q "yes" else q "no"
mutual
def Cond.sh : Cond → Cs
  | .word b => yq b
  | .ask n => q "?" ++ n
  | .neg c => q "not" ++ (q "(" ++ (c.sh ++ q ")"))
  | .many b cs => nq b ++ (q "(" ++ (joinL (q ", ") (shC cs) ++ q ")"))
def shC : List Cond → List Cs
  | [] => []
  | c :: cs => c.sh :: shC cs
end
mutual
def Part.sh : Part → Cs
  | .back => q "back"
  | .leave k => q "leave" ++ (q " " ++ numL k)
  | .step n => q "do" ++ (q " " ++ n)
  | .call n => q "call" ++ (q " " ++ n)
  | .row ps => q "[" ++ (joinL (q "; ") (shP ps) ++ q "]")
  | .whil c p => q "while " ++ (c.sh ++ (q ": " ++ p.sh))
  | .ite c p r => q "if " ++ (c.sh ++ (q " then " ++ (p.sh ++ (q " else " ++ r.sh))))
def shP : List Part → List Cs
  | [] => []
  | p :: ps => p.sh :: shP ps
end
mutual
def Cond.wf : Cond → Prop
  | .word _ => True
  | .ask n => Nm n
  | .neg c => c.wf
  | .many _ cs => wfC cs
def wfC : List Cond → Prop
  | [] => True
  | c :: cs => c.wf ∧ wfC cs
end
mutual
def Part.wf : Part → Prop
  | .back => True
  | .leave k => k < 1000000000
  | .step n => Nm n
  | .call n => Nm n
  | .row ps => wfP ps
  | .whil c p => c.wf ∧ p.wf
  | .ite c p r => c.wf ∧ p.wf ∧ r.wf
def wfP : List Part → Prop
  | [] => True
  | p :: ps => p.wf ∧ wfP ps
end
-- no leave 0
mutual
def Part.pos : Part → Bool
  | .back => true
  | .leave k => decide (0 < k)
  | .step _ => true
  | .call _ => true
  | .row ps => posP ps
  | .whil _ p => p.pos
  | .ite _ p r => p.pos && r.pos
def posP : List Part → Bool
  | [] => true
  | p :: ps => p.pos && posP ps
end
/-! ### what both readers are made of -/
def takes (w s : Cs) : Option Cs := if s.take w.length = w then some (s.drop w.length) else none
def word (s : Cs) : Option (Cs × Cs) := if 0 < (s.takeWhile isLet).length ∧ (s.takeWhile isLet).length ≤ 8 then some (s.takeWhile isLet, s.dropWhile isLet) else none
def number (s : Cs) : Option (Nat × Cs) :=
  if (0 < (s.takeWhile isDig).length ∧ (s.takeWhile isDig).length ≤ 9) ∧ (s.takeWhile isDig = q "0" ∨ (s.takeWhile isDig).head? ≠ some 48) then some (PySem.NumText.digitsVal (s.takeWhile isDig), s.dropWhile isDig) else none
def sev {α : Type} (rd : Cs → Option (α × Cs)) (e b : Cs) : Nat → List α → Cs → Option (List α × Cs)
  | 0, _, _ => none
  | m + 1, acc, s => match takes e s with
    | some r => some (acc, r)
    | none => match (if acc.isEmpty = true then some s else takes b s) with
      | none => none
      | some s1 => match rd s1 with
        | none => none
        | some (d, s2) => sev rd e b m (acc ++ [d]) s2
/-! ### the program's reader -/
def cond (n : Nat) (s : Cs) : Option (Cond × Cs) :=
  if h : n = 0 then none else
  match takes (q "?") s with
  | some r => (match word r with
    | none => none
    | some (w, r2) => some (.ask w, r2))
  | none => (match word s with
    | none => none
    | some (w, r) =>
      if w = q "yes" then some (.word true, r) else if w = q "no" then some (.word false, r)
      else if w = q "not" ∨ w = q "all" ∨ w = q "any" then
        (match takes (q "(") r with
        | none => none
        | some r1 => (match sev (cond (n - 3)) (q ")") (q ", ") (r1.length + 1) [] r1 with
          | none => none
          | some (cs, r2) => if w = q "not" then (match cs with
              | [c] => some (.neg c, r2)
              | _ => none) else some (.many (decide (w = q "all")) cs, r2)))
      else none)
termination_by n
decreasing_by omega
def part (n : Nat) (s : Cs) : Option (Part × Cs) :=
  if h : n = 0 then none else
  match takes (q "[") s with
  | some r => (match sev (part (n - 3)) (q "]") (q "; ") (r.length + 1) [] r with
    | none => none
    | some (ps, r2) => some (.row ps, r2))
  | none => (match word s with
    | none => none
    | some (w, r) =>
      if w = q "back" then some (.back, r) else
      (match takes (q " ") r with
      | none => none
      | some r1 =>
        if w = q "leave" then (match number r1 with
          | none => none
          | some (k, r2) => some (.leave k, r2))
        else if w = q "do" then (match word r1 with
          | none => none
          | some (x, r2) => some (.step x, r2))
        else if w = q "call" then (match word r1 with
          | none => none
          | some (x, r2) => some (.call x, r2))
        else if w = q "if" ∨ w = q "while" then
          (match cond (n - 1) r1 with
          | none => none
          | some (c, r2) =>
            if w = q "while" then (match takes (q ": ") r2 with
              | none => none
              | some r3 => (match part (n - 1) r3 with
                | none => none
                | some (p, r4) => some (.whil c p, r4)))
            else (match takes (q " then ") r2 with
              | none => none
              | some r3 => (match part (n - 1) r3 with
                | none => none
                | some (p, r4) => (match takes (q " else ") r4 with
                  | none => none
                  | some r5 => (match part (n - 1) r5 with
                    | none => none
                    | some (p2, r6) => some (.ite c p p2, r6))))))
        else none))
termination_by n
decreasing_by all_goals omega
/-! ### the law's reader -/
def lsev {α : Type} (rd : Cs → Option (α × Cs)) (e b : Cs) : Nat → List α → Cs → Option (List α × Cs)
  | 0, _, _ => none
  | m + 1, acc, s => match rd s with
    | none => none
    | some (d, s1) => match takes e s1 with
      | some r => some (acc ++ [d], r)
      | none => match takes b s1 with
        | none => none
        | some s2 => lsev rd e b m (acc ++ [d]) s2
def lall {α : Type} (rd : Cs → Option (α × Cs)) (e b : Cs) (m : Nat) (s : Cs) : Option (List α × Cs) := match takes e s with
  | some r => some ([], r)
  | none => lsev rd e b m [] s
def lcond (n m : Nat) (s : Cs) : Option (Cond × Cs) :=
  if h : n = 0 then none else
  if s.take 4 = q "not(" ∨ s.take 4 = q "all(" ∨ s.take 4 = q "any(" then
    (match lall (lcond (n - 3) m) (q ")") (q ", ") m (s.drop 4) with
    | none => none
    | some (cs, r) => if s.take 4 = q "not(" then (match cs with
        | [c] => some (.neg c, r)
        | _ => none) else some (.many (decide (s.take 4 = q "all(")) cs, r))
  else if s.take 1 = q "?" then (match word (s.drop 1) with
    | none => none
    | some (w, r) => some (.ask w, r))
  else if s.take 3 = q "yes" then some (.word true, s.drop 3)
  else if s.take 2 = q "no" then some (.word false, s.drop 2) else none
termination_by n
decreasing_by omega
def lpart (n m : Nat) (s : Cs) : Option (Part × Cs) :=
  if h : n = 0 then none else
  if s.take 4 = q "back" then some (.back, s.drop 4)
  else if s.take 3 = q "do " then (match word (s.drop 3) with
    | none => none
    | some (x, r) => some (.step x, r))
  else if s.take 5 = q "call " then (match word (s.drop 5) with
    | none => none
    | some (x, r) => some (.call x, r))
  else if s.take 6 = q "leave " then (match number (s.drop 6) with
    | none => none
    | some (k, r) => if k = 0 then none else some (.leave k, r))
  else if s.take 1 = q "[" then (match lall (lpart (n - 3) m) (q "]") (q "; ") m (s.drop 1) with
    | none => none
    | some (ps, r) => some (.row ps, r))
  else if s.take 3 = q "if " then
    (match lcond (n - 1) m (s.drop 3) with
    | none => none
    | some (c, r2) => (match takes (q " then ") r2 with
      | none => none
      | some r3 => (match lpart (n - 2) m r3 with
        | none => none
        | some (p, r4) => (match takes (q " else ") r4 with
          | none => none
          | some r5 => (match lpart (n - 2) m r5 with
            | none => none
            | some (p2, r6) => some (.ite c p p2, r6))))))
  else if s.take 6 = q "while " then
    (match lcond (n - 1) m (s.drop 6) with
    | none => none
    | some (c, r2) => (match takes (q ": ") r2 with
      | none => none
      | some r3 => (match lpart (n - 1) m r3 with
        | none => none
        | some (p, r4) => some (.whil c p, r4))))
  else none
termination_by n
decreasing_by all_goals omega
/-! ### weights -/
def wt (c : Nat) : Nat := if c = 91 ∨ c = 40 then 3 else if c = 32 then 1 else 0
def om (s : Cs) : Nat := (s.map wt).sum
theorem om_app (a b : Cs) : om (a ++ b) = om a + om b := by
  unfold om
  rw [List.map_append, List.sum_append]
theorem om_nil : om [] = 0 := rfl
/-! ### takes, word, number -/
theorem takes_some {w s r : Cs} : takes w s = some r ↔ s = w ++ r := by
  unfold takes
  constructor
  · intro h
    by_cases e : s.take w.length = w
    · rw [if_pos e] at h
      have h1 := Option.some.inj h
      rw [← h1]
      calc s = s.take w.length ++ s.drop w.length := (List.take_append_drop _ _).symm
        _ = w ++ s.drop w.length := by rw [e]
    · rw [if_neg e] at h
      cases h
  · rintro rfl
    rw [if_pos (by rw [List.take_left']; rfl), List.drop_left' rfl]
theorem takes_none {w s : Cs} : takes w s = none ↔ ∀ r, s ≠ w ++ r := by
  constructor
  · intro h r e
    rw [takes_some.mpr e] at h
    cases h
  · intro h
    cases e : takes w s with
    | none => rfl
    | some r => exact absurd (takes_some.mp e) (h r)
theorem takes_self (w r : Cs) : takes w (w ++ r) = some r := takes_some.mpr rfl
theorem take_iff {w s : Cs} {n : Nat} (h : w.length = n) : s.take n = w ↔ s = w ++ s.drop n := by
  subst h
  constructor
  · intro e
    calc s = s.take w.length ++ s.drop w.length := (List.take_append_drop _ _).symm
      _ = w ++ s.drop w.length := by rw [e]
  · intro e
    rw [e, List.take_left' rfl]
/-- begins with no letter -/
def nl (r : Cs) : Prop := ∀ c, r.head? = some c → isLet c = false
theorem nl_nil : nl [] := fun _ h => by cases h
theorem nl_cons {c : Nat} {r : Cs} (h : isLet c = false) : nl (c :: r) := fun d e => by
  cases e
  exact h
theorem span_app {p : Nat → Bool} {a r : Cs} (ha : ∀ c ∈ a, p c = true) (hr : ∀ c, r.head? = some c → p c = false) : (a ++ r).takeWhile p = a ∧ (a ++ r).dropWhile p = r := by
  induction a with
  | nil =>
    cases r with
    | nil => exact ⟨rfl, rfl⟩
    | cons c r =>
      have h := hr c rfl
      simp [List.takeWhile_cons, List.dropWhile_cons, h]
  | cons c a ih =>
    have h := ha c (List.mem_cons_self ..)
    have i := ih fun d hd => ha d (List.mem_cons_of_mem _ hd)
    simp [List.takeWhile_cons, List.dropWhile_cons, h, i.1, i.2]
theorem span_head {p : Nat → Bool} (s : Cs) : ∀ c, (s.dropWhile p).head? = some c → p c = false := by
  induction s with
  | nil => intro c h; cases h
  | cons d s ih =>
    intro c h
    by_cases e : p d = true
    · rw [List.dropWhile_cons_of_pos e] at h
      exact ih c h
    · rw [List.dropWhile_cons_of_neg e] at h
      cases h
      simpa using e
theorem span_all {p : Nat → Bool} (s : Cs) : ∀ c ∈ s.takeWhile p, p c = true := by
  induction s with
  | nil => intro c h; cases h
  | cons d s ih =>
    intro c h
    by_cases e : p d = true
    · rw [List.takeWhile_cons_of_pos e] at h
      rcases List.mem_cons.mp h with rfl | h
      · exact e
      · exact ih c h
    · rw [List.takeWhile_cons_of_neg e] at h
      cases h
theorem word_some {s w r : Cs} (h : word s = some (w, r)) : s = w ++ r ∧ Nm w ∧ nl r := by
  unfold word at h
  by_cases e : 0 < (s.takeWhile isLet).length ∧ (s.takeWhile isLet).length ≤ 8
  · rw [if_pos e] at h
    obtain ⟨rfl, rfl⟩ := Prod.mk.inj (Option.some.inj h)
    exact ⟨(List.takeWhile_append_dropWhile ..).symm, ⟨e.1, e.2, span_all s⟩, span_head s⟩
  · rw [if_neg e] at h
    cases h
theorem word_app {w r : Cs} (h : Nm w) (hr : nl r) : word (w ++ r) = some (w, r) := by
  obtain ⟨e1, e2⟩ := span_app (p := isLet) h.all hr
  unfold word
  rw [e1, e2, if_pos ⟨h.pos, h.most⟩]
theorem dig_iff (c : Nat) : isDig c = true ↔ 48 ≤ c ∧ c ≤ 57 := by
  unfold isDig
  have e : DIG = [48, 49, 50, 51, 52, 53, 54, 55, 56, 57] := by decide
  rw [decide_eq_true_iff, e]
  simp only [List.mem_cons, List.mem_nil_iff, or_false]
  omega
theorem num_val {a : Cs} (h : ∀ c ∈ a, isDig c = true) (h0 : 0 < a.length) (h1 : a = q "0" ∨ a.head? ≠ some 48) : numL (PySem.NumText.digitsVal a) = a := by
  have hd : PySem.NumText.AllDigits a := fun c hc => (dig_iff c).mp (h c hc)
  have t := PySem.NumText.toDigits_digitsVal (a.length - 1) a (by omega) hd (by
    cases a with
    | nil => cases h0
    | cons c r =>
      rcases h1 with h1 | h1
      · left
        rw [h1]
        rfl
      · right
        refine ⟨c, r, rfl, ?_⟩
        have := hd c (List.mem_cons_self ..)
        have : c ≠ 48 := fun z => h1 (by rw [z]; rfl)
        omega)
  unfold numL
  rw [t, List.map_map]
  have key : ∀ c ∈ a, (Char.toNat ∘ Char.ofNat) c = c := fun c hc => by
    have := hd c hc
    show (Char.ofNat c).toNat = c
    have hv : c.isValidChar := by left; omega
    simp [Char.ofNat, hv, Char.ofNatAux, Char.toNat]
  rw [List.map_congr_left key]
  simp
theorem fold_lt : ∀ (l : Cs) (a : Nat), (∀ c ∈ l, isDig c = true) → l.foldl (fun acc c => acc * 10 + (c - 48)) a < (a + 1) * 10 ^ l.length
  | [], a, _ => by
    show a < (a + 1) * 10 ^ 0
    omega
  | c :: l, a, h => by
    have hc := (dig_iff c).mp (h c (List.mem_cons_self ..))
    have ih := fold_lt l (a * 10 + (c - 48)) fun d hd => h d (List.mem_cons_of_mem _ hd)
    show l.foldl (fun acc c => acc * 10 + (c - 48)) (a * 10 + (c - 48)) < (a + 1) * 10 ^ (l.length + 1)
    refine Nat.lt_of_lt_of_le ih ?_
    rw [Nat.pow_succ, Nat.mul_comm (10 ^ l.length) 10, ← Nat.mul_assoc]
    exact Nat.mul_le_mul_right _ (by omega)
theorem number_some {s r : Cs} {k : Nat} (h : number s = some (k, r)) : s = numL k ++ r ∧ (∀ c, r.head? = some c → isDig c = false) ∧ k < 1000000000 := by
  unfold number at h
  by_cases e : (0 < (s.takeWhile isDig).length ∧ (s.takeWhile isDig).length ≤ 9) ∧ (s.takeWhile isDig = q "0" ∨ (s.takeWhile isDig).head? ≠ some 48)
  · rw [if_pos e] at h
    obtain ⟨rfl, rfl⟩ := Prod.mk.inj (Option.some.inj h)
    have z := num_val (span_all s) e.1.1 e.2
    refine ⟨by rw [z]; exact (List.takeWhile_append_dropWhile ..).symm, span_head s, ?_⟩
    have b := fold_lt (s.takeWhile isDig) 0 (span_all s)
    refine Nat.lt_of_lt_of_le b ?_
    have e9 := e.1.2
    calc (0 + 1) * 10 ^ (s.takeWhile isDig).length ≤ (0 + 1) * 10 ^ 9 := Nat.mul_le_mul_left _ (Nat.pow_le_pow_right (by decide) e9)
      _ ≤ 1000000000 := by decide
  · rw [if_neg e] at h
    cases h
end M
end

section
set_option linter.all false
set_option maxRecDepth 100000
set_option maxHeartbeats 4000000
/-! Soundness of the program's reader; both readers tell the same. -/
namespace M
open L2 TL
theorem q_yes : q "yes" = [121, 101, 115] := by decide
theorem q_no : q "no" = [110, 111] := by decide
theorem q_not : q "not" = [110, 111, 116] := by decide
theorem q_all : q "all" = [97, 108, 108] := by decide
theorem q_any : q "any" = [97, 110, 121] := by decide
theorem q_3f : q "?" = [63] := by decide
theorem q_28 : q "(" = [40] := by decide
theorem q_29 : q ")" = [41] := by decide
theorem q_2c20 : q ", " = [44, 32] := by decide
theorem q_not28 : q "not(" = [110, 111, 116, 40] := by decide
theorem q_all28 : q "all(" = [97, 108, 108, 40] := by decide
theorem q_any28 : q "any(" = [97, 110, 121, 40] := by decide
theorem q_back : q "back" = [98, 97, 99, 107] := by decide
theorem q_leave : q "leave" = [108, 101, 97, 118, 101] := by decide
theorem q_do : q "do" = [100, 111] := by decide
theorem q_call : q "call" = [99, 97, 108, 108] := by decide
theorem q_if : q "if" = [105, 102] := by decide
theorem q_while : q "while" = [119, 104, 105, 108, 101] := by decide
theorem q_5b : q "[" = [91] := by decide
theorem q_5d : q "]" = [93] := by decide
theorem q_3b20 : q "; " = [59, 32] := by decide
theorem q_20 : q " " = [32] := by decide
theorem q_do20 : q "do " = [100, 111, 32] := by decide
theorem q_call20 : q "call " = [99, 97, 108, 108, 32] := by decide
theorem q_leave20 : q "leave " = [108, 101, 97, 118, 101, 32] := by decide
theorem q_if20 : q "if " = [105, 102, 32] := by decide
theorem q_while20 : q "while " = [119, 104, 105, 108, 101, 32] := by decide
theorem q_3a20 : q ": " = [58, 32] := by decide
theorem q_20then20 : q " then " = [32, 116, 104, 101, 110, 32] := by decide
theorem q_20else20 : q " else " = [32, 101, 108, 115, 101, 32] := by decide
theorem q_0 : q "0" = [48] := by decide
theorem shC_map : ∀ cs : List Cond, shC cs = cs.map Cond.sh
  | [] => rfl
  | c :: cs => by show c.sh :: shC cs = _; rw [shC_map cs]; rfl
theorem shP_map : ∀ ps : List Part, shP ps = ps.map Part.sh
  | [] => rfl
  | p :: ps => by show p.sh :: shP ps = _; rw [shP_map ps]; rfl
theorem wfC_iff : ∀ cs : List Cond, wfC cs ↔ ∀ c ∈ cs, c.wf
  | [] => ⟨fun _ _ h => (nomatch h), fun _ => trivial⟩
  | c :: cs => by
    show (c.wf ∧ wfC cs) ↔ _
    rw [wfC_iff cs]
    simp
theorem wfP_iff : ∀ ps : List Part, wfP ps ↔ ∀ p ∈ ps, p.wf
  | [] => ⟨fun _ _ h => (nomatch h), fun _ => trivial⟩
  | p :: ps => by
    show (p.wf ∧ wfP ps) ↔ _
    rw [wfP_iff ps]
    simp
theorem posP_iff : ∀ ps : List Part, posP ps = true ↔ ∀ p ∈ ps, p.pos = true
  | [] => ⟨fun _ _ h => (nomatch h), fun _ => rfl⟩
  | p :: ps => by
    show (p.pos && posP ps) = true ↔ _
    rw [Bool.and_eq_true, posP_iff ps]
    simp
/-! ### several -/
def tailL (b : Cs) (xs : List Cs) : Cs := (xs.map (b ++ ·)).flatten
theorem join_tail (b x : Cs) : ∀ xs : List Cs, joinL b (x :: xs) = x ++ tailL b xs
  | [] => by show x = x ++ []; rw [List.append_nil]
  | y :: xs => by
    show x ++ (b ++ joinL b (y :: xs)) = x ++ ((b ++ y) ++ tailL b xs)
    rw [join_tail b y xs, List.append_assoc]
section
variable {α : Type} {rd rd' : Cs → Option (α × Cs)} {e b : Cs} {f : α → Cs} {G : α → Prop}
theorem sev_sound (hrd : ∀ s d r, rd s = some (d, r) → s = f d ++ r ∧ G d) : ∀ (m : Nat) (acc : List α) (s : Cs) (ds : List α) (r : Cs), sev rd e b m acc s = some (ds, r) →
    ∃ es, ds = acc ++ es ∧ s = (if acc.isEmpty = true then joinL b (es.map f) else tailL b (es.map f)) ++ (e ++ r) ∧ ∀ d ∈ es, G d
  | 0, _, _, _, _, h => by cases h
  | m + 1, acc, s, ds, r, h => by
    unfold sev at h
    cases ht : takes e s with
    | some r' =>
      rw [ht] at h
      obtain ⟨rfl, rfl⟩ := Prod.mk.inj (Option.some.inj h)
      refine ⟨[], by simp, ?_, fun d hd => nomatch hd⟩
      rw [takes_some.mp ht]
      cases acc <;> rfl
    | none =>
      rw [ht] at h
      dsimp only at h
      cases hb : (if acc.isEmpty = true then some s else takes b s) with
      | none =>
        rw [hb] at h
        cases h
      | some s1 =>
        rw [hb] at h
        dsimp only at h
        cases hr : rd s1 with
        | none =>
          rw [hr] at h
          cases h
        | some p =>
          obtain ⟨d, s2⟩ := p
          rw [hr] at h
          obtain ⟨es, e1, e2, e3⟩ := sev_sound hrd m (acc ++ [d]) s2 ds r h
          obtain ⟨e4, g⟩ := hrd _ _ _ hr
          refine ⟨d :: es, by rw [e1]; simp, ?_, fun x hx => ?_⟩
          · have ne : (acc ++ [d]).isEmpty = false := by cases acc <;> rfl
            rw [ne] at e2
            have e2' : s2 = tailL b (es.map f) ++ (e ++ r) := e2
            cases acc with
            | nil =>
              have e5 : s = s1 := Option.some.inj hb
              show s = joinL b (f d :: es.map f) ++ (e ++ r)
              rw [join_tail, e5, e4, e2', List.append_assoc]
            | cons a acc =>
              have e5 : s = b ++ s1 := takes_some.mp hb
              show s = ((b ++ f d) ++ tailL b (es.map f)) ++ (e ++ r)
              rw [e5, e4, e2']
              simp only [List.append_assoc]
          · rcases List.mem_cons.mp hx with rfl | hx
            · exact g
            · exact e3 x hx
/-- behind an element -/
def lcont (rd : Cs → Option (α × Cs)) (e b : Cs) (m : Nat) (acc : List α) (s : Cs) : Option (List α × Cs) := match takes e s with
  | some r => some (acc, r)
  | none => match takes b s with
    | none => none
    | some s2 => lsev rd e b m acc s2
theorem lsev_succ (m : Nat) (acc : List α) (s : Cs) : lsev rd e b (m + 1) acc s = match rd s with
    | none => none
    | some (d, s1) => lcont rd e b m (acc ++ [d]) s1 := by
  rw [lsev]
  cases rd s with
  | none => rfl
  | some p => obtain ⟨d, s1⟩ := p; rfl
variable {M k : Nat}
theorem sev_tail (hf : ∀ d, f d ≠ []) (hrd : ∀ s d r, rd s = some (d, r) → s = f d ++ r) (hgo : ∀ s d r, s.length ≤ M → om s < k → rd s = some (d, r) → G d → rd' s = some (d, r)) :
    ∀ (m : Nat) (acc : List α) (s : Cs) (ds : List α) (r : Cs), acc ≠ [] → sev rd e b m acc s = some (ds, r) → (∀ d ∈ ds, G d) → s.length ≤ M → om s < k → ∀ m', s.length ≤ m' → lcont rd' e b m' acc s = some (ds, r)
  | 0, _, _, _, _, _, h, _, _, _, _, _ => by cases h
  | m + 1, acc, s, ds, r, ha, h, hG, hM, hk, m', hm => by
    unfold sev at h
    unfold lcont
    cases ht : takes e s with
    | some r' =>
      rw [ht] at h
      exact h
    | none =>
      rw [ht] at h
      have ne : acc.isEmpty = false := by
        cases acc with
        | nil => exact absurd rfl ha
        | cons a acc => rfl
      rw [ne] at h
      dsimp only [Bool.false_eq_true, if_false] at h ⊢
      rw [if_neg (by decide)] at h
      cases hb : takes b s with
      | none =>
        rw [hb] at h
        cases h
      | some s1 =>
        rw [hb] at h
        dsimp only at h ⊢
        cases hr : rd s1 with
        | none =>
          rw [hr] at h
          cases h
        | some p =>
          obtain ⟨d, s2⟩ := p
          rw [hr] at h
          dsimp only at h
          have e1 := takes_some.mp hb
          have e2 := hrd _ _ _ hr
          have l1 : s.length = b.length + s1.length := by rw [e1, List.length_append]
          have l2 : s1.length = (f d).length + s2.length := by rw [e2, List.length_append]
          have l3 : 0 < (f d).length := List.length_pos_iff.mpr (hf d)
          have o1 : om s = om b + om s1 := by rw [e1, om_app]
          have o2 : om s1 = om (f d) + om s2 := by rw [e2, om_app]
          have mem : d ∈ ds := by
            obtain ⟨es, z, _⟩ := sev_sound (G := fun _ => True) (f := f) (fun s d r h => ⟨hrd s d r h, trivial⟩) m (acc ++ [d]) s2 ds r h
            rw [z]
            simp
          obtain ⟨j, rfl⟩ : ∃ j, m' = j + 1 := ⟨m' - 1, by omega⟩
          rw [lsev_succ, hgo s1 d s2 (by omega) (by omega) hr (hG d mem)]
          exact sev_tail hf hrd hgo m (acc ++ [d]) s2 ds r (by simp) h hG (by omega) (by omega) j (by omega)
theorem sev_lall (hf : ∀ d, f d ≠ []) (hrd : ∀ s d r, rd s = some (d, r) → s = f d ++ r) (hgo : ∀ s d r, s.length ≤ M → om s < k → rd s = some (d, r) → G d → rd' s = some (d, r))
    {m m' : Nat} {s : Cs} {ds : List α} {r : Cs} (h : sev rd e b m [] s = some (ds, r)) (hG : ∀ d ∈ ds, G d) (hM : s.length ≤ M) (hk : om s < k) (hm : s.length ≤ m') : lall rd' e b m' s = some (ds, r) := by
  cases m with
  | zero => cases h
  | succ m =>
    unfold sev at h
    unfold lall
    cases ht : takes e s with
    | some r' =>
      rw [ht] at h
      exact h
    | none =>
      rw [ht] at h
      have h : (match rd s with
        | none => none
        | some (d, s2) => sev rd e b m ([] ++ [d]) s2) = some (ds, r) := h
      dsimp only
      cases hr : rd s with
      | none =>
        rw [hr] at h
        cases h
      | some p =>
        obtain ⟨d, s2⟩ := p
        rw [hr] at h
        have e2 := hrd _ _ _ hr
        have l2 : s.length = (f d).length + s2.length := by rw [e2, List.length_append]
        have l3 : 0 < (f d).length := List.length_pos_iff.mpr (hf d)
        have o2 : om s = om (f d) + om s2 := by rw [e2, om_app]
        have mem : d ∈ ds := by
          obtain ⟨es, z, _⟩ := sev_sound (G := fun _ => True) (f := f) (fun s d r h => ⟨hrd s d r h, trivial⟩) m ([] ++ [d]) s2 ds r h
          rw [z]
          simp
        obtain ⟨j, rfl⟩ : ∃ j, m' = j + 1 := ⟨m' - 1, by omega⟩
        rw [lsev_succ, hgo s d s2 hM hk hr (hG d mem)]
        exact sev_tail hf hrd hgo m ([] ++ [d]) s2 ds r (by simp) h hG (by omega) (by omega) j (by omega)
/-- .. and back -/
theorem lsev_sev (he : nl e) (hb : nl b) (hne : e ≠ []) (hnb : b ≠ []) (hrd : ∀ s d r, rd s = some (d, r) → s = f d ++ r) (hgo : ∀ s d r, om s < k → rd' s = some (d, r) → nl r → rd s = some (d, r) ∧ G d) :
    ∀ (m' : Nat) (acc : List α) (s : Cs) (ds : List α) (r : Cs), lsev rd' e b m' acc s = some (ds, r) → om s < k →
    ∃ d s2, rd s = some (d, s2) ∧ G d ∧ (∃ es, ds = acc ++ (d :: es) ∧ ∀ x ∈ es, G x) ∧ ∀ m, s2.length < m → sev rd e b m (acc ++ [d]) s2 = some (ds, r)
  | 0, _, _, _, _, h, _ => by cases h
  | m' + 1, acc, s, ds, r, h, hk => by
    have nlapp : ∀ {w x : Cs}, nl w → w ≠ [] → nl (w ++ x) := fun {w x} hw hn => by
      cases w with
      | nil => exact absurd rfl hn
      | cons c w => exact fun d hd => hw d hd
    rw [lsev_succ] at h
    cases hr : rd' s with
    | none =>
      rw [hr] at h
      cases h
    | some p =>
      obtain ⟨d, s1⟩ := p
      rw [hr] at h
      have h : lcont rd' e b m' (acc ++ [d]) s1 = some (ds, r) := h
      have ne : (acc ++ [d]).isEmpty = false := by cases acc <;> rfl
      unfold lcont at h
      cases ht : takes e s1 with
      | some r' =>
        rw [ht] at h
        obtain ⟨rfl, rfl⟩ := Prod.mk.inj (Option.some.inj h)
        have n1 : nl s1 := by
          rw [takes_some.mp ht]
          exact nlapp he hne
        obtain ⟨g1, g2⟩ := hgo s d s1 hk hr n1
        refine ⟨d, s1, g1, g2, ⟨[], rfl, fun x hx => nomatch hx⟩, fun m hm => ?_⟩
        obtain ⟨j, rfl⟩ : ∃ j, m = j + 1 := ⟨m - 1, by omega⟩
        unfold sev
        rw [ht]
      | none =>
        rw [ht] at h
        dsimp only at h
        cases hb2 : takes b s1 with
        | none =>
          rw [hb2] at h
          cases h
        | some s2 =>
          rw [hb2] at h
          dsimp only at h
          have e1 := takes_some.mp hb2
          have n1 : nl s1 := by
            rw [e1]
            exact nlapp hb hnb
          obtain ⟨g1, g2⟩ := hgo s d s1 hk hr n1
          have e0 := hrd _ _ _ g1
          have o0 : om s = om (f d) + om s1 := by rw [e0, om_app]
          have o1 : om s1 = om b + om s2 := by rw [e1, om_app]
          obtain ⟨d2, s3, i1, i2, ⟨es, i3, i4⟩, i5⟩ := lsev_sev he hb hne hnb hrd hgo m' (acc ++ [d]) s2 ds r h (by omega)
          refine ⟨d, s1, g1, g2, ⟨d2 :: es, by rw [i3]; simp, fun x hx => ?_⟩, fun m hm => ?_⟩
          · rcases List.mem_cons.mp hx with rfl | hx
            · exact i2
            · exact i4 x hx
          · obtain ⟨j, rfl⟩ : ∃ j, m = j + 1 := ⟨m - 1, by omega⟩
            have e3 := hrd _ _ _ i1
            have l1 : s1.length = b.length + s2.length := by rw [e1, List.length_append]
            have l2 : s2.length = (f d2).length + s3.length := by rw [e3, List.length_append]
            have l3 : 0 < b.length := List.length_pos_iff.mpr hnb
            unfold sev
            rw [ht, ne]
            dsimp only
            rw [if_neg (by decide), hb2]
            dsimp only
            rw [i1]
            exact i5 j (by omega)
theorem lall_sev (hf : ∀ d, f d ≠ []) (he : nl e) (hb : nl b) (hne : e ≠ []) (hnb : b ≠ []) (hrd : ∀ s d r, rd s = some (d, r) → s = f d ++ r) (hgo : ∀ s d r, om s < k → rd' s = some (d, r) → nl r → rd s = some (d, r) ∧ G d)
    {m' : Nat} {s : Cs} {ds : List α} {r : Cs} (h : lall rd' e b m' s = some (ds, r)) (hk : om s < k) : sev rd e b (s.length + 1) [] s = some (ds, r) ∧ ∀ d ∈ ds, G d := by
  unfold lall at h
  unfold sev
  cases ht : takes e s with
  | some r' =>
    rw [ht] at h
    obtain ⟨rfl, rfl⟩ := Prod.mk.inj (Option.some.inj h)
    exact ⟨rfl, fun d hd => nomatch hd⟩
  | none =>
    rw [ht] at h
    have h : lsev rd' e b m' [] s = some (ds, r) := h
    obtain ⟨d, s2, i1, i2, ⟨es, i3, i4⟩, i5⟩ := lsev_sev he hb hne hnb hrd hgo m' [] s ds r h hk
    refine ⟨?_, fun x hx => ?_⟩
    · show (match rd s with
        | none => none
        | some (d, s2) => sev rd e b s.length ([] ++ [d]) s2) = some (ds, r)
      rw [i1]
      have e3 := hrd _ _ _ i1
      have l2 : s.length = (f d).length + s2.length := by rw [e3, List.length_append]
      have l3 : 0 < (f d).length := List.length_pos_iff.mpr (hf d)
      exact i5 _ (by omega)
    · rw [i3] at hx
      rcases List.mem_cons.mp hx with rfl | hx
      · exact i2
      · exact i4 x hx
end
end M
end

section
set_option linter.all false
set_option maxRecDepth 100000
set_option maxHeartbeats 4000000
namespace M
open L2 TL
theorem yq_ne (b : Bool) : yq b ≠ [] := by cases b <;> decide
theorem nq_ne (b : Bool) : nq b ≠ [] := by cases b <;> decide
theorem app_ne {a b : Cs} (h : a ≠ []) : a ++ b ≠ [] := by
  cases a with
  | nil => exact absurd rfl h
  | cons c a => simp
theorem sh_ne (c : Cond) : c.sh ≠ [] := by
  cases c with
  | word b => exact yq_ne b
  | ask n => exact app_ne (by decide)
  | neg c =>
    unfold Cond.sh
    exact app_ne (by decide)
  | many b cs =>
    unfold Cond.sh
    exact app_ne (nq_ne b)
theorem shp_ne (p : Part) : p.sh ≠ [] := by
  cases p <;> (unfold Part.sh; first | decide | exact app_ne (by decide))
theorem nm_q {s : String} (h : (decide (0 < (q s).length) && decide ((q s).length ≤ 8) && (q s).all isLet) = true) : Nm (q s) := by
  simp only [Bool.and_eq_true, decide_eq_true_eq] at h
  exact ⟨h.1.1, h.1.2, fun c hc => List.all_eq_true.mp h.2 c hc⟩
/-! ### conditions -/
theorem cond_sound : ∀ (n : Nat) (s : Cs) (c : Cond) (r : Cs), cond n s = some (c, r) → s = c.sh ++ r ∧ c.wf := by
  intro n
  induction n using Nat.strongRecOn with
  | _ n ih =>
    intro s c r h
    rw [cond] at h
    by_cases hn : n = 0
    · rw [dif_pos hn] at h
      cases h
    rw [dif_neg hn] at h
    cases ht : takes (q "?") s with
    | some r1 =>
      rw [ht] at h
      dsimp only at h
      cases hw : word r1 with
      | none =>
        rw [hw] at h
        cases h
      | some p =>
        obtain ⟨w, r2⟩ := p
        rw [hw] at h
        obtain ⟨rfl, rfl⟩ := Prod.mk.inj (Option.some.inj h)
        obtain ⟨e1, e2, _⟩ := word_some hw
        refine ⟨?_, e2⟩
        rw [takes_some.mp ht, e1]
        show _ = (q "?" ++ w) ++ r2
        rw [List.append_assoc]
    | none =>
      rw [ht] at h
      dsimp only at h
      cases hw : word s with
      | none =>
        rw [hw] at h
        cases h
      | some p =>
        obtain ⟨w, r1⟩ := p
        rw [hw] at h
        dsimp only at h
        obtain ⟨e1, e2, e3⟩ := word_some hw
        by_cases h1 : w = q "yes"
        · rw [if_pos h1] at h
          obtain ⟨rfl, rfl⟩ := Prod.mk.inj (Option.some.inj h)
          exact ⟨by rw [e1, h1]; rfl, trivial⟩
        rw [if_neg h1] at h
        by_cases h2 : w = q "no"
        · rw [if_pos h2] at h
          obtain ⟨rfl, rfl⟩ := Prod.mk.inj (Option.some.inj h)
          exact ⟨by rw [e1, h2]; rfl, trivial⟩
        rw [if_neg h2] at h
        by_cases h3 : w = q "not" ∨ w = q "all" ∨ w = q "any"
        · rw [if_pos h3] at h
          cases ht2 : takes (q "(") r1 with
          | none =>
            rw [ht2] at h
            cases h
          | some r2 =>
            rw [ht2] at h
            dsimp only at h
            cases hs : sev (cond (n - 3)) (q ")") (q ", ") (r2.length + 1) [] r2 with
            | none =>
              rw [hs] at h
              cases h
            | some p =>
              obtain ⟨cs, r3⟩ := p
              rw [hs] at h
              dsimp only at h
              obtain ⟨es, i1, i2, i3⟩ := sev_sound (f := Cond.sh) (G := Cond.wf) (fun s d r hd => ih (n - 3) (by omega) s d r hd) _ [] r2 cs r3 hs
              have i1' : cs = es := i1
              have i2' : r2 = joinL (q ", ") (es.map Cond.sh) ++ (q ")" ++ r3) := i2
              subst i1'
              by_cases h4 : w = q "not"
              · rw [if_pos h4] at h
                match cs, h with
                | [c'], h =>
                  obtain ⟨rfl, rfl⟩ := Prod.mk.inj (Option.some.inj h)
                  refine ⟨?_, i3 c' (List.mem_singleton.mpr rfl)⟩
                  rw [e1, takes_some.mp ht2, i2', h4]
                  show q "not" ++ (q "(" ++ (c'.sh ++ (q ")" ++ r3))) = (q "not" ++ (q "(" ++ (c'.sh ++ q ")"))) ++ r3
                  simp only [List.append_assoc]
              · rw [if_neg h4] at h
                obtain ⟨rfl, rfl⟩ := Prod.mk.inj (Option.some.inj h)
                refine ⟨?_, (wfC_iff cs).mpr i3⟩
                have ew : w = nq (decide (w = q "all")) := by
                  by_cases h5 : w = q "all"
                  · rw [decide_eq_true h5]
                    exact h5
                  · rw [decide_eq_false h5]
                    rcases h3 with h3 | h3 | h3
                    · exact absurd h3 h4
                    · exact absurd h3 h5
                    · exact h3
                rw [e1, takes_some.mp ht2, i2']
                show w ++ (q "(" ++ (joinL (q ", ") (cs.map Cond.sh) ++ (q ")" ++ r3))) = (nq (decide (w = q "all")) ++ (q "(" ++ (joinL (q ", ") (shC cs) ++ q ")"))) ++ r3
                rw [← ew, shC_map]
                simp only [List.append_assoc]
        · rw [if_neg h3] at h
          cases h
theorem nl_q {s : String} {r : Cs} (h : (match q s with
    | [] => false
    | c :: _ => !isLet c) = true) : nl (q s ++ r) := by
  cases e : q s with
  | nil =>
    rw [e] at h
    cases h
  | cons c w =>
    rw [e] at h
    refine nl_cons ?_
    have h' : (!isLet c) = true := h
    simpa using h'
theorem q_split (a b c : String) (h : decide (q c = q a ++ q b) = true) (r : Cs) : q c ++ r = q a ++ (q b ++ r) := by
  rw [of_decide_eq_true h, List.append_assoc]
theorem om_q {s : String} {k : Nat} (h : decide (om (q s) = k) = true) : om (q s) = k := of_decide_eq_true h
/-- the program's reader tells it: so does the law's -/
theorem cond_forward : ∀ (n : Nat) (s : Cs) (c : Cond) (r : Cs), cond n s = some (c, r) → ∀ n' m, om s < n' → s.length ≤ m → lcond n' m s = some (c, r) := by
  intro n
  induction n using Nat.strongRecOn with
  | _ n ih =>
    intro s c r h n' m ho hm
    have h0 := h
    rw [cond] at h
    by_cases hn : n = 0
    · rw [dif_pos hn] at h
      cases h
    rw [dif_neg hn] at h
    rw [lcond, dif_neg (by omega)]
    cases ht : takes (q "?") s with
    | some r1 =>
      rw [ht] at h
      dsimp only at h
      have e := takes_some.mp ht
      cases hw : word r1 with
      | none =>
        rw [hw] at h
        cases h
      | some p =>
        obtain ⟨w, r2⟩ := p
        rw [hw] at h
        have h' : some (Cond.ask w, r2) = some (c, r) := h
        rw [e, if_neg (by simp [q_yes, q_no, q_not, q_all, q_any, q_3f, q_28, q_29, q_2c20, q_not28, q_all28, q_any28, q_back, q_leave, q_do, q_call, q_if, q_while, q_5b, q_5d, q_3b20, q_20, q_do20, q_call20, q_leave20, q_if20, q_while20, q_3a20, q_20then20, q_20else20, q_0]), if_pos (by simp [q_yes, q_no, q_not, q_all, q_any, q_3f, q_28, q_29, q_2c20, q_not28, q_all28, q_any28, q_back, q_leave, q_do, q_call, q_if, q_while, q_5b, q_5d, q_3b20, q_20, q_do20, q_call20, q_leave20, q_if20, q_while20, q_3a20, q_20then20, q_20else20, q_0])]
        have e2 : (q "?" ++ r1).drop 1 = r1 := rfl
        rw [e2, hw]
        exact h'
    | none =>
      rw [ht] at h
      dsimp only at h
      cases hw : word s with
      | none =>
        rw [hw] at h
        cases h
      | some p =>
        obtain ⟨w, r1⟩ := p
        rw [hw] at h
        dsimp only at h
        obtain ⟨e1, e2, e3⟩ := word_some hw
        by_cases h1 : w = q "yes"
        · rw [if_pos h1] at h
          rw [e1, h1]
          rw [if_neg ?_, if_neg (by simp [q_yes, q_no, q_not, q_all, q_any, q_3f, q_28, q_29, q_2c20, q_not28, q_all28, q_any28, q_back, q_leave, q_do, q_call, q_if, q_while, q_5b, q_5d, q_3b20, q_20, q_do20, q_call20, q_leave20, q_if20, q_while20, q_3a20, q_20then20, q_20else20, q_0]), if_pos (by simp [q_yes, q_no, q_not, q_all, q_any, q_3f, q_28, q_29, q_2c20, q_not28, q_all28, q_any28, q_back, q_leave, q_do, q_call, q_if, q_while, q_5b, q_5d, q_3b20, q_20, q_do20, q_call20, q_leave20, q_if20, q_while20, q_3a20, q_20then20, q_20else20, q_0])]
          · exact h
          · rw [h1] at e1
            cases r1 with
            | nil => simp [q_yes, q_no, q_not, q_all, q_any, q_3f, q_28, q_29, q_2c20, q_not28, q_all28, q_any28, q_back, q_leave, q_do, q_call, q_if, q_while, q_5b, q_5d, q_3b20, q_20, q_do20, q_call20, q_leave20, q_if20, q_while20, q_3a20, q_20then20, q_20else20, q_0]
            | cons d r1 => simp [q_yes, q_no, q_not, q_all, q_any, q_3f, q_28, q_29, q_2c20, q_not28, q_all28, q_any28, q_back, q_leave, q_do, q_call, q_if, q_while, q_5b, q_5d, q_3b20, q_20, q_do20, q_call20, q_leave20, q_if20, q_while20, q_3a20, q_20then20, q_20else20, q_0]
        rw [if_neg h1] at h
        by_cases h2 : w = q "no"
        · rw [if_pos h2] at h
          rw [e1, h2]
          rw [if_neg ?_, if_neg (by simp [q_yes, q_no, q_not, q_all, q_any, q_3f, q_28, q_29, q_2c20, q_not28, q_all28, q_any28, q_back, q_leave, q_do, q_call, q_if, q_while, q_5b, q_5d, q_3b20, q_20, q_do20, q_call20, q_leave20, q_if20, q_while20, q_3a20, q_20then20, q_20else20, q_0]), if_neg ?_, if_pos (by simp [q_yes, q_no, q_not, q_all, q_any, q_3f, q_28, q_29, q_2c20, q_not28, q_all28, q_any28, q_back, q_leave, q_do, q_call, q_if, q_while, q_5b, q_5d, q_3b20, q_20, q_do20, q_call20, q_leave20, q_if20, q_while20, q_3a20, q_20then20, q_20else20, q_0])]
          · exact h
          · cases r1 with
            | nil => simp [q_yes, q_no, q_not, q_all, q_any, q_3f, q_28, q_29, q_2c20, q_not28, q_all28, q_any28, q_back, q_leave, q_do, q_call, q_if, q_while, q_5b, q_5d, q_3b20, q_20, q_do20, q_call20, q_leave20, q_if20, q_while20, q_3a20, q_20then20, q_20else20, q_0]
            | cons d r1 => simp [q_yes, q_no, q_not, q_all, q_any, q_3f, q_28, q_29, q_2c20, q_not28, q_all28, q_any28, q_back, q_leave, q_do, q_call, q_if, q_while, q_5b, q_5d, q_3b20, q_20, q_do20, q_call20, q_leave20, q_if20, q_while20, q_3a20, q_20then20, q_20else20, q_0]
          · cases r1 with
            | nil => simp [q_yes, q_no, q_not, q_all, q_any, q_3f, q_28, q_29, q_2c20, q_not28, q_all28, q_any28, q_back, q_leave, q_do, q_call, q_if, q_while, q_5b, q_5d, q_3b20, q_20, q_do20, q_call20, q_leave20, q_if20, q_while20, q_3a20, q_20then20, q_20else20, q_0]
            | cons d r1 =>
              cases r1 with
              | nil => simp [q_yes, q_no, q_not, q_all, q_any, q_3f, q_28, q_29, q_2c20, q_not28, q_all28, q_any28, q_back, q_leave, q_do, q_call, q_if, q_while, q_5b, q_5d, q_3b20, q_20, q_do20, q_call20, q_leave20, q_if20, q_while20, q_3a20, q_20then20, q_20else20, q_0]
              | cons d2 r1 =>
                intro z
                have hd : isLet d = false := e3 d rfl
                simp [q_yes, q_no, q_not, q_all, q_any, q_3f, q_28, q_29, q_2c20, q_not28, q_all28, q_any28, q_back, q_leave, q_do, q_call, q_if, q_while, q_5b, q_5d, q_3b20, q_20, q_do20, q_call20, q_leave20, q_if20, q_while20, q_3a20, q_20then20, q_20else20, q_0] at z
                obtain ⟨rfl, _⟩ := z
                exact absurd hd (by decide)
        rw [if_neg h2] at h
        by_cases h3 : w = q "not" ∨ w = q "all" ∨ w = q "any"
        · rw [if_pos h3] at h
          cases ht2 : takes (q "(") r1 with
          | none =>
            rw [ht2] at h
            cases h
          | some r2 =>
            rw [ht2] at h
            dsimp only at h
            cases hs : sev (cond (n - 3)) (q ")") (q ", ") (r2.length + 1) [] r2 with
            | none =>
              rw [hs] at h
              cases h
            | some p =>
              obtain ⟨cs, r3⟩ := p
              rw [hs] at h
              dsimp only at h
              have es : s = w ++ (q "(" ++ r2) := by rw [e1, takes_some.mp ht2]
              have lw : w.length = 3 := by rcases h3 with h3 | h3 | h3 <;> (rw [h3]; rfl)
              have e4 : s.take 4 = w ++ q "(" := (take_iff (by rw [List.length_append, lw]; rfl)).mpr (by
                have : s.drop 4 = r2 := by
                  rw [es, ← List.append_assoc]
                  exact List.drop_left' (by rw [List.length_append, lw]; rfl)
                rw [this, es, List.append_assoc])
              have d4 : s.drop 4 = r2 := by
                rw [es, ← List.append_assoc]
                exact List.drop_left' (by rw [List.length_append, lw]; rfl)
              have oq : om s = om w + (3 + om r2) := by
                rw [es, om_app, om_app]
                rfl
              have ls : s.length = 3 + (1 + r2.length) := by
                rw [es, List.length_append, List.length_append, lw]
                rfl
              have go : lall (lcond (n' - 3) m) (q ")") (q ", ") m r2 = some (cs, r3) :=
                sev_lall (f := Cond.sh) (G := fun _ => True) (M := m) (k := n' - 3) sh_ne (fun s d r hd => (cond_sound _ s d r hd).1) (fun s' d r' h1 h2 h3 _ => ih (n - 3) (by omega) s' d r' h3 (n' - 3) m h2 h1) hs (fun _ _ => trivial) (by omega) (by omega) (by omega)
              rw [e4, d4, go]
              rcases h3 with h3 | h3 | h3
              · subst h3
                rw [if_pos (by left; decide)]
                dsimp only
                rw [if_pos (by decide)]
                rw [if_pos rfl] at h
                exact h
              · subst h3
                rw [if_pos (by right; left; decide)]
                dsimp only
                rw [if_neg (by decide)]
                rw [if_neg (by decide)] at h
                exact h
              · subst h3
                rw [if_pos (by right; right; decide)]
                dsimp only
                rw [if_neg (by decide)]
                rw [if_neg (by decide)] at h
                exact h
        · rw [if_neg h3] at h
          cases h
end M
end

section
set_option linter.all false
set_option maxRecDepth 100000
set_option maxHeartbeats 4000000
namespace M
open L2 TL
theorem take_of {w s : Cs} {n : Nat} (h : s.take n = w) : s = w ++ s.drop n := by rw [← h, List.take_append_drop]
theorem takes_no {w a r : Cs} (h : ∀ x, a ++ r ≠ w ++ x) : takes w (a ++ r) = none := takes_none.mpr h
/-- the law's reader tells it: so does the program's -/
theorem cond_reverse : ∀ (n' : Nat) (m : Nat) (s : Cs) (c : Cond) (r : Cs), lcond n' m s = some (c, r) → nl r → ∀ n, om s < n → cond n s = some (c, r) := by
  intro n'
  induction n' using Nat.strongRecOn with
  | _ n' ih =>
    intro m s c r h hr n ho
    rw [lcond] at h
    by_cases hn : n' = 0
    · rw [dif_pos hn] at h
      cases h
    rw [dif_neg hn] at h
    by_cases h1 : s.take 4 = q "not(" ∨ s.take 4 = q "all(" ∨ s.take 4 = q "any("
    · rw [if_pos h1] at h
      cases hl : lall (lcond (n' - 3) m) (q ")") (q ", ") m (s.drop 4) with
      | none =>
        rw [hl] at h
        cases h
      | some p =>
        obtain ⟨cs, r3⟩ := p
        rw [hl] at h
        dsimp only at h
        have key : ∀ w : Cs, Nm w → w ++ q "(" = s.take 4 → om w = 0 → w.head? ≠ some 63 → w ≠ q "yes" → w ≠ q "no" → (w = q "not" ∨ w = q "all" ∨ w = q "any") →
            cond n s = (if w = q "not" then (match cs with
              | [c] => some (.neg c, r3)
              | _ => none) else some (.many (decide (w = q "all")) cs, r3)) := by
          intro w hw e o1 hq hy hno h3
          have es : s = w ++ (q "(" ++ s.drop 4) := by
            rw [← List.append_assoc, e, List.take_append_drop]
          have os : om s = om w + (3 + om (s.drop 4)) := by
            conv => lhs; rw [es, om_app, om_app]
            rfl
          obtain ⟨g1, _⟩ := lall_sev (e := q ")") (b := q ", ") (f := Cond.sh) (G := fun _ => True) (k := n - 3) (rd := cond (n - 3)) sh_ne (nl_cons (by decide)) (nl_cons (by decide)) (by decide) (by decide) (fun s d r hd => (cond_sound _ s d r hd).1)
            (fun s' d r' h1 h2 h3 => ⟨ih (n' - 3) (by omega) m s' d r' h2 h3 (n - 3) h1, trivial⟩) hl (by omega)
          rw [cond, dif_neg (by omega)]
          have t1 : takes (q "?") s = none := takes_none.mpr fun x z => by
            rw [es] at z
            cases w with
            | nil => exact absurd hw.pos (by decide)
            | cons d w =>
              have z2 : d :: (w ++ (q "(" ++ s.drop 4)) = 63 :: x := z
              injection z2 with z3 _
              exact hq (by rw [z3]; rfl)
          have t2 : word s = some (w, q "(" ++ s.drop 4) := by
            conv => lhs; rw [es]
            exact word_app hw (nl_cons (by decide))
          rw [t1, t2]
          dsimp only
          rw [if_neg hy, if_neg hno, if_pos h3, takes_self]
          dsimp only
          rw [g1] <;> rfl
        rcases h1 with h1 | h1 | h1
        · rw [h1, if_pos rfl] at h
          rw [key (q "not") (nm_q (by decide)) (by rw [h1]; decide) (by decide) (by decide) (by decide) (by decide) (by decide), if_pos rfl]
          exact h
        · rw [h1, if_neg (by decide)] at h
          rw [key (q "all") (nm_q (by decide)) (by rw [h1]; decide) (by decide) (by decide) (by decide) (by decide) (by decide), if_neg (by decide)]
          exact h
        · rw [h1, if_neg (by decide)] at h
          rw [key (q "any") (nm_q (by decide)) (by rw [h1]; decide) (by decide) (by decide) (by decide) (by decide) (by decide), if_neg (by decide)]
          exact h
    rw [if_neg h1] at h
    by_cases h2 : s.take 1 = q "?"
    · rw [if_pos h2] at h
      have e := take_of h2
      rw [cond, dif_neg (by omega), takes_some.mpr e]
      dsimp only
      cases hw : word (s.drop 1) with
      | none =>
        rw [hw] at h
        cases h
      | some p =>
        obtain ⟨w, r2⟩ := p
        rw [hw] at h
        exact h
    rw [if_neg h2] at h
    by_cases h3 : s.take 3 = q "yes"
    · rw [if_pos h3] at h
      obtain ⟨rfl, rfl⟩ := Prod.mk.inj (Option.some.inj h)
      have e := take_of h3
      have t2 : word s = some (q "yes", s.drop 3) := by
        conv => lhs; rw [e]
        exact word_app (nm_q (by decide)) hr
      have t1 : takes (q "?") s = none := takes_none.mpr fun x z => by
        rw [e] at z
        simp [q_yes, q_no, q_not, q_all, q_any, q_3f, q_28, q_29, q_2c20, q_not28, q_all28, q_any28, q_back, q_leave, q_do, q_call, q_if, q_while, q_5b, q_5d, q_3b20, q_20, q_do20, q_call20, q_leave20, q_if20, q_while20, q_3a20, q_20then20, q_20else20, q_0] at z
      rw [cond, dif_neg (by omega), t1, t2]
      dsimp only
      rw [if_pos rfl]
    rw [if_neg h3] at h
    by_cases h4 : s.take 2 = q "no"
    · rw [if_pos h4] at h
      obtain ⟨rfl, rfl⟩ := Prod.mk.inj (Option.some.inj h)
      have e := take_of h4
      have t2 : word s = some (q "no", s.drop 2) := by
        conv => lhs; rw [e]
        exact word_app (nm_q (by decide)) hr
      have t1 : takes (q "?") s = none := takes_none.mpr fun x z => by
        rw [e] at z
        simp [q_yes, q_no, q_not, q_all, q_any, q_3f, q_28, q_29, q_2c20, q_not28, q_all28, q_any28, q_back, q_leave, q_do, q_call, q_if, q_while, q_5b, q_5d, q_3b20, q_20, q_do20, q_call20, q_leave20, q_if20, q_while20, q_3a20, q_20then20, q_20else20, q_0] at z
      rw [cond, dif_neg (by omega), t1, t2]
      dsimp only
      rw [if_neg (by decide), if_pos rfl]
    · rw [if_neg h4] at h
      cases h
/-! ### parts -/
theorem part_sound : ∀ (n : Nat) (s : Cs) (p : Part) (r : Cs), part n s = some (p, r) → s = p.sh ++ r ∧ p.wf := by
  intro n
  induction n using Nat.strongRecOn with
  | _ n ih =>
    intro s p r h
    rw [part] at h
    by_cases hn : n = 0
    · rw [dif_pos hn] at h
      cases h
    rw [dif_neg hn] at h
    cases ht : takes (q "[") s with
    | some r1 =>
      rw [ht] at h
      dsimp only at h
      cases hs : sev (part (n - 3)) (q "]") (q "; ") (r1.length + 1) [] r1 with
      | none =>
        rw [hs] at h
        cases h
      | some z =>
        obtain ⟨ps, r2⟩ := z
        rw [hs] at h
        obtain ⟨rfl, rfl⟩ := Prod.mk.inj (Option.some.inj h)
        obtain ⟨es, i1, i2, i3⟩ := sev_sound (f := Part.sh) (G := Part.wf) (fun s d r hd => ih (n - 3) (by omega) s d r hd) _ [] r1 ps r2 hs
        have i1' : ps = es := i1
        have i2' : r1 = joinL (q "; ") (es.map Part.sh) ++ (q "]" ++ r2) := i2
        subst i1'
        refine ⟨?_, (wfP_iff ps).mpr i3⟩
        rw [takes_some.mp ht, i2']
        show _ = (q "[" ++ (joinL (q "; ") (shP ps) ++ q "]")) ++ r2
        rw [shP_map]
        simp only [List.append_assoc]
    | none =>
      rw [ht] at h
      dsimp only at h
      cases hw : word s with
      | none =>
        rw [hw] at h
        cases h
      | some z =>
        obtain ⟨w, r1⟩ := z
        rw [hw] at h
        dsimp only at h
        obtain ⟨e1, e2, e3⟩ := word_some hw
        by_cases h1 : w = q "back"
        · rw [if_pos h1] at h
          obtain ⟨rfl, rfl⟩ := Prod.mk.inj (Option.some.inj h)
          exact ⟨by rw [e1, h1]; rfl, trivial⟩
        rw [if_neg h1] at h
        cases ht2 : takes (q " ") r1 with
        | none =>
          rw [ht2] at h
          cases h
        | some r2 =>
          rw [ht2] at h
          dsimp only at h
          have es : s = w ++ (q " " ++ r2) := by rw [e1, takes_some.mp ht2]
          by_cases h2 : w = q "leave"
          · rw [if_pos h2] at h
            cases hk : number r2 with
            | none =>
              rw [hk] at h
              cases h
            | some z =>
              obtain ⟨k, r3⟩ := z
              rw [hk] at h
              obtain ⟨rfl, rfl⟩ := Prod.mk.inj (Option.some.inj h)
              refine ⟨?_, (number_some hk).2.2⟩
              rw [es, h2, (number_some hk).1]
              show _ = (q "leave" ++ (q " " ++ numL k)) ++ r3
              simp only [List.append_assoc]
          rw [if_neg h2] at h
          by_cases h3 : w = q "do"
          · rw [if_pos h3] at h
            cases hk : word r2 with
            | none =>
              rw [hk] at h
              cases h
            | some z =>
              obtain ⟨k, r3⟩ := z
              rw [hk] at h
              obtain ⟨rfl, rfl⟩ := Prod.mk.inj (Option.some.inj h)
              obtain ⟨k1, k2, _⟩ := word_some hk
              refine ⟨?_, k2⟩
              rw [es, h3, k1]
              show _ = (q "do" ++ (q " " ++ k)) ++ r3
              simp only [List.append_assoc]
          rw [if_neg h3] at h
          by_cases h4 : w = q "call"
          · rw [if_pos h4] at h
            cases hk : word r2 with
            | none =>
              rw [hk] at h
              cases h
            | some z =>
              obtain ⟨k, r3⟩ := z
              rw [hk] at h
              obtain ⟨rfl, rfl⟩ := Prod.mk.inj (Option.some.inj h)
              obtain ⟨k1, k2, _⟩ := word_some hk
              refine ⟨?_, k2⟩
              rw [es, h4, k1]
              show _ = (q "call" ++ (q " " ++ k)) ++ r3
              simp only [List.append_assoc]
          rw [if_neg h4] at h
          by_cases h5 : w = q "if" ∨ w = q "while"
          · rw [if_pos h5] at h
            cases hc : cond (n - 1) r2 with
            | none =>
              rw [hc] at h
              cases h
            | some z =>
              obtain ⟨c, r3⟩ := z
              rw [hc] at h
              dsimp only at h
              obtain ⟨c1, c2⟩ := cond_sound _ _ _ _ hc
              by_cases h6 : w = q "while"
              · rw [if_pos h6] at h
                cases ht3 : takes (q ": ") r3 with
                | none =>
                  rw [ht3] at h
                  cases h
                | some r4 =>
                  rw [ht3] at h
                  dsimp only at h
                  cases hp : part (n - 1) r4 with
                  | none =>
                    rw [hp] at h
                    cases h
                  | some z =>
                    obtain ⟨p1, r5⟩ := z
                    rw [hp] at h
                    obtain ⟨rfl, rfl⟩ := Prod.mk.inj (Option.some.inj h)
                    obtain ⟨p2, p3⟩ := ih (n - 1) (by omega) _ _ _ hp
                    refine ⟨?_, c2, p3⟩
                    rw [es, h6, c1, takes_some.mp ht3, p2]
                    show _ = (q "while " ++ (c.sh ++ (q ": " ++ p1.sh))) ++ r5
                    simp only [List.append_assoc]
                    rfl
              · rw [if_neg h6] at h
                have hif : w = q "if" := h5.resolve_right h6
                cases ht3 : takes (q " then ") r3 with
                | none =>
                  rw [ht3] at h
                  cases h
                | some r4 =>
                  rw [ht3] at h
                  dsimp only at h
                  cases hp : part (n - 1) r4 with
                  | none =>
                    rw [hp] at h
                    cases h
                  | some z =>
                    obtain ⟨p1, r5⟩ := z
                    rw [hp] at h
                    dsimp only at h
                    obtain ⟨p2, p3⟩ := ih (n - 1) (by omega) _ _ _ hp
                    cases ht4 : takes (q " else ") r5 with
                    | none =>
                      rw [ht4] at h
                      cases h
                    | some r6 =>
                      rw [ht4] at h
                      dsimp only at h
                      cases hp2 : part (n - 1) r6 with
                      | none =>
                        rw [hp2] at h
                        cases h
                      | some z =>
                        obtain ⟨p4, r7⟩ := z
                        rw [hp2] at h
                        obtain ⟨rfl, rfl⟩ := Prod.mk.inj (Option.some.inj h)
                        obtain ⟨p5, p6⟩ := ih (n - 1) (by omega) _ _ _ hp2
                        refine ⟨?_, c2, p3, p6⟩
                        rw [es, hif, c1, takes_some.mp ht3, p2, takes_some.mp ht4, p5]
                        show _ = (q "if " ++ (c.sh ++ (q " then " ++ (p1.sh ++ (q " else " ++ p4.sh))))) ++ r7
                        simp only [List.append_assoc]
                        rfl
          · rw [if_neg h5] at h
            cases h
end M
end

section
set_option linter.all false
set_option maxRecDepth 100000
set_option maxHeartbeats 4000000
namespace M
open L2 TL
theorem om_le {a b s : Cs} (h : s = a ++ b) : om b ≤ om s := by
  rw [h, om_app]
  omega
theorem len_le {a b s : Cs} (h : s = a ++ b) : b.length ≤ s.length := by
  rw [h, List.length_append]
  omega
/-- the program's reader tells a part without leave 0: so does the law's -/
theorem part_forward : ∀ (n : Nat) (s : Cs) (p : Part) (r : Cs), part n s = some (p, r) → p.pos = true → ∀ n' m, om s < n' → s.length ≤ m → lpart n' m s = some (p, r) := by
  intro n
  induction n using Nat.strongRecOn with
  | _ n ih =>
    intro s p r h hpos n' m ho hm
    rw [part] at h
    by_cases hn : n = 0
    · rw [dif_pos hn] at h
      cases h
    rw [dif_neg hn] at h
    cases ht : takes (q "[") s with
    | some r1 =>
      rw [ht] at h
      dsimp only at h
      have e := takes_some.mp ht
      cases hs : sev (part (n - 3)) (q "]") (q "; ") (r1.length + 1) [] r1 with
      | none =>
        rw [hs] at h
        cases h
      | some z =>
        obtain ⟨ps, r2⟩ := z
        rw [hs] at h
        obtain ⟨rfl, rfl⟩ := Prod.mk.inj (Option.some.inj h)
        have os : om s = 3 + om r1 := by rw [e, om_app]; rfl
        have ls : s.length = 1 + r1.length := by rw [e, List.length_append]; rfl
        have go : lall (lpart (n' - 3) m) (q "]") (q "; ") m r1 = some (ps, r2) :=
          sev_lall (f := Part.sh) (G := fun p => p.pos = true) (M := m) (k := n' - 3) shp_ne (fun s d r hd => (part_sound _ s d r hd).1) (fun s' d r' h1 h2 h3 hg => ih (n - 3) (by omega) s' d r' h3 hg (n' - 3) m h2 h1) hs ((posP_iff ps).mp hpos) (by omega) (by omega) (by omega)
        rw [lpart, dif_neg (by omega), e, if_neg (by simp [q_yes, q_no, q_not, q_all, q_any, q_3f, q_28, q_29, q_2c20, q_not28, q_all28, q_any28, q_back, q_leave, q_do, q_call, q_if, q_while, q_5b, q_5d, q_3b20, q_20, q_do20, q_call20, q_leave20, q_if20, q_while20, q_3a20, q_20then20, q_20else20, q_0]), if_neg (by simp [q_yes, q_no, q_not, q_all, q_any, q_3f, q_28, q_29, q_2c20, q_not28, q_all28, q_any28, q_back, q_leave, q_do, q_call, q_if, q_while, q_5b, q_5d, q_3b20, q_20, q_do20, q_call20, q_leave20, q_if20, q_while20, q_3a20, q_20then20, q_20else20, q_0]), if_neg (by simp [q_yes, q_no, q_not, q_all, q_any, q_3f, q_28, q_29, q_2c20, q_not28, q_all28, q_any28, q_back, q_leave, q_do, q_call, q_if, q_while, q_5b, q_5d, q_3b20, q_20, q_do20, q_call20, q_leave20, q_if20, q_while20, q_3a20, q_20then20, q_20else20, q_0]), if_neg (by simp [q_yes, q_no, q_not, q_all, q_any, q_3f, q_28, q_29, q_2c20, q_not28, q_all28, q_any28, q_back, q_leave, q_do, q_call, q_if, q_while, q_5b, q_5d, q_3b20, q_20, q_do20, q_call20, q_leave20, q_if20, q_while20, q_3a20, q_20then20, q_20else20, q_0]), if_pos (by simp [q_yes, q_no, q_not, q_all, q_any, q_3f, q_28, q_29, q_2c20, q_not28, q_all28, q_any28, q_back, q_leave, q_do, q_call, q_if, q_while, q_5b, q_5d, q_3b20, q_20, q_do20, q_call20, q_leave20, q_if20, q_while20, q_3a20, q_20then20, q_20else20, q_0])]
        have e2 : (q "[" ++ r1).drop 1 = r1 := rfl
        rw [e2, go]
    | none =>
      rw [ht] at h
      dsimp only at h
      cases hw : word s with
      | none =>
        rw [hw] at h
        cases h
      | some z =>
        obtain ⟨w, r1⟩ := z
        rw [hw] at h
        dsimp only at h
        obtain ⟨e1, e2, e3⟩ := word_some hw
        by_cases h1 : w = q "back"
        · rw [if_pos h1] at h
          rw [lpart, dif_neg (by omega), e1, h1, if_pos (by simp [q_yes, q_no, q_not, q_all, q_any, q_3f, q_28, q_29, q_2c20, q_not28, q_all28, q_any28, q_back, q_leave, q_do, q_call, q_if, q_while, q_5b, q_5d, q_3b20, q_20, q_do20, q_call20, q_leave20, q_if20, q_while20, q_3a20, q_20then20, q_20else20, q_0])]
          exact h
        rw [if_neg h1] at h
        cases ht2 : takes (q " ") r1 with
        | none =>
          rw [ht2] at h
          cases h
        | some r2 =>
          rw [ht2] at h
          dsimp only at h
          have es : s = w ++ (q " " ++ r2) := by rw [e1, takes_some.mp ht2]
          by_cases h2 : w = q "leave"
          · rw [if_pos h2] at h
            have ex : s = q "leave " ++ r2 := by rw [es, h2]; rfl
            have d6 : s.drop 6 = r2 := by rw [ex]; rfl
            cases hk : number r2 with
            | none =>
              rw [hk] at h
              cases h
            | some z =>
              obtain ⟨k, r3⟩ := z
              rw [hk] at h
              obtain ⟨rfl, rfl⟩ := Prod.mk.inj (Option.some.inj h)
              have hk0 : ¬ k = 0 := by
                have : decide (0 < k) = true := hpos
                have := of_decide_eq_true this
                omega
              rw [lpart, dif_neg (by omega), d6, ex, if_neg (by simp [q_yes, q_no, q_not, q_all, q_any, q_3f, q_28, q_29, q_2c20, q_not28, q_all28, q_any28, q_back, q_leave, q_do, q_call, q_if, q_while, q_5b, q_5d, q_3b20, q_20, q_do20, q_call20, q_leave20, q_if20, q_while20, q_3a20, q_20then20, q_20else20, q_0]), if_neg (by simp [q_yes, q_no, q_not, q_all, q_any, q_3f, q_28, q_29, q_2c20, q_not28, q_all28, q_any28, q_back, q_leave, q_do, q_call, q_if, q_while, q_5b, q_5d, q_3b20, q_20, q_do20, q_call20, q_leave20, q_if20, q_while20, q_3a20, q_20then20, q_20else20, q_0]), if_neg (by simp [q_yes, q_no, q_not, q_all, q_any, q_3f, q_28, q_29, q_2c20, q_not28, q_all28, q_any28, q_back, q_leave, q_do, q_call, q_if, q_while, q_5b, q_5d, q_3b20, q_20, q_do20, q_call20, q_leave20, q_if20, q_while20, q_3a20, q_20then20, q_20else20, q_0]), if_pos (by simp [q_yes, q_no, q_not, q_all, q_any, q_3f, q_28, q_29, q_2c20, q_not28, q_all28, q_any28, q_back, q_leave, q_do, q_call, q_if, q_while, q_5b, q_5d, q_3b20, q_20, q_do20, q_call20, q_leave20, q_if20, q_while20, q_3a20, q_20then20, q_20else20, q_0]), hk]
              dsimp only
              rw [if_neg hk0]
          rw [if_neg h2] at h
          by_cases h3 : w = q "do"
          · rw [if_pos h3] at h
            have ex : s = q "do " ++ r2 := by rw [es, h3]; rfl
            have d3 : s.drop 3 = r2 := by rw [ex]; rfl
            rw [lpart, dif_neg (by omega), d3, ex, if_neg ?_, if_pos (by simp [q_yes, q_no, q_not, q_all, q_any, q_3f, q_28, q_29, q_2c20, q_not28, q_all28, q_any28, q_back, q_leave, q_do, q_call, q_if, q_while, q_5b, q_5d, q_3b20, q_20, q_do20, q_call20, q_leave20, q_if20, q_while20, q_3a20, q_20then20, q_20else20, q_0])]
            · exact h
            · cases r2 <;> simp [q_yes, q_no, q_not, q_all, q_any, q_3f, q_28, q_29, q_2c20, q_not28, q_all28, q_any28, q_back, q_leave, q_do, q_call, q_if, q_while, q_5b, q_5d, q_3b20, q_20, q_do20, q_call20, q_leave20, q_if20, q_while20, q_3a20, q_20then20, q_20else20, q_0]
          rw [if_neg h3] at h
          by_cases h4 : w = q "call"
          · rw [if_pos h4] at h
            have ex : s = q "call " ++ r2 := by rw [es, h4]; rfl
            have d5 : s.drop 5 = r2 := by rw [ex]; rfl
            rw [lpart, dif_neg (by omega), d5, ex, if_neg (by simp [q_yes, q_no, q_not, q_all, q_any, q_3f, q_28, q_29, q_2c20, q_not28, q_all28, q_any28, q_back, q_leave, q_do, q_call, q_if, q_while, q_5b, q_5d, q_3b20, q_20, q_do20, q_call20, q_leave20, q_if20, q_while20, q_3a20, q_20then20, q_20else20, q_0]), if_neg (by simp [q_yes, q_no, q_not, q_all, q_any, q_3f, q_28, q_29, q_2c20, q_not28, q_all28, q_any28, q_back, q_leave, q_do, q_call, q_if, q_while, q_5b, q_5d, q_3b20, q_20, q_do20, q_call20, q_leave20, q_if20, q_while20, q_3a20, q_20then20, q_20else20, q_0]), if_pos (by simp [q_yes, q_no, q_not, q_all, q_any, q_3f, q_28, q_29, q_2c20, q_not28, q_all28, q_any28, q_back, q_leave, q_do, q_call, q_if, q_while, q_5b, q_5d, q_3b20, q_20, q_do20, q_call20, q_leave20, q_if20, q_while20, q_3a20, q_20then20, q_20else20, q_0])]
            exact h
          rw [if_neg h4] at h
          by_cases h5 : w = q "if" ∨ w = q "while"
          · rw [if_pos h5] at h
            cases hc : cond (n - 1) r2 with
            | none =>
              rw [hc] at h
              cases h
            | some z =>
              obtain ⟨c, r3⟩ := z
              rw [hc] at h
              dsimp only at h
              obtain ⟨c1, c2⟩ := cond_sound _ _ _ _ hc
              have o2 : om s = om w + (1 + om r2) := by rw [es, om_app, om_app]; rfl
              have l2 : r2.length ≤ s.length := by rw [es, List.length_append, List.length_append]; omega
              have o3 := om_le c1
              have l3 := len_le c1
              have fc : lcond (n' - 1) m r2 = some (c, r3) := cond_forward _ _ _ _ hc _ _ (by omega) (by omega)
              by_cases h6 : w = q "while"
              · rw [if_pos h6] at h
                cases ht3 : takes (q ": ") r3 with
                | none =>
                  rw [ht3] at h
                  cases h
                | some r4 =>
                  rw [ht3] at h
                  dsimp only at h
                  have o4 := om_le (takes_some.mp ht3)
                  have l4 := len_le (takes_some.mp ht3)
                  cases hp : part (n - 1) r4 with
                  | none =>
                    rw [hp] at h
                    cases h
                  | some z =>
                    obtain ⟨p1, r5⟩ := z
                    rw [hp] at h
                    obtain ⟨rfl, rfl⟩ := Prod.mk.inj (Option.some.inj h)
                    have fp := ih (n - 1) (by omega) _ _ _ hp hpos (n' - 1) m (by omega) (by omega)
                    have ex : s = q "while " ++ r2 := by rw [es, h6]; rfl
                    have d6 : s.drop 6 = r2 := by rw [ex]; rfl
                    rw [lpart, dif_neg (by omega), d6, ex, if_neg (by simp [q_yes, q_no, q_not, q_all, q_any, q_3f, q_28, q_29, q_2c20, q_not28, q_all28, q_any28, q_back, q_leave, q_do, q_call, q_if, q_while, q_5b, q_5d, q_3b20, q_20, q_do20, q_call20, q_leave20, q_if20, q_while20, q_3a20, q_20then20, q_20else20, q_0]), if_neg (by simp [q_yes, q_no, q_not, q_all, q_any, q_3f, q_28, q_29, q_2c20, q_not28, q_all28, q_any28, q_back, q_leave, q_do, q_call, q_if, q_while, q_5b, q_5d, q_3b20, q_20, q_do20, q_call20, q_leave20, q_if20, q_while20, q_3a20, q_20then20, q_20else20, q_0]), if_neg (by simp [q_yes, q_no, q_not, q_all, q_any, q_3f, q_28, q_29, q_2c20, q_not28, q_all28, q_any28, q_back, q_leave, q_do, q_call, q_if, q_while, q_5b, q_5d, q_3b20, q_20, q_do20, q_call20, q_leave20, q_if20, q_while20, q_3a20, q_20then20, q_20else20, q_0]), if_neg (by simp [q_yes, q_no, q_not, q_all, q_any, q_3f, q_28, q_29, q_2c20, q_not28, q_all28, q_any28, q_back, q_leave, q_do, q_call, q_if, q_while, q_5b, q_5d, q_3b20, q_20, q_do20, q_call20, q_leave20, q_if20, q_while20, q_3a20, q_20then20, q_20else20, q_0]), if_neg (by simp [q_yes, q_no, q_not, q_all, q_any, q_3f, q_28, q_29, q_2c20, q_not28, q_all28, q_any28, q_back, q_leave, q_do, q_call, q_if, q_while, q_5b, q_5d, q_3b20, q_20, q_do20, q_call20, q_leave20, q_if20, q_while20, q_3a20, q_20then20, q_20else20, q_0]), if_neg (by simp [q_yes, q_no, q_not, q_all, q_any, q_3f, q_28, q_29, q_2c20, q_not28, q_all28, q_any28, q_back, q_leave, q_do, q_call, q_if, q_while, q_5b, q_5d, q_3b20, q_20, q_do20, q_call20, q_leave20, q_if20, q_while20, q_3a20, q_20then20, q_20else20, q_0]), if_pos (by simp [q_yes, q_no, q_not, q_all, q_any, q_3f, q_28, q_29, q_2c20, q_not28, q_all28, q_any28, q_back, q_leave, q_do, q_call, q_if, q_while, q_5b, q_5d, q_3b20, q_20, q_do20, q_call20, q_leave20, q_if20, q_while20, q_3a20, q_20then20, q_20else20, q_0]), fc]
                    dsimp only
                    rw [ht3]
                    dsimp only
                    rw [fp]
              · rw [if_neg h6] at h
                have hif : w = q "if" := h5.resolve_right h6
                cases ht3 : takes (q " then ") r3 with
                | none =>
                  rw [ht3] at h
                  cases h
                | some r4 =>
                  rw [ht3] at h
                  dsimp only at h
                  have o4 : om r3 = 2 + om r4 := by rw [takes_some.mp ht3, om_app]; rfl
                  have l4 := len_le (takes_some.mp ht3)
                  cases hp : part (n - 1) r4 with
                  | none =>
                    rw [hp] at h
                    cases h
                  | some z =>
                    obtain ⟨p1, r5⟩ := z
                    rw [hp] at h
                    dsimp only at h
                    obtain ⟨s1, _⟩ := part_sound _ _ _ _ hp
                    have o5 := om_le s1
                    have l5 := len_le s1
                    cases ht4 : takes (q " else ") r5 with
                    | none =>
                      rw [ht4] at h
                      cases h
                    | some r6 =>
                      rw [ht4] at h
                      dsimp only at h
                      have o6 := om_le (takes_some.mp ht4)
                      have l6 := len_le (takes_some.mp ht4)
                      cases hp2 : part (n - 1) r6 with
                      | none =>
                        rw [hp2] at h
                        cases h
                      | some z =>
                        obtain ⟨p4, r7⟩ := z
                        rw [hp2] at h
                        obtain ⟨rfl, rfl⟩ := Prod.mk.inj (Option.some.inj h)
                        have hpos' : (p1.pos && p4.pos) = true := hpos
                        obtain ⟨g1, g2⟩ := Bool.and_eq_true_iff.mp hpos'
                        have fp := ih (n - 1) (by omega) _ _ _ hp g1 (n' - 2) m (by omega) (by omega)
                        have fp2 := ih (n - 1) (by omega) _ _ _ hp2 g2 (n' - 2) m (by omega) (by omega)
                        have ex : s = q "if " ++ r2 := by rw [es, hif]; rfl
                        have d3 : s.drop 3 = r2 := by rw [ex]; rfl
                        rw [lpart, dif_neg (by omega), d3, ex, if_neg ?_, if_neg (by simp [q_yes, q_no, q_not, q_all, q_any, q_3f, q_28, q_29, q_2c20, q_not28, q_all28, q_any28, q_back, q_leave, q_do, q_call, q_if, q_while, q_5b, q_5d, q_3b20, q_20, q_do20, q_call20, q_leave20, q_if20, q_while20, q_3a20, q_20then20, q_20else20, q_0]), if_neg ?_, if_neg ?_, if_neg (by simp [q_yes, q_no, q_not, q_all, q_any, q_3f, q_28, q_29, q_2c20, q_not28, q_all28, q_any28, q_back, q_leave, q_do, q_call, q_if, q_while, q_5b, q_5d, q_3b20, q_20, q_do20, q_call20, q_leave20, q_if20, q_while20, q_3a20, q_20then20, q_20else20, q_0]), if_pos (by simp [q_yes, q_no, q_not, q_all, q_any, q_3f, q_28, q_29, q_2c20, q_not28, q_all28, q_any28, q_back, q_leave, q_do, q_call, q_if, q_while, q_5b, q_5d, q_3b20, q_20, q_do20, q_call20, q_leave20, q_if20, q_while20, q_3a20, q_20then20, q_20else20, q_0]), fc]
                        · dsimp only
                          rw [ht3]
                          dsimp only
                          rw [fp]
                          dsimp only
                          rw [ht4]
                          dsimp only
                          rw [fp2]
                        · cases r2 <;> simp [q_yes, q_no, q_not, q_all, q_any, q_3f, q_28, q_29, q_2c20, q_not28, q_all28, q_any28, q_back, q_leave, q_do, q_call, q_if, q_while, q_5b, q_5d, q_3b20, q_20, q_do20, q_call20, q_leave20, q_if20, q_while20, q_3a20, q_20then20, q_20else20, q_0]
                        · cases r2 <;> simp [q_yes, q_no, q_not, q_all, q_any, q_3f, q_28, q_29, q_2c20, q_not28, q_all28, q_any28, q_back, q_leave, q_do, q_call, q_if, q_while, q_5b, q_5d, q_3b20, q_20, q_do20, q_call20, q_leave20, q_if20, q_while20, q_3a20, q_20then20, q_20else20, q_0]
                        · cases r2 <;> simp [q_yes, q_no, q_not, q_all, q_any, q_3f, q_28, q_29, q_2c20, q_not28, q_all28, q_any28, q_back, q_leave, q_do, q_call, q_if, q_while, q_5b, q_5d, q_3b20, q_20, q_do20, q_call20, q_leave20, q_if20, q_while20, q_3a20, q_20then20, q_20else20, q_0]
          · rw [if_neg h5] at h
            cases h
/-- the law's reader tells it: so does the program's, and it has no leave 0 -/
theorem part_reverse : ∀ (n' : Nat) (m : Nat) (s : Cs) (p : Part) (r : Cs), lpart n' m s = some (p, r) → nl r → ∀ n, om s < n → part n s = some (p, r) ∧ p.pos = true := by
  intro n'
  induction n' using Nat.strongRecOn with
  | _ n' ih =>
    intro m s p r h hr n ho
    rw [lpart] at h
    by_cases hn : n' = 0
    · rw [dif_pos hn] at h
      cases h
    rw [dif_neg hn] at h
    rw [part, dif_neg (by omega)]
    -- the first word of s
    have first : ∀ (w : String) (x : Cs), s = q w ++ x → nl x → (decide (0 < (q w).length) && decide ((q w).length ≤ 8) && (q w).all isLet) = true → takes (q "[") s = none ∧ word s = some (q w, x) := fun w x e hx hw => by
      refine ⟨takes_none.mpr fun y z => ?_, by rw [e]; exact word_app (nm_q hw) hx⟩
      have hn := nm_q hw
      rw [e] at z
      cases ew : q w with
      | nil =>
        rw [ew] at hn
        exact absurd hn.pos (by decide)
      | cons d u =>
        rw [ew] at z hn
        have z2 : d :: (u ++ x) = 91 :: y := z
        injection z2 with z3 _
        have := hn.all d (List.mem_cons_self ..)
        rw [z3] at this
        exact absurd this (by decide)
    have sp : ∀ x : Cs, nl (q " " ++ x) := fun x => nl_cons (by decide)
    by_cases h1 : s.take 4 = q "back"
    · rw [if_pos h1] at h
      obtain ⟨rfl, rfl⟩ := Prod.mk.inj (Option.some.inj h)
      obtain ⟨f1, f2⟩ := first "back" _ (take_of h1) hr (by decide)
      rw [f1, f2]
      dsimp only
      rw [if_pos rfl]
      exact ⟨rfl, rfl⟩
    rw [if_neg h1] at h
    by_cases h2 : s.take 3 = q "do "
    · rw [if_pos h2] at h
      have e : s = q "do" ++ (q " " ++ s.drop 3) := take_of h2
      obtain ⟨f1, f2⟩ := first "do" _ e (sp _) (by decide)
      rw [f1, f2]
      dsimp only
      rw [if_neg (by decide), takes_self]
      dsimp only
      rw [if_neg (by decide), if_pos rfl]
      cases hw : word (s.drop 3) with
      | none =>
        rw [hw] at h
        cases h
      | some z =>
        obtain ⟨x, r2⟩ := z
        rw [hw] at h
        obtain ⟨rfl, rfl⟩ := Prod.mk.inj (Option.some.inj h)
        exact ⟨rfl, rfl⟩
    rw [if_neg h2] at h
    by_cases h3 : s.take 5 = q "call "
    · rw [if_pos h3] at h
      have e : s = q "call" ++ (q " " ++ s.drop 5) := take_of h3
      obtain ⟨f1, f2⟩ := first "call" _ e (sp _) (by decide)
      rw [f1, f2]
      dsimp only
      rw [if_neg (by decide), takes_self]
      dsimp only
      rw [if_neg (by decide), if_neg (by decide), if_pos rfl]
      cases hw : word (s.drop 5) with
      | none =>
        rw [hw] at h
        cases h
      | some z =>
        obtain ⟨x, r2⟩ := z
        rw [hw] at h
        obtain ⟨rfl, rfl⟩ := Prod.mk.inj (Option.some.inj h)
        exact ⟨rfl, rfl⟩
    rw [if_neg h3] at h
    by_cases h4 : s.take 6 = q "leave "
    · rw [if_pos h4] at h
      have e : s = q "leave" ++ (q " " ++ s.drop 6) := take_of h4
      obtain ⟨f1, f2⟩ := first "leave" _ e (sp _) (by decide)
      rw [f1, f2]
      dsimp only
      rw [if_neg (by decide), takes_self]
      dsimp only
      rw [if_pos rfl]
      cases hw : number (s.drop 6) with
      | none =>
        rw [hw] at h
        cases h
      | some z =>
        obtain ⟨k, r2⟩ := z
        rw [hw] at h
        dsimp only at h
        by_cases hk : k = 0
        · rw [if_pos hk] at h
          cases h
        · rw [if_neg hk] at h
          obtain ⟨rfl, rfl⟩ := Prod.mk.inj (Option.some.inj h)
          exact ⟨rfl, decide_eq_true (by omega)⟩
    rw [if_neg h4] at h
    by_cases h5 : s.take 1 = q "["
    · rw [if_pos h5] at h
      have e := take_of h5
      have os : om s = 3 + om (s.drop 1) := by
        conv => lhs; rw [e, om_app]
        rfl
      rw [takes_some.mpr e]
      dsimp only
      cases hl : lall (lpart (n' - 3) m) (q "]") (q "; ") m (s.drop 1) with
      | none =>
        rw [hl] at h
        cases h
      | some z =>
        obtain ⟨ps, r2⟩ := z
        rw [hl] at h
        obtain ⟨rfl, rfl⟩ := Prod.mk.inj (Option.some.inj h)
        obtain ⟨g1, g2⟩ := lall_sev (e := q "]") (b := q "; ") (f := Part.sh) (G := fun p => p.pos = true) (k := n - 3) (rd := part (n - 3)) shp_ne (nl_cons (by decide)) (nl_cons (by decide)) (by decide) (by decide) (fun s d r hd => (part_sound _ s d r hd).1)
            (fun s' d r' h1 h2 h3 => ih (n' - 3) (by omega) m s' d r' h2 h3 (n - 3) h1) hl (by omega)
        rw [g1]
        exact ⟨rfl, (posP_iff ps).mpr g2⟩
    rw [if_neg h5] at h
    by_cases h6 : s.take 3 = q "if "
    · rw [if_pos h6] at h
      have e : s = q "if" ++ (q " " ++ s.drop 3) := take_of h6
      have os : om s = 1 + om (s.drop 3) := by
        conv => lhs; rw [e, om_app, om_app]
        have a1 : om (q "if") = 0 := by decide
        have a2 : om (q " ") = 1 := by decide
        omega
      obtain ⟨f1, f2⟩ := first "if" _ e (sp _) (by decide)
      rw [f1, f2]
      dsimp only
      rw [if_neg (by decide), takes_self]
      dsimp only
      rw [if_neg (by decide), if_neg (by decide), if_neg (by decide), if_pos (by left; rfl)]
      cases hc : lcond (n' - 1) m (s.drop 3) with
      | none =>
        rw [hc] at h
        cases h
      | some z =>
        obtain ⟨c, r2⟩ := z
        rw [hc] at h
        dsimp only at h
        cases ht : takes (q " then ") r2 with
        | none =>
          rw [ht] at h
          cases h
        | some r3 =>
          rw [ht] at h
          dsimp only at h
          have e2 := takes_some.mp ht
          have c1 := cond_reverse _ _ _ _ _ hc (by rw [e2]; exact nl_cons (by decide)) (n - 1) (by omega)
          have o2 := om_le (cond_sound _ _ _ _ c1).1
          have o3 := om_le e2
          rw [c1]
          dsimp only
          rw [if_neg (by decide), ht]
          dsimp only
          cases hp : lpart (n' - 2) m r3 with
          | none =>
            rw [hp] at h
            cases h
          | some z =>
            obtain ⟨p1, r4⟩ := z
            rw [hp] at h
            dsimp only at h
            cases ht2 : takes (q " else ") r4 with
            | none =>
              rw [ht2] at h
              cases h
            | some r5 =>
              rw [ht2] at h
              dsimp only at h
              have e3 := takes_some.mp ht2
              obtain ⟨p2, p3⟩ := ih (n' - 2) (by omega) m _ _ _ hp (by rw [e3]; exact nl_cons (by decide)) (n - 1) (by omega)
              have o4 := om_le (part_sound _ _ _ _ p2).1
              have o5 := om_le e3
              rw [p2]
              dsimp only
              rw [ht2]
              dsimp only
              cases hp2 : lpart (n' - 2) m r5 with
              | none =>
                rw [hp2] at h
                cases h
              | some z =>
                obtain ⟨p4, r6⟩ := z
                rw [hp2] at h
                obtain ⟨rfl, rfl⟩ := Prod.mk.inj (Option.some.inj h)
                obtain ⟨p5, p6⟩ := ih (n' - 2) (by omega) m _ _ _ hp2 hr (n - 1) (by omega)
                rw [p5]
                exact ⟨rfl, by show (p1.pos && p4.pos) = true; rw [p3, p6]; rfl⟩
    rw [if_neg h6] at h
    by_cases h7 : s.take 6 = q "while "
    · rw [if_pos h7] at h
      have e : s = q "while" ++ (q " " ++ s.drop 6) := take_of h7
      have os : om s = 1 + om (s.drop 6) := by
        conv => lhs; rw [e, om_app, om_app]
        have a1 : om (q "while") = 0 := by decide
        have a2 : om (q " ") = 1 := by decide
        omega
      obtain ⟨f1, f2⟩ := first "while" _ e (sp _) (by decide)
      rw [f1, f2]
      dsimp only
      rw [if_neg (by decide), takes_self]
      dsimp only
      rw [if_neg (by decide), if_neg (by decide), if_neg (by decide), if_pos (by right; rfl)]
      cases hc : lcond (n' - 1) m (s.drop 6) with
      | none =>
        rw [hc] at h
        cases h
      | some z =>
        obtain ⟨c, r2⟩ := z
        rw [hc] at h
        dsimp only at h
        cases ht : takes (q ": ") r2 with
        | none =>
          rw [ht] at h
          cases h
        | some r3 =>
          rw [ht] at h
          dsimp only at h
          have e2 := takes_some.mp ht
          have c1 := cond_reverse _ _ _ _ _ hc (by rw [e2]; exact nl_cons (by decide)) (n - 1) (by omega)
          have o2 := om_le (cond_sound _ _ _ _ c1).1
          have o3 := om_le e2
          rw [c1]
          dsimp only
          rw [if_pos rfl, ht]
          dsimp only
          cases hp : lpart (n' - 1) m r3 with
          | none =>
            rw [hp] at h
            cases h
          | some z =>
            obtain ⟨p1, r4⟩ := z
            rw [hp] at h
            obtain ⟨rfl, rfl⟩ := Prod.mk.inj (Option.some.inj h)
            obtain ⟨p2, p3⟩ := ih (n' - 1) (by omega) m _ _ _ hp hr (n - 1) (by omega)
            rw [p2]
            exact ⟨rfl, p3⟩
    · rw [if_neg h7] at h
      cases h
/-! ### what is told of a whole text -/
def readC (n : Nat) (s : Cs) : Option Cond := match cond n s with
  | none => none
  | some (c, _) => if c.sh = s then some c else none
def readP (n : Nat) (s : Cs) : Option Part := match part n s with
  | none => none
  | some (p, _) => if p.sh = s ∧ p.pos = true then some p else none
def lawC (n m : Nat) (s : Cs) : Option Cond := match lcond n m s with
  | none => none
  | some (c, r) => if r = [] then some c else none
def lawP (n m : Nat) (s : Cs) : Option Part := match lpart n m s with
  | none => none
  | some (p, r) => if r = [] then some p else none
theorem readC_eq {n n' m : Nat} {s : Cs} (h1 : om s < n) (h2 : om s < n') (hm : s.length ≤ m) : readC n s = lawC n' m s := by
  unfold readC lawC
  cases hc : cond n s with
  | none =>
    cases hl : lcond n' m s with
    | none => rfl
    | some z =>
      obtain ⟨c, r⟩ := z
      dsimp only
      by_cases hr : r = []
      · subst hr
        rw [cond_reverse _ _ _ _ _ hl nl_nil n h1] at hc
        cases hc
      · rw [if_neg hr]
  | some z =>
    obtain ⟨c, r⟩ := z
    rw [cond_forward _ _ _ _ hc n' m h2 hm]
    dsimp only
    have e := (cond_sound _ _ _ _ hc).1
    by_cases hr : r = []
    · rw [if_pos hr, if_pos (by rw [e, hr, List.append_nil])]
    · rw [if_neg hr, if_neg fun z => hr (by
        rw [e] at z
        have l := congrArg List.length z
        rw [List.length_append] at l
        exact List.length_eq_zero_iff.mp (by omega))]
theorem readP_eq {n n' m : Nat} {s : Cs} (h1 : om s < n) (h2 : om s < n') (hm : s.length ≤ m) : readP n s = lawP n' m s := by
  unfold readP lawP
  cases hc : part n s with
  | none =>
    cases hl : lpart n' m s with
    | none => rfl
    | some z =>
      obtain ⟨c, r⟩ := z
      dsimp only
      by_cases hr : r = []
      · subst hr
        rw [(part_reverse _ _ _ _ _ hl nl_nil n h1).1] at hc
        cases hc
      · rw [if_neg hr]
  | some z =>
    obtain ⟨c, r⟩ := z
    dsimp only
    have e := (part_sound _ _ _ _ hc).1
    have whole : c.sh = s ↔ r = [] := by
      constructor
      · intro z
        rw [e] at z
        have l := congrArg List.length z
        rw [List.length_append] at l
        exact List.length_eq_zero_iff.mp (by omega)
      · intro z
        rw [e, z, List.append_nil]
    by_cases hp : c.pos = true
    · rw [part_forward _ _ _ _ hc hp n' m h2 hm]
      dsimp only
      by_cases hr : r = []
      · rw [if_pos hr, if_pos ⟨whole.mpr hr, hp⟩]
      · rw [if_neg hr, if_neg fun z => hr (whole.mp z.1)]
    · rw [if_neg fun z => hp z.2]
      cases hl : lpart n' m s with
      | none => rfl
      | some z =>
        obtain ⟨c2, r2⟩ := z
        dsimp only
        by_cases hr : r2 = []
        · subst hr
          obtain ⟨z1, z2⟩ := part_reverse _ _ _ _ _ hl nl_nil n h1
          rw [z1] at hc
          obtain ⟨rfl, _⟩ := Prod.mk.inj (Option.some.inj hc)
          exact absurd z2 hp
        · rw [if_neg hr]
theorem lawC_sh {n m : Nat} {s : Cs} {c : Cond} (h : lawC n m s = some c) : c.sh = s ∧ c.wf := by
  unfold lawC at h
  cases hl : lcond n m s with
  | none =>
    rw [hl] at h
    cases h
  | some z =>
    obtain ⟨c', r⟩ := z
    rw [hl] at h
    dsimp only at h
    by_cases hr : r = []
    · rw [if_pos hr] at h
      cases h
      subst hr
      obtain ⟨e, w⟩ := cond_sound _ _ _ _ (cond_reverse _ _ _ _ _ hl nl_nil (om s + 1) (by omega))
      exact ⟨by rw [e, List.append_nil], w⟩
    · rw [if_neg hr] at h
      cases h
theorem lawP_sh {n m : Nat} {s : Cs} {p : Part} (h : lawP n m s = some p) : p.sh = s ∧ p.wf ∧ p.pos = true := by
  unfold lawP at h
  cases hl : lpart n m s with
  | none =>
    rw [hl] at h
    cases h
  | some z =>
    obtain ⟨c', r⟩ := z
    rw [hl] at h
    dsimp only at h
    by_cases hr : r = []
    · rw [if_pos hr] at h
      cases h
      subst hr
      obtain ⟨z1, z2⟩ := part_reverse _ _ _ _ _ hl nl_nil (om s + 1) (by omega)
      obtain ⟨e, w⟩ := part_sound _ _ _ _ z1
      exact ⟨by rw [e, List.append_nil], w, z2⟩
    · rw [if_neg hr] at h
      cases h
end M
end

section
set_option Elab.async false
set_option linter.all false
set_option maxRecDepth 100000
set_option maxHeartbeats 4000000
/-! k93: the small defs. The bodies' terms are printed by mk.py. -/
namespace K93
open PySem PySem.Spec PyProof.Rows L2 He HL
abbrev P0 : Program := PySem.Challenge.pw_bynamealone_k93_facts_texts_spoilt
abbrev CN (K : PySem.W.Frag) : Addr := ga K "NoText"
def supO (b : List Stmt) : Expr := match b with
  | [.Expr (.Call (.Attribute o _ _) _ _ _) _] => o
  | _ => .Constant .none 0 ⟨0, 0, 0, 0⟩
theorem pmkN {X : Cx} {k : Nat} {p pos : Pos} (W : Wl X.K X.mg) (hr : Room (k + 1) X.A) (hP : X.prog = P0 := by rfl) (hg : Gl X "NoText" := by rfl) : PMk X (.Call (.Name "NoText" p) [] [] pos) (XR.tMkN (CN X.K)) := by
  subst_eqs
  refine XR.pmk_noarg (pl := fun env => do return (← importBound (supO x_NoText.body) env).getD true) (file := "/claim/cut.py") (name := "__init__") (qual := x_NoText.qual) (params := x_NoText.params) (scope := x_NoText.scope) (W.na_x_NoText) ⟨by decide +kernel, by decide +kernel, by decide +kernel, by decide +kernel, by decide +kernel, by decide +kernel, by decide +kernel⟩
    ⟨fun _ _ _ _ => rfl, fun _ _ _ _ => rfl, fun _ _ _ _ => rfl⟩ ⟨_, rfl, rfl⟩ (fun _ _ _ _ _ _ _ _ => rfl) (by rw [hP]; decide +kernel) (by rw [hP]; decide +kernel) (hr.mono (by omega)) hg W.g_NoText
section
variable {w : World} {K : PySem.W.Frag} {mg : Str → Option Value} {base : Heap}
/-- a def of the text keeps its promise -/
abbrev OkD (w : World) (K : PySem.W.Frag) (mg : Str → Option Value) (base : Heap) (CX : CXT) (k : Nat) (d : DefD) (ps : List Str) (sp : Sp) : Prop := HL.Ok P0 w K mg base CX k d.at_ ps sp
abbrev CXN (w : World) : CXT := L2.CX P0 w
theorem ofq_tl (s : String) : (Str.ofString s).cps.toList = M.q s := by
  rw [HL.ofq]
  rfl
theorem isLet_in (c : Nat) : decide (c ∈ (Str.ofString "abcdefghijklmnopqrstuvwxyz").cps.toList) = M.isLet c := by
  rw [ofq_tl]
  rfl
theorem isDig_in (c : Nat) : decide (c ∈ (Str.ofString "0123456789").cps.toList) = M.isDig c := by
  rw [ofq_tl]
  rfl
theorem all_id {α : Type} (f : α → Bool) (l : List α) : (l.map f).all id = l.all f := by
  rw [List.all_map]
  rfl
abbrev n_need : List Str := ["truth"]
theorem sc_need : FnScope n_need ["truth"] (defScope s_need) := ⟨rfl, rfl, rfl, by decide +kernel, rfl, by decide +kernel, by decide +kernel⟩
theorem bi_need : ∀ (kV doc pm : Value) (an : Option Addr) (cdv ct : Value) (us : List Value), us.length = 1 → bindArgs (PySem.W.fnOf d_need.name d_need.qual d_need.params d_need.body d_need.scope .none kV doc pm an cdv ct) ⟨us, []⟩ = pure ([("truth" : Str)].zip us) := fun kV doc pm an cdv ct us hu => by
  match us, hu with
  | [u0], _ => rfl
def spNeed (K : PySem.W.Frag) : Sp := fun vs H Q E => ∃ b, vs = [.bl b] ∧ (b = true → Q .non H) ∧ (b = false → E (.ref (CN K)) none H)
theorem o_need (W : Wl K mg) : OkD w K mg base (CXN w) 2 d_need ["truth"] (spNeed K) := by
  refine HL.ok_of W.D_need sc_need (fun vs H Q E ⟨b, h, _⟩ => by rw [h]; rfl) bi_need fun cdv A outer s H vs Q E hr h => ?_
  have tk := takes_of (X := cxOf (CXN w) P0 w K mg base n_need d_need.qual d_need.scope (fAd K d_need.at_) cdv A outer s H E) rfl rfl rfl rfl
  refine ⟨_, (pss_one (ps_if (pt_not (pt_truth (pv 0) (by intro _; rfl))) (pss_one (ps_raise rfl tk (pmkN W hr))) pss_nil)), ?_⟩
  obtain ⟨b, rfl, hT, hF⟩ := h
  refine ⟨_, rfl, b, rfl, ?_⟩
  cases b with
  | true => exact iteF (hT rfl)
  | false => exact iteT (hF rfl)
abbrev n_need_text : List Str := ["text"]
theorem sc_need_text : FnScope n_need_text ["text"] (defScope s_need_text) := ⟨rfl, rfl, rfl, by decide +kernel, rfl, by decide +kernel, by decide +kernel⟩
theorem bi_need_text : ∀ (kV doc pm : Value) (an : Option Addr) (cdv ct : Value) (us : List Value), us.length = 1 → bindArgs (PySem.W.fnOf d_need_text.name d_need_text.qual d_need_text.params d_need_text.body d_need_text.scope .none kV doc pm an cdv ct) ⟨us, []⟩ = pure ([("text" : Str)].zip us) := fun kV doc pm an cdv ct us hu => by
  match us, hu with
  | [u0], _ => rfl
/-- what is no text -/
def NoStr (K : PySem.W.Frag) (H : Hp) (v : V) : Prop := ∃ t, TyX K H v (.type t) ∧ PySem.W.kitOne K (.type t) (.type "str") = some false
def spNeedText (K : PySem.W.Frag) : Sp := fun vs H Q E => ∃ v, vs = [v] ∧ ((∃ s, v = .str s ∧ Q .non H) ∨ (NoStr K H v ∧ E (.ref (CN K)) none H))
theorem o_need_text (W : Wl K mg) : OkD w K mg base (CXN w) 2 d_need_text ["text"] (spNeedText K) := by
  refine HL.ok_of W.D_need_text sc_need_text (fun vs H Q E ⟨b, h, _⟩ => by rw [h]; rfl) bi_need_text fun cdv A outer s H vs Q E hr h => ?_
  have tk := takes_of (X := cxOf (CXN w) P0 w K mg base n_need_text d_need_text.qual d_need_text.scope (fAd K d_need_text.at_) cdv A outer s H E) rfl rfl rfl rfl
  refine ⟨_, (pss_one (ps_if (pt_not (pt_val (pe_callB call_isi (by rfl) W.f_isinstance (by decide +kernel) (pa_cons (pv 0) (pa_cons (pe_bltn (v := .ty "str") (by rfl) W.f_str (by decide +kernel) rfl) pa_nil))))) (pss_one (ps_raise rfl tk (pmkN W hr))) pss_nil)), ?_⟩
  obtain ⟨v, rfl, ⟨s, rfl, hq⟩ | ⟨⟨t, ht, hk⟩, he⟩⟩ := h
  · refine ⟨_, rfl, _, _, _, _, true, rfl, .ty _, .base (.str s), kit_ty (by decide +kernel), _, rfl, ?_⟩
    exact iteF hq
  · refine ⟨_, rfl, _, _, _, _, false, rfl, .ty _, ht, hk, _, rfl, ?_⟩
    exact iteT he
abbrev n_is_name : List Str := ["thing", "sign"]
theorem sc_is_name : FnScope n_is_name ["thing"] (defScope s_is_name) := ⟨rfl, rfl, rfl, by decide +kernel, rfl, by decide +kernel, by decide +kernel⟩
theorem bi_is_name : ∀ (kV doc pm : Value) (an : Option Addr) (cdv ct : Value) (us : List Value), us.length = 1 → bindArgs (PySem.W.fnOf d_is_name.name d_is_name.qual d_is_name.params d_is_name.body d_is_name.scope .none kV doc pm an cdv ct) ⟨us, []⟩ = pure ([("thing" : Str)].zip us) := fun kV doc pm an cdv ct us hu => by
  match us, hu with
  | [u0], _ => rfl
def spIsName : Sp := fun vs H Q _ => ∃ n, vs = [.str (S n)] ∧ n.length ≤ 1000000 ∧ ∀ H', Same H H' → Q (.bl (decide (0 < n.length ∧ n.length ≤ 8) && n.all M.isLet)) H'
theorem o_is_name (W : Wl K mg) : OkD w K mg base CX0 1 d_is_name ["thing"] spIsName := by
  refine HL.ok_of0 W.D_is_name sc_is_name (fun vs H Q E ⟨b, h, _⟩ => by rw [h]; rfl) bi_is_name fun cdv A outer s H vs Q E hr h => ?_
  have nd := sc_is_name.nd
  obtain ⟨tL, hc_LETTERS⟩ := W.c_LETTERS
  obtain ⟨tN, hc_LONGEST_NAME⟩ := W.c_LONGEST_NAME
  have NN : List Str := n_is_name
  refine ⟨_, (pss_one (ps_ret (pe_and (pe_callB call_isi (by rfl) W.f_isinstance (by decide +kernel) (pa_cons (pv 0) (pa_cons (pe_bltn (v := .ty "str") (by rfl) W.f_str (by decide +kernel) rfl) pa_nil))) (pe_and (pe_chain op_lt op_le pe_int (pe_callB call_len_str (by rfl) W.f_len (by decide +kernel) (pa_cons (pv 0) pa_nil)) (pe_glob (v := .int 8) (by rfl) hc_LONGEST_NAME ⟨_, rfl⟩)) (pe_one (pe_callB (cr_all rfl) (by rfl) W.f_all (by decide +kernel) (pa_cons (pe_lc (own := [("sign", 1)]) (g := gName 1) (tt := tYes) (by rfl) nd (pi_str (pv 0)) (blkOk_by (own := [("sign", 1)]) (N := n_is_name) (sc := defScope s_is_name) (by decide +kernel)) (fun _ _ _ _ _ => pg_name (i := 1) nd rfl (Or.inl rfl)) (fun _ _ _ _ _ => pts_nil) (fun _ _ _ _ _ => (pe_cmpR op_in_sign (pv 1) (pe_glob (v := .str "abcdefghijklmnopqrstuvwxyz") (by rfl) hc_LETTERS ⟨_, rfl⟩) (by rfl)))) pa_nil))))))), ?_⟩
  obtain ⟨n, rfl, hn, hq⟩ := h
  refine ⟨_, rfl, _, _, _, _, true, rfl, .ty _, .base (.str _), kit_ty (by decide +kernel), _, rfl, ?_⟩
  refine iteT ⟨_, rfl, _, rfl, by rw [S_len]; exact small hn, _, _, rfl, rfl, ?_⟩
  have b1 : decide ((0 : Int) < ((S n).length : Nat)) = decide (0 < n.length) := by
    rw [S_len]
    exact decide_eq_decide.mpr (by omega)
  have b2 : decide ((((S n).length : Nat) : Int) ≤ 8) = decide (n.length ≤ 8) := by
    rw [S_len]
    exact decide_eq_decide.mpr (by omega)
  refine ⟨_, rfl, ite2 (fun h1 => ?_) (fun h1 => ?_)⟩
  · rw [b1] at h1
    have h1 := of_decide_eq_true h1
    refine ⟨_, _, rfl, rfl, _, rfl, ite2 (fun h2 => ?_) (fun h2 => ?_)⟩
    · rw [b2] at h2
      have h2 := of_decide_eq_true h2
      refine ⟨_, rfl, _, rfl, fun D hD => HL.lcS (out := n.map fun c => V.bl (M.isLet c)) hD (by simp [S]) (small hn) (fun k c y H Q hx ho e hl hq => ?_) fun H e hl => ?_⟩
      · refine ⟨_, rfl, _, _, rfl, rfl, ?_⟩
        have hc : n[k]? = some c := by simpa [S] using hx
        rw [List.getElem?_map, hc] at ho
        have ho : some (V.bl (M.isLet c)) = some y := ho
        cases ho
        rw [isLet_in]
        exact hq _ (Same.refl _)
      · refine ⟨_, n.map M.isLet, rfl, .inl (.inl (by rw [hl, List.map_map] <;> rfl)), ?_⟩
        rw [all_id]
        have q := hq H e
        rw [decide_eq_true (p := 0 < n.length ∧ n.length ≤ 8) ⟨h1, h2⟩, Bool.true_and] at q
        exact q
    · rw [b2] at h2
      have q := hq H (Same.refl _)
      rw [decide_eq_false (p := 0 < n.length ∧ n.length ≤ 8) (fun z => h2 (decide_eq_true z.2)), Bool.false_and] at q
      exact q
  · rw [b1] at h1
    refine ⟨_, rfl, iteF ?_⟩
    have q := hq H (Same.refl _)
    rw [decide_eq_false (p := 0 < n.length ∧ n.length ≤ 8) (fun z => h1 (decide_eq_true z.1)), Bool.false_and] at q
    exact q
end
end K93
end

section
set_option Elab.async false
set_option linter.all false
set_option maxRecDepth 100000
set_option maxHeartbeats 4000000
/-! k93: the reader's small methods. -/
namespace K93
open PySem PySem.Spec PyProof.Rows L2 He HL
theorem cut_ij (s : List Nat) (i j : Nat) : cutS (S s) (some (i : Int)) (some (j : Int)) = S ((s.drop i).take (j - i)) := by
  unfold cutS
  rw [show (S s).length = s.length from S_len s, HT.sIx_nat, HT.sIx_nat]
  show S ((s.drop _).take _) = _
  congr 1
  apply List.ext_getElem?
  intro k
  simp only [List.getElem?_take, List.getElem?_drop]
  by_cases h : s.length ≤ i
  · rw [List.getElem?_eq_none (by omega), List.getElem?_eq_none (by omega)]
    simp
  · by_cases h2 : s.length ≤ i + k
    · rw [List.getElem?_eq_none (by omega), List.getElem?_eq_none (by omega)]
      simp
    · rw [show min i s.length = i by omega]
      by_cases h3 : k < j - i
      · rw [if_pos h3, if_pos (by omega)]
      · rw [if_neg h3, if_neg (by omega)]
theorem cut_i (s : List Nat) (i : Nat) : cutS (S s) (some (i : Int)) none = S (s.drop i) := by
  unfold cutS
  rw [show (S s).length = s.length from S_len s, HT.sIx_nat, HT.sIx_none]
  show S ((s.drop _).take _) = _
  congr 1
  apply List.ext_getElem?
  intro k
  simp only [List.getElem?_take, List.getElem?_drop]
  by_cases h : s.length ≤ i
  · rw [List.getElem?_eq_none (by omega), List.getElem?_eq_none (by omega)]
    simp
  · rw [show min i s.length = i by omega]
    by_cases h3 : k < s.length - i
    · rw [if_pos h3]
    · rw [if_neg h3, List.getElem?_eq_none (by omega)]
theorem cut_j (s : List Nat) (j : Nat) : cutS (S s) none (some (j : Int)) = S (s.take j) := by
  unfold cutS
  rw [show (S s).length = s.length from S_len s, HT.sIx_nat, HT.sIx_none]
  show S ((s.drop 0).take _) = _
  congr 1
  rw [List.drop_zero, Nat.sub_zero, Nat.min_comm]
  apply List.ext_getElem?
  intro k
  simp only [List.getElem?_take]
  by_cases h3 : k < s.length
  · by_cases h4 : k < j
    · rw [if_pos (by omega), if_pos h4]
    · rw [if_neg (by omega), if_neg h4]
  · rw [List.getElem?_eq_none (by omega)]
    simp
/-! ### scanning -/
theorem tw_take {f : Nat → Bool} : ∀ (l : List Nat) (n : Nat), (∀ k, k < n → ∃ c, l[k]? = some c ∧ f c = true) → (∀ c, l[n]? = some c → f c = false) → l.take n = l.takeWhile f ∧ n = (l.takeWhile f).length
  | [], 0, _, _ => ⟨rfl, rfl⟩
  | [], n + 1, h, _ => by
    obtain ⟨c, e, _⟩ := h 0 (by omega)
    simp at e
  | c :: l, 0, _, h => by
    have q := h c (by simp)
    rw [List.takeWhile_cons_of_neg (by rw [q]; simp)]
    exact ⟨rfl, rfl⟩
  | c :: l, n + 1, h, h2 => by
    obtain ⟨d, e, q⟩ := h 0 (by omega)
    have : c = d := by simpa using e
    subst this
    rw [List.takeWhile_cons_of_pos q]
    obtain ⟨e1, e2⟩ := tw_take l n (fun k hk => by simpa using h (k + 1) (by omega)) (fun c' z => h2 c' (by simpa using z))
    exact ⟨by rw [List.take_succ_cons, e1], by rw [List.length_cons, ← e2]⟩
/-- all signs from i to e are f's -/
def Sc (f : Nat → Bool) (s : List Nat) (i e : Nat) : Prop := i ≤ e ∧ ∀ k, i ≤ k → k < e → ∃ c, s[k]? = some c ∧ f c = true
theorem Sc.start (f : Nat → Bool) (s : List Nat) (i : Nat) : Sc f s i i := ⟨Nat.le_refl _, fun k h1 h2 => by omega⟩
theorem Sc.next {f : Nat → Bool} {s : List Nat} {i e c : Nat} (h : Sc f s i e) (hc : s[e]? = some c) (hf : f c = true) : Sc f s i (e + 1) := ⟨by have := h.1; omega, fun k h1 h2 => by
  by_cases q : k = e
  · rw [q]
    exact ⟨c, hc, hf⟩
  · exact h.2 k h1 (by omega)⟩
theorem Sc.stop {f : Nat → Bool} {s : List Nat} {i e : Nat} (h : Sc f s i e) (hn : ∀ c, s[e]? = some c → f c = false) : (s.drop i).take (e - i) = (s.drop i).takeWhile f ∧ e = i + ((s.drop i).takeWhile f).length := by
  have h1 := h.1
  obtain ⟨e1, e2⟩ := tw_take (s.drop i) (e - i) (fun k hk => by
    rw [List.getElem?_drop]
    exact h.2 (i + k) (by omega) (by omega)) (fun c z => by
    rw [List.getElem?_drop, show i + (e - i) = e by omega] at z
    exact hn c z)
  exact ⟨e1, by omega⟩
section
variable {w : World} {K : PySem.W.Frag} {mg : Str → Option Value} {base : Heap}
abbrev RC (K : PySem.W.Frag) : Addr := ga K "Reader"
/-- the reader at p: its text, its place -/
def RdAt (K : PySem.W.Frag) (H : Hp) (p : Addr) (s : List Nat) (i : Nat) : Prop := ∃ dx, H p = some (.ins (RC K) dx [("its_text", .str (S s)), ("its_place", .int (i : Nat))])
abbrev n_Reader_init : List Str := ["self", "text"]
theorem sc_Reader_init : FnScope n_Reader_init ["self", "text"] (defScope s_Reader_init) := ⟨rfl, rfl, rfl, by decide +kernel, rfl, by decide +kernel, by decide +kernel⟩
theorem bi_Reader_init : ∀ (kV doc pm : Value) (an : Option Addr) (cdv ct : Value) (us : List Value), us.length = 2 → bindArgs (PySem.W.fnOf d_Reader_init.name d_Reader_init.qual d_Reader_init.params d_Reader_init.body d_Reader_init.scope .none kV doc pm an cdv ct) ⟨us, []⟩ = pure ([("self" : Str), ("text" : Str)].zip us) := fun kV doc pm an cdv ct us hu => by
  match us, hu with
  | [u0, u1], _ => rfl
def spInit (K : PySem.W.Frag) : Sp := fun vs H Q _ => ∃ p dx s, vs = [.ref p, .str (S s)] ∧ H p = some (.ins (RC K) dx []) ∧ ∀ H', SameB p H H' → RdAt K H' p s 0 → Q .non H'
theorem o_init (W : Wl K mg) : OkD w K mg base CX0 1 d_Reader_init ["self", "text"] (spInit K) := by
  refine HL.ok_of0 W.D_Reader_init sc_Reader_init (fun vs H Q E ⟨_, _, _, h, _⟩ => by rw [h]; rfl) bi_Reader_init fun cdv A outer s H vs Q E hr h => ?_
  refine ⟨_, (pss_cons (ps_fld (pv 0) (pv 1) rfl)
    (pss_one (ps_fld (pv 0) pe_int rfl))), ?_⟩
  obtain ⟨p, dx, s, rfl, hp, hq⟩ := h
  refine ⟨_, rfl, _, rfl, p, _, dx, _, rfl, hp, W.k_Reader, W.n_Reader_its_text, by simp, ?_⟩
  refine ⟨_, rfl, p, _, dx, _, rfl, upd_same, W.k_Reader, W.n_Reader_its_place, Nat.lt_of_lt_of_le (show 1 < 2 by decide) (by decide), ?_⟩
  exact hq _ (((SameB.refl p H).upd).upd) ⟨dx, by rw [upd_same] <;> rfl⟩
abbrev n_Reader_takes : List Str := ["self", "sign"]
theorem sc_Reader_takes : FnScope n_Reader_takes ["self", "sign"] (defScope s_Reader_takes) := ⟨rfl, rfl, rfl, by decide +kernel, rfl, by decide +kernel, by decide +kernel⟩
theorem bi_Reader_takes : ∀ (kV doc pm : Value) (an : Option Addr) (cdv ct : Value) (us : List Value), us.length = 2 → bindArgs (PySem.W.fnOf d_Reader_takes.name d_Reader_takes.qual d_Reader_takes.params d_Reader_takes.body d_Reader_takes.scope .none kV doc pm an cdv ct) ⟨us, []⟩ = pure ([("self" : Str), ("sign" : Str)].zip us) := fun kV doc pm an cdv ct us hu => by
  match us, hu with
  | [u0, u1], _ => rfl
def spTakes (K : PySem.W.Frag) : Sp := fun vs H Q _ => ∃ p s i w, vs = [.ref p, .str (S w)] ∧ RdAt K H p s i ∧ s.length ≤ 1000000 ∧ w.length ≤ 1000 ∧
  (M.takes w (s.drop i) = none → Q (.bl false) H) ∧ (∀ r, M.takes w (s.drop i) = some r → ∀ H', SameB p H H' → RdAt K H' p s (i + w.length) → Q (.bl true) H')
theorem o_takes (W : Wl K mg) : OkD w K mg base CX0 1 d_Reader_takes ["self", "sign"] (spTakes K) := by
  refine HL.ok_of0 W.D_Reader_takes sc_Reader_takes (fun vs H Q E ⟨_, _, _, _, h, _⟩ => by rw [h]; rfl) bi_Reader_takes fun cdv A outer s H vs Q E hr h => ?_
  refine ⟨_, (pss_cons (ps_if (pt_cmpR op_ne (pe_slice sl_str (pe_fld (pv 0) rfl) (po_some (pe_fld (pv 0) rfl)) (po_some (pe_op op_add (pe_fld (pv 0) rfl) (pe_callB call_len_str (by rfl) W.f_len (by decide +kernel) (pa_cons (pv 1) pa_nil))))) (pv 1) (nomark _)) (pss_one (ps_ret pe_bl)) pss_nil)
    (pss_cons (ps_fldaug (pv 0) (pe_callB call_len_str (by rfl) W.f_len (by decide +kernel) (pa_cons (pv 1) pa_nil)) in_add)
    (pss_one (ps_ret pe_bl)))), ?_⟩
  obtain ⟨p, s, i, w, rfl, ⟨dx, hp⟩, hs, hw, hF, hT⟩ := h
  have sl : (S s).length ≤ sizeLine := by rw [S_len]; exact small hs
  have wl : (S w).length ≤ sizeLine := by rw [S_len]; exact small (by omega)
  refine ⟨_, rfl, p, _, dx, _, _, rfl, hp, W.k_Reader, W.n_Reader_its_text, rfl, ?_⟩
  refine ⟨_, rfl, p, _, dx, _, _, rfl, hp, W.k_Reader, W.n_Reader_its_place, rfl, ?_⟩
  refine ⟨_, rfl, ⟨_, rfl, p, _, dx, _, _, rfl, hp, W.k_Reader, W.n_Reader_its_place, rfl, ?_⟩⟩
  refine ⟨_, rfl, _, rfl, wl, _, _, rfl, rfl, _, rfl, _, rfl, sl, _, rfl, ?_⟩
  rw [S_len, show ((i : Nat) : Int) + ((w.length : Nat) : Int) = ((i + w.length : Nat) : Int) by omega, cut_ij, Nat.add_sub_cancel_left]
  refine ⟨rfl, _, rfl, ?_⟩
  rw [dec_S]
  refine ite2 (fun h => ?_) (fun h => ?_)
  · have hn : ¬ (s.drop i).take w.length = w := by simpa using h
    exact hF (by unfold M.takes; rw [if_neg hn])
  · have hn : (s.drop i).take w.length = w := by simpa using h
    refine ⟨_, rfl, p, _, dx, _, _, rfl, hp, W.k_Reader, W.n_Reader_its_place, rfl, ⟨_, rfl, _, rfl, wl, _, _, rfl, rfl, dx, _, hp, by simp, ?_⟩⟩
    exact hT _ (by unfold M.takes; rw [if_pos hn]) _ (SameB.refl p H).upd ⟨dx, by rw [upd_same, S_len] <;> rfl⟩
abbrev n_Reader_needs : List Str := ["self", "sign"]
theorem sc_Reader_needs : FnScope n_Reader_needs ["self", "sign"] (defScope s_Reader_needs) := ⟨rfl, rfl, rfl, by decide +kernel, rfl, by decide +kernel, by decide +kernel⟩
theorem bi_Reader_needs : ∀ (kV doc pm : Value) (an : Option Addr) (cdv ct : Value) (us : List Value), us.length = 2 → bindArgs (PySem.W.fnOf d_Reader_needs.name d_Reader_needs.qual d_Reader_needs.params d_Reader_needs.body d_Reader_needs.scope .none kV doc pm an cdv ct) ⟨us, []⟩ = pure ([("self" : Str), ("sign" : Str)].zip us) := fun kV doc pm an cdv ct us hu => by
  match us, hu with
  | [u0, u1], _ => rfl
def spNeeds (K : PySem.W.Frag) : Sp := fun vs H Q E => ∃ p s i w, vs = [.ref p, .str (S w)] ∧ RdAt K H p s i ∧ s.length ≤ 1000000 ∧ w.length ≤ 1000 ∧
  (M.takes w (s.drop i) = none → E (.ref (CN K)) none H) ∧ (∀ r, M.takes w (s.drop i) = some r → ∀ H', SameB p H H' → RdAt K H' p s (i + w.length) → Q .non H')
theorem o_needs (W : Wl K mg) : OkD w K mg base (CXN w) 3 d_Reader_needs ["self", "sign"] (spNeeds K) := by
  refine HL.ok_of W.D_Reader_needs sc_Reader_needs (fun vs H Q E ⟨_, _, _, _, h, _⟩ => by rw [h]; rfl) bi_Reader_needs fun cdv A outer s H vs Q E hr h => ?_
  have tk := takes_of (X := cxOf (CXN w) P0 w K mg base n_Reader_needs d_Reader_needs.qual d_Reader_needs.scope (fAd K d_Reader_needs.at_) cdv A outer s H E) rfl rfl rfl rfl
  have O_need := o_need (w := w) (base := base) W
  have O_takes := o_takes (w := w) (base := base) W
  refine ⟨_, (pss_one (ps_expr (pe_cal O_need (hr.mono (by omega)) W.g_need (passes_call tk (fun _ _ _ _ h => h)) (pa_cons (pe_cam O_takes W.k_Reader W.m_Reader_takes (hr.mono (by omega)) pass0 (pv 0) (pa_cons (pv 1) pa_nil)) pa_nil)))), ?_⟩
  obtain ⟨p, s, i, w, rfl, hp, hs, hw, hF, hT⟩ := h
  obtain ⟨dx, hp'⟩ := id hp
  refine ⟨_, rfl, p, dx, _, rfl, hp', rfl, _, rfl, p, s, i, w, rfl, hp, hs, hw, fun hn => ?_, fun r hr H' e hp2 => ?_⟩
  · exact ⟨_, rfl, nofun, fun _ => hF hn⟩
  · exact ⟨_, rfl, fun _ => hT r hr H' e hp2, nofun⟩
abbrev n_Reader_signs : List Str := ["self", "some", "end", "found"]
theorem sc_Reader_signs : FnScope n_Reader_signs ["self", "some"] (defScope s_Reader_signs) := ⟨rfl, rfl, rfl, by decide +kernel, rfl, by decide +kernel, by decide +kernel⟩
theorem bi_Reader_signs : ∀ (kV doc pm : Value) (an : Option Addr) (cdv ct : Value) (us : List Value), us.length = 2 → bindArgs (PySem.W.fnOf d_Reader_signs.name d_Reader_signs.qual d_Reader_signs.params d_Reader_signs.body d_Reader_signs.scope .none kV doc pm an cdv ct) ⟨us, []⟩ = pure ([("self" : Str), ("some" : Str)].zip us) := fun kV doc pm an cdv ct us hu => by
  match us, hu with
  | [u0, u1], _ => rfl
def spSigns (K : PySem.W.Frag) : Sp := fun vs H Q _ => ∃ p s i z, vs = [.ref p, .str z] ∧ RdAt K H p s i ∧ s.length ≤ 1000000 ∧
  ∀ f, (∀ c, f c = decide (c ∈ z.cps.toList)) → ∀ H', SameB p H H' → RdAt K H' p s (i + ((s.drop i).takeWhile f).length) → Q (.str (S ((s.drop i).takeWhile f))) H'
theorem o_signs (W : Wl K mg) : OkD w K mg base CX0 1 d_Reader_signs ["self", "some"] (spSigns K) := by
  refine HL.ok_of0 W.D_Reader_signs sc_Reader_signs (fun vs H Q E ⟨_, _, _, _, h, _⟩ => by rw [h]; rfl) bi_Reader_signs fun cdv A outer s H vs Q E hr h => ?_
  have nd := sc_Reader_signs.nd
  refine ⟨_, (pss_cons (ps_set (i := 2) nd rfl (Or.inl rfl) (pe_fld (pv 0) rfl))
    (pss_cons (ps_while PassesOwn.never (PW.pt (pw_and (pt_cmpR op_lt (pv 2) (pe_callB call_len_str (by rfl) W.f_len (by decide +kernel) (pa_cons (pe_fld (pv 0) rfl) pa_nil)) (nomark _)) (pw_and1 (pt_cmpR op_in_sign (pe_ix ix_str (pe_fld (pv 0) rfl) (pv 2) (fun _ _ => rfl)) (pv 1) (by rfl))))) (pss_one (ps_aug (i := 2) nd rfl (.inl rfl) pe_int ip_add)))
    (pss_cons (ps_set (i := 3) nd rfl (Or.inl rfl) (pe_slice sl_str (pe_fld (pv 0) rfl) (po_some (pe_fld (pv 0) rfl)) (po_some (pv 2))))
    (pss_cons (ps_fld (pv 0) (pv 2) rfl)
    (pss_one (ps_ret (pv 3))))))), ?_⟩
  obtain ⟨p, s, i, z, rfl, ⟨dx, hp⟩, hs, hq⟩ := h
  have sl : (S s).length ≤ sizeLine := by rw [S_len]; exact small hs
  have hq := hq (fun c => decide (c ∈ z.cps.toList)) (fun _ => rfl)
  generalize hf : (fun c => decide (c ∈ z.cps.toList)) = f at hq
  refine ⟨_, rfl, p, _, dx, _, _, rfl, hp, W.k_Reader, W.n_Reader_its_place, rfl, ?_⟩
  refine HL.while_zz (fun m σ H1 => ∃ e : Nat, m = s.length - e ∧ H1 = H ∧ σ = [some (.ref p), some (.str z), some (.int (e : Nat)), none] ∧ Sc f s i e)
    (fun σ H1 => ∃ e : Nat, H1 = H ∧ σ = [some (.ref p), some (.str z), some (.int (e : Nat)), none] ∧ Sc f s i e ∧ ∀ c, s[e]? = some c → f c = false) ⟨_, i, rfl, rfl, rfl, Sc.start f s i⟩ ?_ ?_
  · rintro m σ H1 ⟨e, rfl, rfl, rfl, hsc⟩ R hT hF
    refine ⟨_, rfl, _, rfl, p, _, dx, _, _, rfl, hp, W.k_Reader, W.n_Reader_its_text, rfl, _, rfl, sl, _, _, rfl, rfl, _, rfl, ?_⟩
    refine ite2 (fun h1 => ?_) (fun h1 => ?_)
    · have h1 : e < s.length := by
        have := of_decide_eq_true h1
        rw [S_len] at this
        omega
      refine ⟨_, rfl, p, _, dx, _, _, rfl, hp, W.k_Reader, W.n_Reader_its_text, rfl, _, rfl, _, _, _, rfl, rfl, sl, atI_nat (List.getElem?_eq_getElem h1), _, rfl, _, _, rfl, rfl, _, rfl, ?_⟩
      rw [congrFun hf]
      cases hc : f s[e] with
      | true =>
        refine hT _ fun N F hN hF => ?_
        refine ⟨_, rfl, _, _, rfl, rfl, ?_⟩
        exact hN (s.length - (e + 1)) _ _ (by omega) ⟨e + 1, rfl, rfl, rfl, hsc.next (List.getElem?_eq_getElem h1) hc⟩
      | false => exact hF _ ⟨e, rfl, rfl, hsc, fun c z => by
          rw [List.getElem?_eq_getElem h1] at z
          cases z
          exact hc⟩
    · have h1 : ¬ e < s.length := by
        intro z
        apply h1
        rw [S_len]
        exact decide_eq_true (by omega)
      exact hF _ ⟨e, rfl, rfl, hsc, fun c z => by
        rw [List.getElem?_eq_none (by omega)] at z
        cases z⟩
  · rintro σ H1 ⟨e, rfl, rfl, hsc, hst⟩
    obtain ⟨e1, e2⟩ := hsc.stop hst
    refine ⟨_, rfl, p, _, dx, _, _, rfl, hp, W.k_Reader, W.n_Reader_its_text, rfl, _, rfl, p, _, dx, _, _, rfl, hp, W.k_Reader, W.n_Reader_its_place, rfl, _, rfl, _, rfl, _, rfl, _, rfl, sl, ?_⟩
    rw [cut_ij, e1]
    refine ⟨_, rfl, _, rfl, p, _, dx, _, rfl, hp, W.k_Reader, W.n_Reader_its_place, by simp, ?_⟩
    refine ⟨_, rfl, hq _ (SameB.refl p _).upd ⟨dx, by rw [upd_same, e2] <;> rfl⟩⟩
abbrev n_Reader_word_here : List Str := ["self", "found"]
theorem sc_Reader_word_here : FnScope n_Reader_word_here ["self"] (defScope s_Reader_word_here) := ⟨rfl, rfl, rfl, by decide +kernel, rfl, by decide +kernel, by decide +kernel⟩
theorem bi_Reader_word_here : ∀ (kV doc pm : Value) (an : Option Addr) (cdv ct : Value) (us : List Value), us.length = 1 → bindArgs (PySem.W.fnOf d_Reader_word_here.name d_Reader_word_here.qual d_Reader_word_here.params d_Reader_word_here.body d_Reader_word_here.scope .none kV doc pm an cdv ct) ⟨us, []⟩ = pure ([("self" : Str)].zip us) := fun kV doc pm an cdv ct us hu => by
  match us, hu with
  | [u0], _ => rfl
def spWord (K : PySem.W.Frag) : Sp := fun vs H Q E => ∃ p s i, vs = [.ref p] ∧ RdAt K H p s i ∧ s.length ≤ 1000000 ∧
  (M.word (s.drop i) = none → ∀ H', SameB p H H' → E (.ref (CN K)) none H') ∧ (∀ w r, M.word (s.drop i) = some (w, r) → ∀ H', SameB p H H' → RdAt K H' p s (i + w.length) → Q (.str (S w)) H')
theorem o_word_here (W : Wl K mg) : OkD w K mg base (CXN w) 3 d_Reader_word_here ["self"] (spWord K) := by
  refine HL.ok_of W.D_Reader_word_here sc_Reader_word_here (fun vs H Q E ⟨_, _, _, h, _⟩ => by rw [h]; rfl) bi_Reader_word_here fun cdv A outer s H vs Q E hr h => ?_
  have tk := takes_of (X := cxOf (CXN w) P0 w K mg base n_Reader_word_here d_Reader_word_here.qual d_Reader_word_here.scope (fAd K d_Reader_word_here.at_) cdv A outer s H E) rfl rfl rfl rfl
  have nd := sc_Reader_word_here.nd
  obtain ⟨tL, hc_LETTERS⟩ := W.c_LETTERS
  have O_need := o_need (w := w) (base := base) W
  have O_is_name := o_is_name (w := w) (base := base) W
  have O_signs := o_signs (w := w) (base := base) W
  refine ⟨_, (pss_cons (ps_set (i := 1) nd rfl (Or.inl rfl) (pe_cam O_signs W.k_Reader W.m_Reader_signs (hr.mono (by omega)) pass0 (pv 0) (pa_cons (pe_glob (v := .str "abcdefghijklmnopqrstuvwxyz") (by rfl) hc_LETTERS ⟨_, rfl⟩) pa_nil)))
    (pss_cons (ps_expr (pe_cal O_need (hr.mono (by omega)) W.g_need (passes_call tk (fun _ _ _ _ h => h)) (pa_cons (pe_cal O_is_name (hr.mono (by omega)) W.g_is_name pass0 (pa_cons (pv 1) pa_nil)) pa_nil)))
    (pss_one (ps_ret (pv 1))))), ?_⟩
  obtain ⟨p, s, i, rfl, hp, hs, hF, hT⟩ := h
  obtain ⟨dx, hp'⟩ := id hp
  refine ⟨_, rfl, p, dx, _, rfl, hp', rfl, p, s, i, _, rfl, hp, hs, ?_⟩
  intro f hf H1 e1 hp1
  obtain rfl : f = M.isLet := funext fun c => by rw [hf c, isLet_in]
  refine ⟨_, rfl, _, rfl, ?_, fun H2 e2 => ?_⟩
  · have := (List.takeWhile_sublist M.isLet (l := s.drop i)).length_le
    rw [List.length_drop] at this
    omega
  have hall : ((s.drop i).takeWhile M.isLet).all M.isLet = true := List.all_eq_true.mpr (M.span_all _)
  rw [hall, Bool.and_true]
  have e3 : SameB p H H2 := e1.trans (.of e2)
  have hp2 : RdAt K H2 p s (i + ((s.drop i).takeWhile M.isLet).length) := let ⟨dx, q⟩ := hp1; ⟨dx, e2 _ _ q⟩
  refine ⟨_, rfl, fun hk => ?_, fun hk => ?_⟩
  · exact ⟨_, rfl, hT _ _ (by unfold M.word; rw [if_pos (of_decide_eq_true hk)]) _ e3 hp2⟩
  · exact hF (by unfold M.word; rw [if_neg (of_decide_eq_false hk)]) _ e3
end
end K93
end

section
set_option Elab.async false
set_option linter.all false
set_option maxRecDepth 100000
set_option maxHeartbeats 4000000
/-! k93: conditions and parts as they stand in the heap. -/
namespace K93
open PySem PySem.Spec PyProof.Rows L2 He HL M
mutual
def cd : Cond → PyData
  | .word b => .tuple [.str (HL.S (yq b))]
  | .ask n => .tuple [.str (HL.S (q "ask")), .str (HL.S n)]
  | .neg c => .tuple [.str (HL.S (q "not")), cd c]
  | .many b cs => .tuple [.str (HL.S (nq b)), .tuple (cdL cs)]
def cdL : List Cond → List PyData
  | [] => []
  | c :: cs => cd c :: cdL cs
end
mutual
def pd : Part → PyData
  | .back => .tuple [.str (HL.S (q "back"))]
  | .leave k => .tuple [.str (HL.S (q "leave")), .int (k : Nat)]
  | .step n => .tuple [.str (HL.S (q "step")), .str (HL.S n)]
  | .call n => .tuple [.str (HL.S (q "call")), .str (HL.S n)]
  | .row ps => .tuple [.str (HL.S (q "row")), .tuple (pdL ps)]
  | .whil c p => .tuple [.str (HL.S (q "while")), cd c, pd p]
  | .ite c p r => .tuple [.str (HL.S (q "if")), cd c, pd p, pd r]
def pdL : List Part → List PyData
  | [] => []
  | p :: ps => pd p :: pdL ps
end
mutual
def CAt (H : Hp) : Cond → V → Prop
  | .word b, v => ∃ a, v = .ref a ∧ H a = some (.tup [.str (HL.S (yq b))])
  | .ask n, v => ∃ a, v = .ref a ∧ H a = some (.tup [.str (HL.S (q "ask")), .str (HL.S n)])
  | .neg c, v => ∃ a u, v = .ref a ∧ H a = some (.tup [.str (HL.S (q "not")), u]) ∧ CAt H c u
  | .many b cs, v => ∃ a t us, v = .ref a ∧ H a = some (.tup [.str (HL.S (nq b)), .ref t]) ∧ H t = some (.tup us) ∧ CAtL H cs us
def CAtL (H : Hp) : List Cond → List V → Prop
  | [], us => us = []
  | c :: cs, us => ∃ v vs, us = v :: vs ∧ CAt H c v ∧ CAtL H cs vs
end
mutual
def PAt (H : Hp) : Part → V → Prop
  | .back, v => ∃ a, v = .ref a ∧ H a = some (.tup [.str (HL.S (q "back"))])
  | .leave k, v => ∃ a, v = .ref a ∧ H a = some (.tup [.str (HL.S (q "leave")), .int (k : Nat)])
  | .step n, v => ∃ a, v = .ref a ∧ H a = some (.tup [.str (HL.S (q "step")), .str (HL.S n)])
  | .call n, v => ∃ a, v = .ref a ∧ H a = some (.tup [.str (HL.S (q "call")), .str (HL.S n)])
  | .row ps, v => ∃ a t us, v = .ref a ∧ H a = some (.tup [.str (HL.S (q "row")), .ref t]) ∧ H t = some (.tup us) ∧ PAtL H ps us
  | .whil c p, v => ∃ a u x, v = .ref a ∧ H a = some (.tup [.str (HL.S (q "while")), u, x]) ∧ CAt H c u ∧ PAt H p x
  | .ite c p r, v => ∃ a u x y, v = .ref a ∧ H a = some (.tup [.str (HL.S (q "if")), u, x, y]) ∧ CAt H c u ∧ PAt H p x ∧ PAt H r y
def PAtL (H : Hp) : List Part → List V → Prop
  | [], us => us = []
  | p :: ps, us => ∃ v vs, us = v :: vs ∧ PAt H p v ∧ PAtL H ps vs
end
theorem cAtL_iff {H : Hp} : ∀ {cs : List Cond} {us : List V}, CAtL H cs us ↔ All2 (fun v c => CAt H c v) us cs
  | [], us => by
    unfold CAtL
    cases us with
    | nil => exact ⟨fun _ => trivial, fun _ => rfl⟩
    | cons v vs => exact ⟨fun h => (nomatch h), fun h => False.elim h⟩
  | c :: cs, us => by
    unfold CAtL
    cases us with
    | nil => exact ⟨fun ⟨_, _, h, _⟩ => (nomatch h), fun h => False.elim h⟩
    | cons v vs => exact ⟨fun ⟨v', vs', h, h1, h2⟩ => by
        injection h with e1 e2
        subst e1 e2
        exact ⟨h1, cAtL_iff.mp h2⟩, fun h => ⟨v, vs, rfl, h.1, cAtL_iff.mpr h.2⟩⟩
theorem pAtL_iff {H : Hp} : ∀ {cs : List Part} {us : List V}, PAtL H cs us ↔ All2 (fun v c => PAt H c v) us cs
  | [], us => by
    unfold PAtL
    cases us with
    | nil => exact ⟨fun _ => trivial, fun _ => rfl⟩
    | cons v vs => exact ⟨fun h => (nomatch h), fun h => False.elim h⟩
  | c :: cs, us => by
    unfold PAtL
    cases us with
    | nil => exact ⟨fun ⟨_, _, h, _⟩ => (nomatch h), fun h => False.elim h⟩
    | cons v vs => exact ⟨fun ⟨v', vs', h, h1, h2⟩ => by
        injection h with e1 e2
        subst e1 e2
        exact ⟨h1, pAtL_iff.mp h2⟩, fun h => ⟨v, vs, rfl, h.1, pAtL_iff.mpr h.2⟩⟩
/-! ### what moves does not touch them -/
mutual
theorem CAt.keep {H H' : Hp} (e : TupK H H') : ∀ (c : Cond) (v : V), CAt H c v → CAt H' c v
  | .word b, v, h => by
    unfold CAt at h ⊢
    obtain ⟨a, r, h⟩ := h
    exact ⟨a, r, e _ _ h⟩
  | .ask n, v, h => by
    unfold CAt at h ⊢
    obtain ⟨a, r, h⟩ := h
    exact ⟨a, r, e _ _ h⟩
  | .neg c, v, h => by
    unfold CAt at h ⊢
    obtain ⟨a, u, r, h, h1⟩ := h
    exact ⟨a, u, r, e _ _ h, CAt.keep e c u h1⟩
  | .many b cs, v, h => by
    unfold CAt at h ⊢
    obtain ⟨a, t, us, r, h, h1, h2⟩ := h
    exact ⟨a, t, us, r, e _ _ h, e _ _ h1, CAtL.keep e cs us h2⟩
theorem CAtL.keep {H H' : Hp} (e : TupK H H') : ∀ (cs : List Cond) (us : List V), CAtL H cs us → CAtL H' cs us
  | [], us, h => by
    unfold CAtL at h ⊢
    exact h
  | c :: cs, us, h => by
    unfold CAtL at h ⊢
    obtain ⟨v, vs, r, h1, h2⟩ := h
    exact ⟨v, vs, r, CAt.keep e c v h1, CAtL.keep e cs vs h2⟩
end
mutual
theorem PAt.keep {H H' : Hp} (e : TupK H H') : ∀ (c : Part) (v : V), PAt H c v → PAt H' c v
  | .back, v, h => by
    unfold PAt at h ⊢
    obtain ⟨a, r, h⟩ := h
    exact ⟨a, r, e _ _ h⟩
  | .leave k, v, h => by
    unfold PAt at h ⊢
    obtain ⟨a, r, h⟩ := h
    exact ⟨a, r, e _ _ h⟩
  | .step n, v, h => by
    unfold PAt at h ⊢
    obtain ⟨a, r, h⟩ := h
    exact ⟨a, r, e _ _ h⟩
  | .call n, v, h => by
    unfold PAt at h ⊢
    obtain ⟨a, r, h⟩ := h
    exact ⟨a, r, e _ _ h⟩
  | .row ps, v, h => by
    unfold PAt at h ⊢
    obtain ⟨a, t, us, r, h, h1, h2⟩ := h
    exact ⟨a, t, us, r, e _ _ h, e _ _ h1, PAtL.keep e ps us h2⟩
  | .whil c p, v, h => by
    unfold PAt at h ⊢
    obtain ⟨a, u, x, r, h, h1, h2⟩ := h
    exact ⟨a, u, x, r, e _ _ h, h1.keep e, PAt.keep e p x h2⟩
  | .ite c p r, v, h => by
    unfold PAt at h ⊢
    obtain ⟨a, u, x, y, r', h, h1, h2, h3⟩ := h
    exact ⟨a, u, x, y, r', e _ _ h, h1.keep e, PAt.keep e p x h2, PAt.keep e r y h3⟩
theorem PAtL.keep {H H' : Hp} (e : TupK H H') : ∀ (cs : List Part) (us : List V), PAtL H cs us → PAtL H' cs us
  | [], us, h => by
    unfold PAtL at h ⊢
    exact h
  | c :: cs, us, h => by
    unfold PAtL at h ⊢
    obtain ⟨v, vs, r, h1, h2⟩ := h
    exact ⟨v, vs, r, PAt.keep e c v h1, PAtL.keep e cs vs h2⟩
end
/-! ### as data -/
section
variable {K : PySem.W.Frag} {H : Hp}
theorem sqt {a : Addr} {xs : List V} (h : H a = some (.tup xs)) : SqT K H a xs := .inl (.inl h)
theorem sql {a : Addr} {xs : List V} (h : H a = some (.lst xs)) : SqL K H a xs := .inl (.inl h)
mutual
theorem CAt.dp : ∀ (c : Cond) (v : V), CAt H c v → Dp K H v (cd c)
  | .word b, v, h => by
    unfold CAt at h
    obtain ⟨a, rfl, h⟩ := h
    unfold cd
    exact .tup (sqt h) (.cons (.str _) .nil)
  | .ask n, v, h => by
    unfold CAt at h
    obtain ⟨a, rfl, h⟩ := h
    unfold cd
    exact .tup (sqt h) (.cons (.str _) (.cons (.str _) .nil))
  | .neg c, v, h => by
    unfold CAt at h
    obtain ⟨a, u, rfl, h, h1⟩ := h
    unfold cd
    exact .tup (sqt h) (.cons (.str _) (.cons (CAt.dp c u h1) .nil))
  | .many b cs, v, h => by
    unfold CAt at h
    obtain ⟨a, t, us, rfl, h, h1, h2⟩ := h
    unfold cd
    exact .tup (sqt h) (.cons (.str _) (.cons (.tup (sqt h1) (CAtL.dp cs us h2)) .nil))
theorem CAtL.dp : ∀ (cs : List Cond) (us : List V), CAtL H cs us → DpAll K H us (cdL cs)
  | [], us, h => by
    unfold CAtL at h
    subst h
    unfold cdL
    exact .nil
  | c :: cs, us, h => by
    unfold CAtL at h
    obtain ⟨v, vs, rfl, h1, h2⟩ := h
    unfold cdL
    exact .cons (CAt.dp c v h1) (CAtL.dp cs vs h2)
end
mutual
theorem PAt.dp : ∀ (c : Part) (v : V), PAt H c v → Dp K H v (pd c)
  | .back, v, h => by
    unfold PAt at h
    obtain ⟨a, rfl, h⟩ := h
    unfold pd
    exact .tup (sqt h) (.cons (.str _) .nil)
  | .leave k, v, h => by
    unfold PAt at h
    obtain ⟨a, rfl, h⟩ := h
    unfold pd
    exact .tup (sqt h) (.cons (.str _) (.cons (.int _) .nil))
  | .step n, v, h => by
    unfold PAt at h
    obtain ⟨a, rfl, h⟩ := h
    unfold pd
    exact .tup (sqt h) (.cons (.str _) (.cons (.str _) .nil))
  | .call n, v, h => by
    unfold PAt at h
    obtain ⟨a, rfl, h⟩ := h
    unfold pd
    exact .tup (sqt h) (.cons (.str _) (.cons (.str _) .nil))
  | .row cs, v, h => by
    unfold PAt at h
    obtain ⟨a, t, us, rfl, h, h1, h2⟩ := h
    unfold pd
    exact .tup (sqt h) (.cons (.str _) (.cons (.tup (sqt h1) (PAtL.dp cs us h2)) .nil))
  | .whil c p, v, h => by
    unfold PAt at h
    obtain ⟨a, u, x, rfl, h, h1, h2⟩ := h
    unfold pd
    exact .tup (sqt h) (.cons (.str _) (.cons h1.dp (.cons (PAt.dp p x h2) .nil)))
  | .ite c p r, v, h => by
    unfold PAt at h
    obtain ⟨a, u, x, y, rfl, h, h1, h2, h3⟩ := h
    unfold pd
    exact .tup (sqt h) (.cons (.str _) (.cons h1.dp (.cons (PAt.dp p x h2) (.cons (PAt.dp r y h3) .nil))))
theorem PAtL.dp : ∀ (cs : List Part) (us : List V), PAtL H cs us → DpAll K H us (pdL cs)
  | [], us, h => by
    unfold PAtL at h
    subst h
    unfold pdL
    exact .nil
  | c :: cs, us, h => by
    unfold PAtL at h
    obtain ⟨v, vs, rfl, h1, h2⟩ := h
    unfold pdL
    exact .cons (PAt.dp c v h1) (PAtL.dp cs vs h2)
end
end
/-! ### laid, shown, deep -/
theorem okS (l : List Nat) (h : l.all (fun c => decide (c < 0x110000)) = true) : PyData.strOk (HL.S l) = true := by
  unfold PyData.strOk
  rw [Array.all_eq_true']
  intro c hc
  exact List.all_eq_true.mp h c (by simpa [HL.S] using hc)
theorem nm_ok {n : Cs} (h : Nm n) : PyData.strOk (HL.S n) = true := okS n (List.all_eq_true.mpr fun c hc => by
  have h3 : c ∈ LET := of_decide_eq_true (h.all c hc)
  have h4 : ∀ d ∈ LET, d < 0x110000 := by decide
  exact decide_eq_true (h4 c h3))
theorem ok_yq (b : Bool) : PyData.strOk (HL.S (yq b)) = true := by cases b <;> exact okS _ (by decide)
theorem ok_nq (b : Bool) : PyData.strOk (HL.S (nq b)) = true := by cases b <;> exact okS _ (by decide)
theorem ok_ask : PyData.strOk (HL.S (q "ask")) = true := okS _ (by decide)
theorem ok_not : PyData.strOk (HL.S (q "not")) = true := okS _ (by decide)
theorem ok_back : PyData.strOk (HL.S (q "back")) = true := okS _ (by decide)
theorem ok_leave : PyData.strOk (HL.S (q "leave")) = true := okS _ (by decide)
theorem ok_step : PyData.strOk (HL.S (q "step")) = true := okS _ (by decide)
theorem ok_call : PyData.strOk (HL.S (q "call")) = true := okS _ (by decide)
theorem ok_row : PyData.strOk (HL.S (q "row")) = true := okS _ (by decide)
theorem ok_while : PyData.strOk (HL.S (q "while")) = true := okS _ (by decide)
theorem ok_if : PyData.strOk (HL.S (q "if")) = true := okS _ (by decide)
mutual
theorem cd_lay : ∀ c : Cond, c.wf → (cd c).canLay0 = true
  | .word b, _ => by
    unfold cd
    simp only [PyData.canLay0, PyData.canLayAll0, ok_yq, ok_nq, ok_ask, ok_not, ok_back, ok_leave, ok_step, ok_call, ok_row, ok_while, ok_if, Bool.and_true, Bool.true_and]
  | .ask n, h => by
    unfold cd
    have := nm_ok (show Nm n by simpa [Cond.wf] using h)
    simp only [PyData.canLay0, PyData.canLayAll0, this, ok_yq, ok_nq, ok_ask, ok_not, ok_back, ok_leave, ok_step, ok_call, ok_row, ok_while, ok_if, Bool.and_true, Bool.true_and]
  | .neg c, h => by
    unfold cd
    have := cd_lay c (by simpa [Cond.wf] using h)
    simp only [PyData.canLay0, PyData.canLayAll0, this, ok_yq, ok_nq, ok_ask, ok_not, ok_back, ok_leave, ok_step, ok_call, ok_row, ok_while, ok_if, Bool.and_true, Bool.true_and]
  | .many b cs, h => by
    unfold cd
    have := cdL_lay cs (by simpa [Cond.wf] using h)
    simp only [PyData.canLay0, PyData.canLayAll0, this, ok_yq, ok_nq, ok_ask, ok_not, ok_back, ok_leave, ok_step, ok_call, ok_row, ok_while, ok_if, Bool.and_true, Bool.true_and]
theorem cdL_lay : ∀ cs : List Cond, wfC cs → PyData.canLayAll0 (cdL cs) = true
  | [], _ => by
    unfold cdL
    rfl
  | c :: cs, h => by
    unfold cdL
    have h1 : c.wf ∧ wfC cs := by simpa [wfC] using h
    simp only [PyData.canLayAll0, cd_lay c h1.1, cdL_lay cs h1.2, Bool.and_true]
end
mutual
theorem pd_lay : ∀ c : Part, c.wf → (pd c).canLay0 = true
  | .back, _ => by
    unfold pd
    simp only [PyData.canLay0, PyData.canLayAll0, ok_yq, ok_nq, ok_ask, ok_not, ok_back, ok_leave, ok_step, ok_call, ok_row, ok_while, ok_if, Bool.and_true, Bool.true_and]
  | .leave k, _ => by
    unfold pd
    simp only [PyData.canLay0, PyData.canLayAll0, ok_yq, ok_nq, ok_ask, ok_not, ok_back, ok_leave, ok_step, ok_call, ok_row, ok_while, ok_if, Bool.and_true, Bool.true_and]
  | .step n, h => by
    unfold pd
    have := nm_ok (show Nm n by simpa [Part.wf] using h)
    simp only [PyData.canLay0, PyData.canLayAll0, this, ok_yq, ok_nq, ok_ask, ok_not, ok_back, ok_leave, ok_step, ok_call, ok_row, ok_while, ok_if, Bool.and_true, Bool.true_and]
  | .call n, h => by
    unfold pd
    have := nm_ok (show Nm n by simpa [Part.wf] using h)
    simp only [PyData.canLay0, PyData.canLayAll0, this, ok_yq, ok_nq, ok_ask, ok_not, ok_back, ok_leave, ok_step, ok_call, ok_row, ok_while, ok_if, Bool.and_true, Bool.true_and]
  | .row cs, h => by
    unfold pd
    have := pdL_lay cs (by simpa [Part.wf] using h)
    simp only [PyData.canLay0, PyData.canLayAll0, this, ok_yq, ok_nq, ok_ask, ok_not, ok_back, ok_leave, ok_step, ok_call, ok_row, ok_while, ok_if, Bool.and_true, Bool.true_and]
  | .whil c p, h => by
    unfold pd
    have h1 : c.wf ∧ p.wf := by simpa [Part.wf] using h
    simp only [PyData.canLay0, PyData.canLayAll0, cd_lay c h1.1, pd_lay p h1.2, ok_yq, ok_nq, ok_ask, ok_not, ok_back, ok_leave, ok_step, ok_call, ok_row, ok_while, ok_if, Bool.and_true, Bool.true_and]
  | .ite c p r, h => by
    unfold pd
    have h1 : c.wf ∧ p.wf ∧ r.wf := by simpa [Part.wf] using h
    simp only [PyData.canLay0, PyData.canLayAll0, cd_lay c h1.1, pd_lay p h1.2.1, pd_lay r h1.2.2, ok_yq, ok_nq, ok_ask, ok_not, ok_back, ok_leave, ok_step, ok_call, ok_row, ok_while, ok_if, Bool.and_true, Bool.true_and]
theorem pdL_lay : ∀ cs : List Part, wfP cs → PyData.canLayAll0 (pdL cs) = true
  | [], _ => by
    unfold pdL
    rfl
  | c :: cs, h => by
    unfold pdL
    have h1 : c.wf ∧ wfP cs := by simpa [wfP] using h
    simp only [PyData.canLayAll0, pd_lay c h1.1, pdL_lay cs h1.2, Bool.and_true]
end
end K93
end

section
set_option Elab.async false
set_option linter.all false
set_option maxRecDepth 100000
set_option maxHeartbeats 4000000
/-! k93: several. -/
namespace K93
open PySem PySem.Spec PyProof.Rows L2 He HL
section
variable {w : World} {K : PySem.W.Frag} {mg : Str → Option Value} {base : Heap}
/-- the reader at p has r still to read -/
def RdR (K : PySem.W.Frag) (H : Hp) (p : Addr) (s r : List Nat) : Prop := ∃ i, RdAt K H p s i ∧ s.drop i = r
theorem RdR.ins {H : Hp} {p : Addr} {s r : List Nat} (h : RdR K H p s r) : ∃ dx fs, H p = some (.ins (RC K) dx fs) := let ⟨_, ⟨dx, e⟩, _⟩ := h; ⟨dx, _, e⟩
/-- what reading may change: the reader, tables of code -/
abbrev XRd (p : Addr) : Addr → HO → Prop := fun b o => b ≠ p ∧ ∀ ps, o ≠ .tbl ps
abbrev Kp (p : Addr) : Hp → Hp → Prop := Fr (XRd p)
theorem kpB {p : Addr} {H H' : Hp} (e : SameB p H H') : Kp p H H' := fun b o h x => e b o h x.1
theorem kpS {p : Addr} {H H' : Hp} (e : Same H H') : Kp p H H' := fun b o h x => e b o h
theorem kpN {p : Addr} {H H' : Hp} {dx : Addr} {fs : List (Str × V)} {C : Addr} (h : H p = some (.ins C dx fs)) (e : LamX.ExtN H H') : Kp p H H' := fun b o z x => e b o z x.2
theorem kpT {p : Addr} {H H' : Hp} {s r : List Nat} (e : Kp p H H') (h : RdR K H p s r) : TupK H H' := e.tup fun b xs z => ⟨fun q => by
  obtain ⟨dx, fs, h⟩ := h.ins
  rw [q, h] at z
  exact (nomatch z), fun ps q => (nomatch q)⟩
theorem tabB {T : List (Addr × Str)} {p : Addr} {H H' : Hp} {s r : List Nat} (t : LamX.Tabs T H) (e : SameB p H H') (h : RdR K H p s r) : LamX.Tabs T H' := fun x hx => by
  obtain ⟨dx, fs, h⟩ := h.ins
  obtain ⟨ps, h1, h2, h3⟩ := t x hx
  refine ⟨ps, e _ _ h1 (fun z => by rw [z, h] at h1; cases h1), h2, fun pos cv hc => ?_⟩
  obtain ⟨c, e1, e2⟩ := h3 pos cv hc
  exact ⟨c, e1, e _ _ e2 (fun z => by rw [z, h] at e2; cases e2)⟩
theorem drop_takes {s w r : List Nat} {i : Nat} (h : M.takes w (s.drop i) = some r) : s.drop (i + w.length) = r := by
  unfold M.takes at h
  split at h
  · rw [← List.drop_drop]
    exact Option.some.inj h
  · cases h
/-- takes, by what is left to read -/
def spTakesR (K : PySem.W.Frag) : Sp := fun vs H Q _ => ∃ p s r w, vs = [.ref p, .str (S w)] ∧ RdR K H p s r ∧ s.length ≤ 1000000 ∧ w.length ≤ 1000 ∧
  (M.takes w r = none → Q (.bl false) H) ∧ (∀ r', M.takes w r = some r' → ∀ H', SameB p H H' → RdR K H' p s r' → Q (.bl true) H')
theorem o_takesR (W : Wl K mg) : OkD w K mg base CX0 1 d_Reader_takes ["self", "sign"] (spTakesR K) := (o_takes W).imp fun vs H Q E ⟨p, s, r, w, e, ⟨i, h1, h2⟩, h3, h4, h5, h6⟩ =>
  ⟨p, s, i, w, e, h1, h3, h4, fun z => h5 (h2 ▸ z), fun r' z H' e' q => h6 r' (h2 ▸ z) H' e' ⟨_, q, drop_takes z⟩⟩
def spNeedsR (K : PySem.W.Frag) : Sp := fun vs H Q E => ∃ p s r w, vs = [.ref p, .str (S w)] ∧ RdR K H p s r ∧ s.length ≤ 1000000 ∧ w.length ≤ 1000 ∧
  (M.takes w r = none → E (.ref (CN K)) none H) ∧ (∀ r', M.takes w r = some r' → ∀ H', SameB p H H' → RdR K H' p s r' → Q .non H')
theorem o_needsR (W : Wl K mg) : OkD w K mg base (CXN w) 3 d_Reader_needs ["self", "sign"] (spNeedsR K) := (o_needs W).imp fun vs H Q E ⟨p, s, r, w, e, ⟨i, h1, h2⟩, h3, h4, h5, h6⟩ =>
  ⟨p, s, i, w, e, h1, h3, h4, fun z => h5 (h2 ▸ z), fun r' z H' e' q => h6 r' (h2 ▸ z) H' e' ⟨_, q, drop_takes z⟩⟩
theorem drop_tw {f : Nat → Bool} {s : List Nat} {i : Nat} : s.drop (i + ((s.drop i).takeWhile f).length) = (s.drop i).dropWhile f := by
  rw [← List.drop_drop]
  generalize s.drop i = l
  induction l with
  | nil => rfl
  | cons c l ih =>
    by_cases h : f c = true
    · rw [List.takeWhile_cons_of_pos h, List.dropWhile_cons_of_pos h, List.length_cons, List.drop_succ_cons, ih]
    · rw [List.takeWhile_cons_of_neg h, List.dropWhile_cons_of_neg h]
      rfl
def spSignsR (K : PySem.W.Frag) : Sp := fun vs H Q _ => ∃ p s r z, vs = [.ref p, .str z] ∧ RdR K H p s r ∧ s.length ≤ 1000000 ∧
  ∀ f, (∀ c, f c = decide (c ∈ z.cps.toList)) → ∀ H', SameB p H H' → RdR K H' p s (r.dropWhile f) → Q (.str (S (r.takeWhile f))) H'
theorem o_signsR (W : Wl K mg) : OkD w K mg base CX0 1 d_Reader_signs ["self", "some"] (spSignsR K) := (o_signs W).imp fun vs H Q E ⟨p, s, r, z, e, ⟨i, h1, h2⟩, h3, h4⟩ =>
  ⟨p, s, i, z, e, h1, h3, fun f hf H' e' q => by
    subst h2
    exact h4 f hf H' e' ⟨_, q, drop_tw⟩⟩
def spWordR (K : PySem.W.Frag) : Sp := fun vs H Q E => ∃ p s r, vs = [.ref p] ∧ RdR K H p s r ∧ s.length ≤ 1000000 ∧
  (M.word r = none → ∀ H', SameB p H H' → E (.ref (CN K)) none H') ∧ (∀ w r', M.word r = some (w, r') → ∀ H', SameB p H H' → RdR K H' p s r' → Q (.str (S w)) H')
theorem o_wordR (W : Wl K mg) : OkD w K mg base (CXN w) 3 d_Reader_word_here ["self"] (spWordR K) := (o_word_here W).imp fun vs H Q E ⟨p, s, r, e, ⟨i, h1, h2⟩, h3, h4, h5⟩ =>
  ⟨p, s, i, e, h1, h3, fun z => h4 (h2 ▸ z), fun w r' z H' e' q => h5 w r' (h2 ▸ z) H' e' ⟨_, q, by
    obtain ⟨e1, _, _⟩ := M.word_some z
    rw [← List.drop_drop, e1, List.drop_left]⟩⟩
abbrev n_Reader_several : List Str := ["self", "end", "between", "read", "found"]
theorem sc_Reader_several : FnScope n_Reader_several ["self", "end", "between", "read"] (defScope s_Reader_several) := ⟨rfl, rfl, rfl, by decide +kernel, rfl, by decide +kernel, by decide +kernel⟩
theorem bi_Reader_several : ∀ (kV doc pm : Value) (an : Option Addr) (cdv ct : Value) (us : List Value), us.length = 4 → bindArgs (PySem.W.fnOf d_Reader_several.name d_Reader_several.qual d_Reader_several.params d_Reader_several.body d_Reader_several.scope .none kV doc pm an cdv ct) ⟨us, []⟩ = pure ([("self" : Str), ("end" : Str), ("between" : Str), ("read" : Str)].zip us) := fun kV doc pm an cdv ct us hu => by
  match us, hu with
  | [u0, u1, u2, u3], _ => rfl
theorem codeO_ins {c : Addr} {q : Str} {C dx : Addr} {fs : List (Str × V)} : LamX.CodeO c q ≠ .ins C dx fs := fun z => by
  unfold LamX.CodeO at z
  cases z
theorem codeO_lst {c : Addr} {q : Str} {xs : List V} : LamX.CodeO c q ≠ .lst xs := fun z => by
  unfold LamX.CodeO at z
  cases z
/-- several, by what its reader reads -/
def TTs (K : PySem.W.Frag) {α : Type} (rd : List Nat → Option (α × List Nat)) (G : α → Prop) (At : Hp → α → V → Prop) (dat : α → PyData) (T : List (Addr × Str)) : List V → XK → (XK → Hp → VK → Prop) → Hp → VK → Prop := fun vs Eg tl H Q =>
  ∃ (p : Addr) (s r e b : List Nat), vs = [.ref p, .str (S e), .str (S b)] ∧ RdR K H p s r ∧ s.length ≤ 1000000 ∧ r.length ≤ s.length ∧ e.length ≤ 1000 ∧ b.length ≤ 1000 ∧ LamX.Tabs T H ∧
  (∀ (E' : XK) (H' : Hp) (Q' : VK) (r' : List Nat), RdR K H' p s r' → Kp p H H' → LamX.Tabs T H' → (∃ a, r = a ++ r') →
    (rd r' = none → ∀ H'', Kp p H' H'' → LamX.Tabs T H'' → E' (.ref (CN K)) none H'') →
    (∀ d r'', rd r' = some (d, r'') → ∀ v H'', Kp p H' H'' → LamX.Tabs T H'' → RdR K H'' p s r'' → At H'' d v → Q' v H'') → tl E' H' Q') ∧
  (M.sev rd e b (r.length + 1) [] r = none → ∀ H', Kp p H H' → LamX.Tabs T H' → Eg (.ref (CN K)) none H') ∧
  (∀ cs r', M.sev rd e b (r.length + 1) [] r = some (cs, r') → ∀ u us H', Kp p H H' → LamX.Tabs T H' → RdR K H' p s r' → H' u = some (.tup us) → All2 (fun v c => At H' c v) us cs → us.length ≤ 1000000 → Q (.ref u) H')
theorem eqv_nil {α : Type} (dat : α → PyData) (l : List α) : PyData.eqv (.list (l.map dat)) (.list []) = l.isEmpty := by
  cases l <;> simp [PyData.eqv, PyData.eqvAll]
theorem dpAll_of {α : Type} {K : PySem.W.Frag} {H : Hp} {At : Hp → α → V → Prop} {dat : α → PyData} (h : ∀ d v, At H d v → Dp K H v (dat d)) : ∀ {us : List V} {cs : List α}, All2 (fun v c => At H c v) us cs → DpAll K H us (cs.map dat)
  | [], [], _ => .nil
  | u :: us, c :: cs, z => .cons (h c u z.1) (dpAll_of h z.2)
  | [], _ :: _, z => False.elim z
  | _ :: _, [], z => False.elim z
theorem lay_of {α : Type} {G : α → Prop} {dat : α → PyData} (h : ∀ d, G d → (dat d).canLay0 = true) : ∀ {cs : List α}, (∀ c ∈ cs, G c) → PyData.canLayAll0 (cs.map dat) = true
  | [], _ => rfl
  | c :: cs, z => by
    show ((dat c).canLay0 && PyData.canLayAll0 (cs.map dat)) = true
    rw [h c (z c (by simp)), lay_of h fun x hx => z x (by simp [hx])]
    rfl
theorem several_gives (W : Wl K mg) {α : Type} {rd : List Nat → Option (α × List Nat)} {G : α → Prop} {At : Hp → α → V → Prop} {dat : α → PyData} {T : List (Addr × Str)} {q0 : Str}
    (hrd : ∀ s d r, rd s = some (d, r) → G d ∧ ∃ a, s = a ++ r ∧ a ≠ []) (hAt : ∀ H H' d v, TupK H H' → At H d v → At H' d v) (hdp : ∀ H d v, At H d v → Dp K H v (dat d)) (hlay : ∀ d, G d → (dat d).canLay0 = true)
    {N : List Str} {qual : Str} {scope : Scope} {f0 : Addr} {cdv0 : Value} {A : Around} {outer : List Env} {s0 : Shared} {H0 : Hp} {E0 : XK} {k : Nat} {g : Addr} :
    XP.GivesM (cxOf (CXN w) P0 w K mg base N qual scope f0 cdv0 A outer s0 H0 E0) (CXN w) (k + 3) n_Reader_several d_Reader_several.qual d_Reader_several.scope g d_Reader_several.body "read" 3 q0 (TTs K rd G At dat T) := by
  intro f c' cdg s1 H vs Q E tl hvs hr hact hc h
  have tk := takes_of (X := cxOf (CXN w) P0 w K mg base n_Reader_several d_Reader_several.qual d_Reader_several.scope g cdg (cxOf (CXN w) P0 w K mg base N qual scope f0 cdv0 A outer s0 H0 E0).A (cxOf (CXN w) P0 w K mg base N qual scope f0 cdv0 A outer s0 H0 E0).stack s1 H E) rfl rfl rfl rfl
  have nd := sc_Reader_several.nd
  have O_takes := o_takesR (w := w) (base := base) W
  have O_needs := o_needsR (w := w) (base := base) W
  have hact2 := fun p1 p2 => hact (fun cls d _ H => E cls d H) _ _ E p1 p2 tk (fun _ _ _ _ h => h)
  refine ⟨_, (pss_cons (ps_set (i := 4) nd rfl (Or.inl rfl) (pe_lst pa_nil))
    (pss_cons (ps_while (passes_of rfl) (pt_not (pt_val (pe_cam O_takes W.k_Reader W.m_Reader_takes (hr.mono (by omega)) pass0 (pv 0) (pa_cons (pv 1) pa_nil)))) (pss_cons (ps_if (pt_cmpR XP.op_neE (pv 4) (pe_lst pa_nil) (nomark _)) (pss_one (ps_expr (pe_cam O_needs W.k_Reader W.m_Reader_needs (hr.mono (by omega)) (passes_call tk (fun _ _ _ _ h => h)) (pv 0) (pa_cons (pv 2) pa_nil)))) pss_nil)
      (pss_one (ps_expr (pe_bm PySem.F.plainAttrs_list PySem.F.slot_list_append PySem.F.type_list_append mt_append (pv 4) (pa_cons (hact2 _ _) pa_nil))))))
    (pss_one (ps_ret (pe_callTy call_tuple_of (by rfl) W.f_tuple (by decide +kernel) (pa_cons (pv 4) pa_nil)))))), ?_⟩
  obtain ⟨p, s, r, e, b, rfl, hR, hs, hrs, he, hb, hT, hact3, hF, hQ⟩ := h
  obtain ⟨dx0, fs0, hp0⟩ := hR.ins
  have hun : ∀ X : PyData, (cxOf (CXN w) P0 w K mg base N qual scope f0 cdv0 A outer s0 H0 E0).A.deeper (envOfC d_Reader_several.qual d_Reader_several.scope s1.heap.objs.size g cdg) |>.units |> fun u => u + min X.depth (PyData.list []).depth < cLine := fun X => by
    have h1 := hr.un
    have h2 : (PyData.list []).depth = 1 := by simp [PyData.depth, PyData.depthAll]
    have h3 := Nat.min_le_right X.depth (PyData.list []).depth
    show _ + _ < _
    omega
  refine ⟨Nat.zero_le _, fun L hL => ?_⟩
  have nLp : L ≠ p := (ne_of_none hp0 hL).symm
  refine HL.while_zz
    (fun m σ H1 => ∃ (acc : List α) (us : List V) (r' : List Nat) (n : Nat), m = r'.length ∧ σ = [some (.ref p), some (.str (S e)), some (.str (S b)), some (.ref f), some (.ref L)] ∧ Kp p H H1 ∧ H1 L = some (.lst us) ∧ All2 (fun v c => At H1 c v) us acc ∧ (∀ c ∈ acc, G c) ∧
      RdR K H1 p s r' ∧ LamX.Tabs T H1 ∧ (∃ a, r = a ++ r') ∧ us.length + r'.length ≤ r.length ∧ r'.length < n ∧ M.sev rd e b n acc r' = M.sev rd e b (r.length + 1) [] r)
    (fun σ H1 => ∃ (acc : List α) (us : List V) (r' : List Nat), σ = [some (.ref p), some (.str (S e)), some (.str (S b)), some (.ref f), some (.ref L)] ∧ Kp p H H1 ∧ H1 L = some (.lst us) ∧ All2 (fun v c => At H1 c v) us acc ∧
      RdR K H1 p s r' ∧ LamX.Tabs T H1 ∧ us.length ≤ r.length ∧ M.sev rd e b (r.length + 1) [] r = some (acc, r'))
    ⟨_, [], [], r, r.length + 1, rfl, rfl, .of (same_new hL), upd_same, trivial, (fun c hc => by simp at hc), ⟨hR.choose, let ⟨dx, z⟩ := hR.choose_spec.1; ⟨dx, by rw [upd_ne nLp.symm]; exact z⟩, hR.choose_spec.2⟩, hT.ext (same_new hL), ⟨[], rfl⟩, by simp, by omega, rfl⟩ ?_ ?_
  · rintro m σ H1 ⟨acc, us, r', n, rfl, rfl, e1, hl, hA, hG, hR1, hT1, ⟨a, ha⟩, hn, hfu, hse⟩ R hYes hNo
    obtain ⟨ix, ⟨dx, hp⟩, _⟩ := id hR1
    have nL : ∀ {H2 : Hp} {o : HO}, H2 p = some o → ∀ {xs}, H2 L = some (HO.lst xs) → True := fun _ _ _ => trivial
    obtain ⟨n, rfl⟩ : ∃ m, n = m + 1 := ⟨n - 1, by omega⟩
    have kpL : ∀ {Ha Hb : Hp} {xs : List V}, Kp p Ha Hb → Ha L = some (.lst xs) → Hb L = some (.lst xs) := fun z h => z _ _ h ⟨nLp, fun ps q => nomatch q⟩
    have kpC : ∀ {Ha : Hp}, Kp p H Ha → Ha c' = some (LamX.CodeO c' q0) := fun z => z _ _ hc ⟨fun q => by rw [q, hp0] at hc; exact codeO_ins (Option.some.inj hc).symm, fun ps => LamX.codeO_ne ps⟩
    refine ⟨_, rfl, p, dx, _, rfl, hp, rfl, _, rfl, p, s, r', e, rfl, hR1, hs, he, fun hno => ⟨_, rfl, ?_⟩, fun r2 hyes H2 e2 hR2 => ⟨_, rfl, ?_⟩⟩
    · -- one more
      have hse' : M.sev rd e b (n + 1) acc r' = (match (if acc.isEmpty = true then some r' else M.takes b r') with
        | none => none
        | some s1 => match rd s1 with
          | none => none
          | some (d, s2) => M.sev rd e b n (acc ++ [d]) s2) := by
        show (match M.takes e r' with | some r => some (acc, r) | none => _) = _
        rw [hno] <;> rfl
      refine hYes _ fun N F hN hZ => ?_
      -- what is read next, from r3
      have step : ∀ (r3 : List Nat) (H3 : Hp), Kp p H1 H3 → RdR K H3 p s r3 → LamX.Tabs T H3 → (∃ a, r' = a ++ r3) → (if acc.isEmpty = true then some r' else M.takes b r') = some r3 → tDrop (tBM K "list" rAppend (tVar 4) (tCons (fun σZ HZ Q => σZ[3]? = some (some (V.ref f)) ∧ HZ c' = some (LamX.CodeO c' q0) ∧ tl E HZ Q) tNil))
          { nx := N, ct := N, bk := F, rt := Q } [some (.ref p), some (.str (S e)), some (.str (S b)), some (.ref f), some (.ref L)] H3 := by
        intro r3 H3 e3 hR3 hT3 ⟨a3, ha3⟩ h3
        have hl3 := kpL e3 hl
        have e03 := e1.trans e3
        refine ⟨_, rfl, .inl ⟨rfl, _, sql hl3⟩, rfl, kpC e03, ?_⟩
        rw [h3] at hse'
        refine hact3 E H3 _ r3 hR3 e03 hT3 ⟨a ++ a3, by rw [ha, ha3, List.append_assoc]⟩ (fun hn4 H4 e4 hT4 => ?_) fun d r4 hd v H4 e4 hT4 hR4 hv => ?_
        · refine hF ?_ H4 (e03.trans e4) hT4
          rw [← hse, hse']
          show (match rd r3 with | none => none | some (d, s2) => _) = _
          rw [hn4] <;> rfl
        · have hl4 := kpL e4 hl3
          obtain ⟨g1, a4, ha4, hne⟩ := hrd _ _ _ hd
          have hlen4 : r4.length < r3.length := by
            have := List.length_pos_iff.mpr hne
            rw [ha4, List.length_append]
            omega
          have hlen3 : r3.length ≤ r'.length := by rw [ha3, List.length_append]; omega
          refine ⟨L, us, v, rfl, rfl, hl4, Nat.lt_of_le_of_lt (show us.length ≤ 1000000 by omega) (by decide), ?_⟩
          have tk4 : TupK H1 H4 := kpT (e3.trans e4) hR1
          refine hN r4.length _ _ (by omega) ⟨acc ++ [d], us ++ [v], r4, n, rfl, rfl, ?_, upd_same, ?_, ?_, ?_, ?_, ⟨a ++ (a3 ++ a4), by rw [ha, ha3, ha4]; simp⟩, by rw [List.length_append]; simp; omega, by omega, ?_⟩
          · exact (e03.trans e4).mutN hL
          · have up : TupK H4 (upd H4 L (.lst (us ++ [v]))) := (TupK.refl H4).mut hl4 (fun xs q => nomatch q)
            exact All2.snoc (R := fun v c => At (upd H4 L (.lst (us ++ [_]))) c v) (hAt _ _ _ _ up hv) (hA.imp fun v c z => hAt _ _ _ _ (tk4.trans up) z)
          · intro c hc
            rcases List.mem_append.mp hc with z | z
            · exact hG c z
            · have : c = d := by simpa using z
              rw [this]
              exact g1
          · obtain ⟨i4, ⟨dx4, z4⟩, z5⟩ := hR4
            exact ⟨i4, ⟨dx4, by rw [upd_ne nLp.symm]; exact z4⟩, z5⟩
          · exact fun x hx => by
              obtain ⟨ps, t1, t2, t3⟩ := hT4 x hx
              refine ⟨ps, by rw [upd_ne (fun z => by rw [z, hl4] at t1; cases t1)]; exact t1, t2, fun pos cv hcv => ?_⟩
              obtain ⟨c0, c1, c2⟩ := t3 pos cv hcv
              exact ⟨c0, c1, by rw [upd_ne (fun z => by rw [z, hl4] at c2; exact codeO_lst (Option.some.inj c2).symm)]; exact c2⟩
          · rw [← hse, hse']
            show _ = (match rd r3 with | none => none | some (d, s2) => _)
            rw [hd] <;> rfl
      refine ⟨_, rfl, Nat.zero_le _, fun l hlN => ?_⟩
      have sN : Same H1 (upd H1 l (.lst [])) := same_new hlN
      have hRN : RdR K (upd H1 l (.lst [])) p s r' := ⟨hR1.choose, let ⟨dx, z⟩ := hR1.choose_spec.1; ⟨dx, sN _ _ z⟩, hR1.choose_spec.2⟩
      have hpN := sN _ _ hp
      refine ⟨.list (acc.map dat), .list [], .lst (sql (sN _ _ hl)) (dpAll_of (hdp _) (hA.imp fun v c z => hAt _ _ _ _ (.of sN) z)), .lst (sql upd_same) .nil, lay_of hlay hG, rfl, hun _, ?_⟩
      rw [eqv_nil]
      refine ⟨_, rfl, ?_⟩
      cases hacc : acc.isEmpty with
      | true => exact iteF (step r' _ (kpS sN) hRN (hT1.ext sN) ⟨[], rfl⟩ (by rw [hacc] <;> rfl))
      | false =>
        refine iteT ⟨_, rfl, p, dx, _, rfl, hpN, rfl, _, rfl, p, s, r', b, rfl, hRN, hs, hb, fun hno3 => ?_, fun r3 hyes3 H3 e3 hR3 => ?_⟩
        · refine hF ?_ _ (e1.trans (kpS sN)) (hT1.ext sN)
          rw [← hse, hse', hacc]
          show (match M.takes b r' with | none => none | some s1 => _) = _
          rw [hno3] <;> rfl
        · exact step r3 _ ((kpS sN).trans (kpB e3)) hR3 (tabB (hT1.ext sN) e3 hRN) ⟨b, M.takes_some.mp hyes3⟩ (by rw [hacc]; exact hyes3)
    · -- the end is met
      have := hNo H2 ⟨acc, us, r2, rfl, e1.trans (kpB e2), kpL (kpB e2) hl, hA.imp fun v c z => hAt _ _ _ _ (kpT (kpB e2) hR1) z, hR2, tabB hT1 e2 hR1, by omega, by
        rw [← hse]
        show (match M.takes e r' with | some r => some (acc, r) | none => _) = _
        rw [hyes] <;> rfl⟩
      exact this
  · rintro σ H1 ⟨acc, us, r', rfl, e1, hl, hA, hR1, hT1, hn, hse⟩
    refine ⟨_, rfl, L, us, rfl, .inl ⟨sql hl, fun u hu => ?_⟩⟩
    have up : TupK H1 (upd H1 u (.tup us)) := .of (same_new hu)
    refine hQ acc r' hse u us _ (e1.new hu) (hT1.ext (same_new hu)) ?_ upd_same (hA.imp fun v c z => hAt _ _ _ _ up z) (by omega)
    obtain ⟨i4, ⟨dx4, z4⟩, z5⟩ := hR1
    exact ⟨i4, ⟨dx4, same_new hu _ _ z4⟩, z5⟩
end
end K93
end

section
set_option Elab.async false
set_option linter.all false
set_option maxRecDepth 100000
set_option maxHeartbeats 4000000
/-! k93: condition_here. -/
namespace K93
open PySem PySem.Spec PyProof.Rows L2 He HL
theorem sq (s : String) : V.str (Str.ofString s) = V.str (S (M.q s)) := by
  rw [HL.ofq]
  rfl
theorem eqV_str (a b : Str) : eqV (.str a) (.str b) = decide (a = b) := by
  show (a == b) = _
  by_cases h : a = b
  · rw [decide_eq_true h, h]
    simp
  · rw [decide_eq_false h]
    simpa using h
theorem S_dec (a b : List Nat) : decide (S a = S b) = decide (a = b) := by
  by_cases h : a = b
  · rw [h]
    simp
  · rw [decide_eq_false h, decide_eq_false fun z => h (S_inj z)]
theorem in_words {K : PySem.W.Frag} {H : Hp} {t : Addr} {w : List Nat} (l : List String) {Q : VK} (ht : H t = some (.tup (l.map fun s => V.str (Str.ofString s)))) (h : Q (.bl (l.any fun s => decide (w = M.q s))) H) : rIn K false (.str (S w)) (.ref t) H Q := by
  refine ⟨t, _, rfl, .inr (sqt ht), rfl, ?_, ?_⟩
  · rw [List.all_map]
    exact List.all_eq_true.mpr fun _ _ => rfl
  · have e : inV (.str (S w)) (l.map fun s => V.str (Str.ofString s)) = l.any fun s => decide (w = M.q s) := by
      unfold inV
      rw [List.any_map]
      congr 1
      funext s
      show eqV (V.str (Str.ofString s)) (.str (S w)) = _
      rw [sq, eqV_str, S_dec]
      exact decide_eq_decide.mpr ⟨Eq.symm, Eq.symm⟩
    show Q (.bl (inV _ _)) H
    rw [e]
    exact h
/-- the tables that the makers of lambdas have -/
structure Tb (K : PySem.W.Frag) (mg : Str → Option Value) (base : Heap) : Prop where
  tab : ∀ p ∈ tf, LamX.TabB base mg (He.cT K p).1 (He.cT K p).2
def qLam (d : DefD) : Str := (d.qual ++ ".<locals>.") ++ "<lambda>"
def TK (K : PySem.W.Frag) : List (Addr × Str) := [((He.cT K ("Reader", some "condition_here")).2, qLam d_Reader_condition_here), ((He.cT K ("read_facts", none)).2, qLam d_read_facts), ((He.cT K ("law", none)).2, qLam d_law)]
theorem Wl.nodT {K : PySem.W.Frag} {mg : Str → Option Value} (W : Wl K mg) : ((TK K).map (·.1)).Nodup := let ⟨_, _, _, _, c⟩ := W.ex; of_decide_eq_true c.y.nod
theorem tab_uniq {T : List (Addr × Str)} (h : (T.map (·.1)).Nodup) {P : Addr} {q : Str} (hm : (P, q) ∈ T) : ∀ p ∈ T, p.1 = P → p.2 = q := by
  induction T with
  | nil => exact fun p hp => by simp at hp
  | cons a T ih =>
    rw [List.map_cons, List.nodup_cons] at h
    intro p hp e
    rcases List.mem_cons.mp hp with z1 | hp1
    · rcases List.mem_cons.mp hm with z2 | hm1
      · rw [z1, ← z2]
      · exact absurd (List.mem_map.mpr ⟨(P, q), hm1, by rw [← z1, e]⟩) h.1
    · rcases List.mem_cons.mp hm with z2 | hm1
      · exact absurd (List.mem_map.mpr ⟨p, hp1, by rw [← z2, e]⟩) h.1
      · exact ih h.2 hm1 p hp1 e
section
variable {w : World} {K : PySem.W.Frag} {mg : Str → Option Value} {base : Heap}
/-- a def that makes lambdas: its code object is told -/
theorem ok_ofT {CX : CXT} {k : Nat} {d : DefD} {N ps : List Str} {sp : Sp} (D : ∃ fd, FunD K d.name d.qual d.params d.body d.scope [] [] (fAd K d.at_) fd) (Sc : FnScope N ps d.scope) (len : ∀ vs H Q E, sp vs H Q E → vs.length = ps.length)
    (hb : ∀ (kV doc pm : Value) (an : Option Addr) (cdv ct : Value) (us : List Value), us.length = ps.length → bindArgs (PySem.W.fnOf d.name d.qual d.params d.body d.scope .none kV doc pm an cdv ct) ⟨us, []⟩ = pure (ps.zip us))
    (hbody : ∀ (A : Around) (outer : List Env) (s : Shared) (H : Hp) (vs : List V) (Q : VK) (E : XK), Room k (A.deeper (envOfC d.qual d.scope s.heap.objs.size (fAd K d.at_) (.ref (He.cT K d.at_).1))) → sp vs H Q E →
      ∃ t, PSs (cxOf CX P0 w K mg base N d.qual d.scope (fAd K d.at_) (.ref (He.cT K d.at_).1) A outer s H E) d.body t ∧ t { nx := fun _ H' => Q .non H', rt := Q } (L2.start N vs) H) : OkD w K mg base CX (k + 1) d ps sp := by
  obtain ⟨fd, F⟩ := D
  obtain ⟨oc, od, dV, kV, doc, pm, an, cdv, ct, osl, rfl, lk, hcd, h1, h2⟩ := id F.ex
  obtain ⟨c, rfl⟩ := He.codeIn_ref hcd
  have hc : He.codeOf K d.at_ = c := He.codeOf_eq lk rfl
  refine ⟨⟨_, fn_of lk hcd Sc len fun A outer s H vs Q E hr hsp => ?_, F.bindsN hb⟩, F.kp⟩
  subst hc
  exact hbody A outer s H vs Q E hr hsp
theorem o_vac {CX : CXT} {k : Nat} {d : DefD} {N ps : List Str} {sp : Sp} (D : ∃ fd, FunD K d.name d.qual d.params d.body d.scope [] [] (fAd K d.at_) fd) (Sc : FnScope N ps d.scope)
    (hb : ∀ (kV doc pm : Value) (an : Option Addr) (cdv ct : Value) (us : List Value), us.length = ps.length → bindArgs (PySem.W.fnOf d.name d.qual d.params d.body d.scope .none kV doc pm an cdv ct) ⟨us, []⟩ = pure (ps.zip us)) (h : ∀ vs H Q E, ¬ sp vs H Q E) : OkD w K mg base CX (k + 1) d ps sp :=
  HL.ok_of D Sc (fun vs H Q E z => (h vs H Q E z).elim) hb fun cdv A outer s H vs Q E hr z => (h vs H Q E z).elim
theorem RdR.len {H : Hp} {p : Addr} {s r : List Nat} (h : RdR K H p s r) : r.length ≤ s.length := by
  obtain ⟨i, _, e⟩ := h
  rw [← e, List.length_drop]
  omega
theorem RdR.keep {H H' : Hp} {p : Addr} {s r : List Nat} (h : RdR K H p s r) (e : ∀ o, H p = some o → (∀ ps, o ≠ .tbl ps) → H' p = some o) : RdR K H' p s r := let ⟨i, ⟨dx, z⟩, q⟩ := h; ⟨i, ⟨dx, e _ z (fun _ z => nomatch z)⟩, q⟩
abbrev n_Reader_condition_here : List Str := ["self", "word", "some"]
theorem sc_Reader_condition_here : FnScope n_Reader_condition_here ["self"] (defScope s_Reader_condition_here) := ⟨rfl, rfl, rfl, by decide +kernel, rfl, by decide +kernel, by decide +kernel⟩
theorem bi_Reader_condition_here : ∀ (kV doc pm : Value) (an : Option Addr) (cdv ct : Value) (us : List Value), us.length = 1 → bindArgs (PySem.W.fnOf d_Reader_condition_here.name d_Reader_condition_here.qual d_Reader_condition_here.params d_Reader_condition_here.body d_Reader_condition_here.scope .none kV doc pm an cdv ct) ⟨us, []⟩ = pure ([("self" : Str)].zip us) := fun kV doc pm an cdv ct us hu => by
  match us, hu with
  | [u0], _ => rfl
def spCond (K : PySem.W.Frag) (n : Nat) : Sp := fun vs H Q E => ∃ p s r, vs = [.ref p] ∧ RdR K H p s r ∧ s.length ≤ 1000000 ∧ M.om r < n ∧ LamX.Tabs (TK K) H ∧
  (M.cond n r = none → ∀ H', Kp p H H' → LamX.Tabs (TK K) H' → E (.ref (CN K)) none H') ∧
  (∀ c r', M.cond n r = some (c, r') → ∀ v H', Kp p H H' → LamX.Tabs (TK K) H' → RdR K H' p s r' → CAt H' c v → Q v H')
theorem cond_rd {n : Nat} : ∀ s c r, M.cond n s = some (c, r) → c.wf ∧ ∃ a, s = a ++ r ∧ a ≠ [] := fun s c r h => ⟨(M.cond_sound n s c r h).2, _, (M.cond_sound n s c r h).1, M.sh_ne c⟩
theorem o_cond (W : Wl K mg) (B : Tb K mg base) : ∀ (n L : Nat), (n = 0 → 1 ≤ L) → (0 < n → n + 5 ≤ L) → OkD w K mg base (CXN w) L d_Reader_condition_here ["self"] (spCond K n) := by
  intro n
  induction n using Nat.strongRecOn with
  | _ n ih =>
  intro L h0 h1
  by_cases hn : n = 0
  · obtain ⟨k, rfl⟩ : ∃ k, L = k + 1 := ⟨L - 1, by have := h0 hn; omega⟩
    exact o_vac W.D_Reader_condition_here sc_Reader_condition_here bi_Reader_condition_here fun vs H Q E ⟨p, s, r, _, _, _, z, _⟩ => by omega
  obtain ⟨k, rfl⟩ : ∃ k, L = k + 4 + 1 := ⟨L - 5, by have := h1 (by omega); omega⟩
  have hk : n ≤ k := by have := h1 (by omega); omega
  have O_in := ih (n - 3) (by omega) (k + 2) (fun _ => by omega) (fun z => by omega)
  refine ok_ofT W.D_Reader_condition_here sc_Reader_condition_here (fun vs H Q E ⟨_, _, _, h, _⟩ => by rw [h]; rfl) bi_Reader_condition_here fun A outer s H vs Q E hr h => ?_
  have tk := takes_of (X := cxOf (CXN w) P0 w K mg base n_Reader_condition_here d_Reader_condition_here.qual d_Reader_condition_here.scope (fAd K d_Reader_condition_here.at_) (.ref (He.cT K d_Reader_condition_here.at_).1) A outer s H E) rfl rfl rfl rfl
  have nd := sc_Reader_condition_here.nd
  have O_takes := o_takesR (w := w) (base := base) W
  have O_needs := o_needsR (w := w) (base := base) W
  have O_need := o_need (w := w) (base := base) W
  have O_word_here := o_wordR (w := w) (base := base) W
  obtain ⟨fdS, DS⟩ := W.D_Reader_several
  have bS : L2.Binds K fdS ["self", "end", "between", "read"] [] := DS.bindsN bi_Reader_several
  have hG := several_gives (w := w) (base := base) W (rd := M.cond (n - 3)) (G := M.Cond.wf) (At := CAt) (dat := cd) (T := TK K) (q0 := qLam d_Reader_condition_here) cond_rd (fun H H' d v e z => z.keep e) (fun H d v z => z.dp d v) cd_lay
    (N := n_Reader_condition_here) (qual := d_Reader_condition_here.qual) (scope := d_Reader_condition_here.scope) (f0 := fAd K d_Reader_condition_here.at_) (cdv0 := .ref (He.cT K d_Reader_condition_here.at_).1) (A := A) (outer := outer) (s0 := s) (H0 := H) (E0 := E) (k := k) (g := ma K (RC K) "several")
  refine ⟨_, (pss_cons (ps_if (pt_val (pe_cam O_takes W.k_Reader W.m_Reader_takes (hr.mono (by omega)) pass0 (pv 0) (pa_cons pe_str pa_nil))) (pss_one (ps_ret (pe_tup (pa_cons pe_str (pa_cons (pe_cam0 O_word_here W.k_Reader W.m_Reader_word_here (hr.mono (by omega)) (passes_call tk (fun _ _ _ _ h => h)) (pv 0)) pa_nil))))) pss_nil)
    (pss_cons (ps_set (i := 1) nd rfl (Or.inl rfl) (pe_cam0 O_word_here W.k_Reader W.m_Reader_word_here (hr.mono (by omega)) (passes_call tk (fun _ _ _ _ h => h)) (pv 0)))
    (pss_cons (ps_if (pt_cmpR op_in_seq (pv 1) (pe_tup (pa_cons pe_str (pa_cons pe_str pa_nil))) (by rfl)) (pss_one (ps_ret (pe_tup (pa_cons (pv 1) pa_nil)))) pss_nil)
    (pss_cons (ps_expr (pe_cal O_need (hr.mono (by omega)) W.g_need (passes_call tk (fun _ _ _ _ h => h)) (pa_cons (pe_cmpR op_in_seq (pv 1) (pe_tup (pa_cons pe_str (pa_cons pe_str (pa_cons pe_str pa_nil)))) (by rfl)) pa_nil)))
    (pss_cons (ps_expr (pe_cam O_needs W.k_Reader W.m_Reader_needs (hr.mono (by omega)) (passes_call tk (fun _ _ _ _ h => h)) (pv 0) (pa_cons pe_str pa_nil)))
    (pss_cons (ps_set (i := 2) nd rfl (Or.inl rfl) (XP.pe_lammeth (T := TK K) (TT := TTs K (M.cond (n - 3)) M.Cond.wf CAt cd (TK K)) (C := RC K) (c := (He.cT K ("Reader", some "condition_here")).1) (P := (He.cT K ("Reader", some "condition_here")).2) (k := k + 2) (CXg := CXN w) (t := fun E' => tMeth (RC K) "condition_here" (spCond K (n - 3)) [] E' (tVar 0) tNil) (E := E) DS bS rfl W.k_Reader W.m_Reader_several sc_Reader_several rfl (.inl rfl) hG (B.tab _ (by simp [tf])) rfl (by simp [TK]; left; rfl) (tab_uniq W.nodT (by simp [TK]; left; rfl)) hr (passes_call tk (fun _ _ _ _ h => h)) (show LamX.LamS (defScope s_Reader_condition_here) _ from LamX.lamS_by (by decide +kernel)) rfl (fun _ _ _ _ _ => rfl) (fun A' outer' s' H' E' f c' hr2 => pe_cam0 O_in W.k_Reader W.m_Reader_condition_here hr2 (passes_call (takes_of rfl rfl rfl rfl) (fun _ _ _ _ h => h)) (pv 0)) (pv 0) pe_str pe_str))
    (pss_cons (ps_expr (pe_cal O_need (hr.mono (by omega)) W.g_need (passes_call tk (fun _ _ _ _ h => h)) (pa_cons (pe_or (pe_cmpR op_ne (pv 1) pe_str (nomark _)) (pe_one (pe_cmpR op_eq (pe_callB call_len_seq (by rfl) W.f_len (by decide +kernel) (pa_cons (pv 2) pa_nil)) pe_int (nomark _)))) pa_nil)))
    (pss_one (ps_ret (pe_ifExp (pt_cmpR op_eq (pv 1) pe_str (nomark _)) (pe_tup (pa_cons pe_str (pa_cons (pe_ix ix_tup (pv 2) pe_int (fun _ _ => rfl)) pa_nil))) (pe_tup (pa_cons (pv 1) (pa_cons (pv 2) pa_nil))))))))))))), ?_⟩
  obtain ⟨p, s, r, rfl, hR, hs, hom, hT, hF, hQ⟩ := h
  rw [M.cond, dif_neg hn] at hF
  have hQ : ∀ c r', (match M.takes (M.q "?") r with
      | some r => (match M.word r with
        | none => none
        | some (w, r2) => some (M.Cond.ask w, r2))
      | none => (match M.word r with
        | none => none
        | some (w, r) =>
          if w = M.q "yes" then some (M.Cond.word true, r) else if w = M.q "no" then some (M.Cond.word false, r)
          else if w = M.q "not" ∨ w = M.q "all" ∨ w = M.q "any" then
            (match M.takes (M.q "(") r with
            | none => none
            | some r1 => (match M.sev (M.cond (n - 3)) (M.q ")") (M.q ", ") (r1.length + 1) [] r1 with
              | none => none
              | some (cs, r2) => if w = M.q "not" then (match cs with
                  | [c] => some (M.Cond.neg c, r2)
                  | _ => none) else some (M.Cond.many (decide (w = M.q "all")) cs, r2)))
          else none)) = some (c, r') → ∀ v H', Kp p H H' → LamX.Tabs (TK K) H' → RdR K H' p s r' → CAt H' c v → Q v H' := fun c r' z => hQ c r' (by rw [M.cond, dif_neg hn]; exact z)
  obtain ⟨i0, ⟨dx, hp⟩, _⟩ := id hR
  refine ⟨_, rfl, p, dx, _, rfl, hp, rfl, p, s, r, M.q "?", congrArg (fun z => [V.ref p, z]) (sq "?"), hR, hs, by decide, fun h1 => ⟨_, rfl, iteF ?_⟩, fun r1 h1 H1 e1 hR1 => ⟨_, rfl, iteT ?_⟩⟩
  · -- a word
    simp only [h1] at hF hQ
    refine ⟨_, rfl, p, dx, _, rfl, hp, rfl, p, s, r, rfl, hR, hs, fun h2 H2 e2 => ?_, fun x r2 h2 H2 e2 hR2 => ?_⟩
    · simp only [h2] at hF
      exact hF trivial _ (kpB e2) (tabB hT e2 hR)
    · have hx := (M.word_some h2).2.1
      have hr2 := (M.word_some h2).1
      simp only [h2] at hF hQ
      have hT2 := tabB hT e2 hR
      refine ⟨_, rfl, by decide, fun t ht => in_words ["yes", "no"] upd_same ⟨_, rfl, ?_⟩⟩
      simp only [List.any_cons, List.any_nil, Bool.or_false]
      have k3 : Kp p H (upd H2 t (.tup [V.str "yes", V.str "no"])) := (kpB e2).new ht
      have s3 : Same H2 (upd H2 t (.tup [V.str "yes", V.str "no"])) := same_new ht
      generalize upd H2 t (.tup [V.str "yes", V.str "no"]) = H3 at k3 s3 ⊢
      have hT3 := hT2.ext s3
      have hR3 : RdR K H3 p s r2 := hR2.keep fun o h _ => s3 _ _ h
      by_cases hy : x = M.q "yes"
      · rw [decide_eq_true hy, Bool.true_or]
        simp only [if_pos hy] at hQ
        refine iteT ⟨_, rfl, by show 1 ≤ sizeLine; decide, fun t2 ht2 => ?_⟩
        refine hQ _ _ rfl _ _ (k3.new ht2) (hT3.ext (same_new ht2)) (hR3.keep fun o h _ => same_new ht2 _ _ h) ?_
        unfold CAt
        exact ⟨t2, rfl, by rw [upd_same, hy]; rfl⟩
      by_cases hno : x = M.q "no"
      · rw [decide_eq_false hy, decide_eq_true hno, Bool.false_or]
        simp only [if_neg hy, if_pos hno] at hQ
        refine iteT ⟨_, rfl, by show 1 ≤ sizeLine; decide, fun t2 ht2 => ?_⟩
        refine hQ _ _ rfl _ _ (k3.new ht2) (hT3.ext (same_new ht2)) (hR3.keep fun o h _ => same_new ht2 _ _ h) ?_
        unfold CAt
        exact ⟨t2, rfl, by rw [upd_same, hno]; rfl⟩
      rw [decide_eq_false hy, decide_eq_false hno, Bool.false_or]
      simp only [if_neg hy, if_neg hno] at hF hQ
      refine iteF ⟨_, rfl, by show 3 ≤ sizeLine; decide, fun t2 ht2 => in_words ["not", "all", "any"] upd_same ?_⟩
      simp only [List.any_cons, List.any_nil, Bool.or_false]
      have k4 : Kp p H (upd H3 t2 (.tup [V.str "not", V.str "all", V.str "any"])) := k3.new ht2
      have s4 : Same H3 (upd H3 t2 (.tup [V.str "not", V.str "all", V.str "any"])) := same_new ht2
      generalize upd H3 t2 (.tup [V.str "not", V.str "all", V.str "any"]) = H4 at k4 s4 ⊢
      have hT4 := hT3.ext s4
      have hR4 : RdR K H4 p s r2 := hR3.keep fun o h _ => s4 _ _ h
      refine ⟨_, rfl, fun h3 => ?_, fun h3 => ?_⟩
      · have h3 : x = M.q "not" ∨ x = M.q "all" ∨ x = M.q "any" := by simpa using h3
        simp only [if_pos h3] at hF hQ
        obtain ⟨i4, ⟨dx4, hp4⟩, _⟩ := id hR4
        refine ⟨_, rfl, p, dx4, _, rfl, hp4, rfl, p, s, r2, M.q "(", congrArg (fun z => [V.ref p, z]) (sq "("), hR4, hs, by decide, fun h5 => ?_, fun r5 h5 H5 e5 hR5 => ?_⟩
        · simp only [h5] at hF
          exact hF trivial _ k4 hT4
        · simp only [h5] at hF hQ
          have k5 := k4.trans (kpB e5)
          have hT5 := tabB hT4 e5 hR4
          obtain ⟨i5, ⟨dx5, hp5⟩, _⟩ := id hR5
          have om5 : M.om r5 + 3 ≤ M.om r := by
            rw [hr2, M.takes_some.mp h5, M.om_app, M.om_app, show M.om (M.q "(") = 3 from by decide]
            omega
          refine ⟨_, rfl, p, dx5, _, rfl, hp5, rfl, hT5, fun H6 e6 hT6 => ?_⟩
          have k56 : Kp p H5 H6 := kpN hp5 e6
          have k6 := k5.trans k56
          have hR6 : RdR K H6 p s r5 := hR5.keep fun o h n => e6 _ _ h n
          refine ⟨p, s, r5, M.q ")", M.q ", ", by rw [sq ")", sq ", "], hR6, hs, hR6.len, by decide, by decide, hT6, fun E' H' Q' r' hR' k' hT' ⟨a, ha⟩ hno' hyes' => ?_, fun h7 H7 k7 hT7 => ?_, fun cs r7 h7 u us H7 k7 hT7 hR7 hu hA hul => ?_⟩
          · obtain ⟨i7, ⟨dx7, hp7⟩, _⟩ := id hR'
            refine ⟨_, rfl, p, dx7, _, rfl, hp7, rfl, p, s, r', rfl, hR', hs, ?_, hT', hno', fun c r'' hc v H'' z1 z2 z3 z4 => hyes' c r'' hc v H'' z1 z2 z3 z4⟩
            have : M.om r' ≤ M.om r5 := by
              rw [ha, M.om_app]
              omega
            omega
          · simp only [h7] at hF
            exact hF trivial _ (k6.trans k7) hT7
          · simp only [h7] at hF hQ
            have k7' := k6.trans k7
            refine ⟨_, rfl, rfl, ?_⟩
            rw [sq "not", dec_S]
            refine ⟨_, rfl, ?_⟩
            by_cases hx1 : x = M.q "not"
            · rw [decide_eq_true (show x = M.q "not" from hx1)]
              simp only [if_pos hx1] at hF hQ
              refine iteF ⟨_, rfl, u, _, rfl, .inr (sqt hu), rfl, ?_⟩
              have hlen := hA.length
              refine ⟨_, rfl, fun h8 => ?_, fun h8 => ?_⟩
              · have h8 : (us.length : Int) = 1 := by
                  have := of_decide_eq_true h8
                  injection this
                obtain ⟨c, rfl⟩ : ∃ c, cs = [c] := List.length_eq_one_iff.mp (by omega)
                obtain ⟨v1, rfl⟩ : ∃ v, us = [v] := List.length_eq_one_iff.mp (by omega)
                refine ⟨_, rfl, rfl, ?_⟩
                rw [dec_S, decide_eq_true (show x = M.q "not" from hx1)]
                refine ⟨_, rfl, iteT ⟨_, rfl, u, _, _, v1, rfl, rfl, sqt hu, (show atI [v1] ((0 : Nat) : Int) = some v1 from atI_nat rfl), by show 2 ≤ sizeLine; decide, fun t ht => ?_⟩⟩
                refine hQ _ _ rfl _ _ (k7'.new ht) (hT7.ext (same_new ht)) (hR7.keep fun o h _ => same_new ht _ _ h) ?_
                unfold CAt
                exact ⟨t, v1, rfl, upd_same, hA.1.keep (.of (same_new ht))⟩
              · have h8 : cs.length ≠ 1 := fun z => by
                  rw [decide_eq_true (show V.int (us.length : Nat) = V.int 1 by rw [hlen, z] <;> rfl)] at h8
                  cases h8
                refine hF ?_ _ k7' hT7
                match cs, h8 with
                | [], _ => rfl
                | [c], z => exact absurd rfl z
                | _ :: _ :: _, _ => rfl
            · rw [decide_eq_false (show ¬ x = M.q "not" from hx1)]
              simp only [if_neg hx1] at hF hQ
              refine iteT ⟨_, rfl, fun _ => ?_, nofun⟩
              refine ⟨_, rfl, rfl, ?_⟩
              rw [dec_S, decide_eq_false (show ¬ x = M.q "not" from hx1)]
              refine ⟨_, rfl, iteF ⟨_, rfl, _, rfl, by show 2 ≤ sizeLine; decide, fun t ht => ?_⟩⟩
              refine hQ _ _ rfl _ _ (k7'.new ht) (hT7.ext (same_new ht)) (hR7.keep fun o h _ => same_new ht _ _ h) ?_
              unfold CAt
              have e9 : x = M.nq (decide (x = M.q "all")) := by
                rcases h3 with z | z | z
                · exact absurd z hx1
                · rw [z]
                  rfl
                · rw [z]
                  rfl
              refine ⟨t, u, us, rfl, by rw [upd_same, ← e9], same_new ht _ _ hu, CAtL.keep (.of (same_new ht)) _ _ (cAtL_iff.mpr hA)⟩
      · have h3 : ¬ (x = M.q "not" ∨ x = M.q "all" ∨ x = M.q "any") := by simpa using h3
        simp only [if_neg h3] at hF
        exact hF trivial _ k4 hT4
  · -- an asked one
    simp only [h1] at hF hQ
    obtain ⟨i1, ⟨dx1, hp1⟩, _⟩ := id hR1
    have hT1 := tabB hT e1 hR
    refine ⟨_, rfl, p, dx1, _, rfl, hp1, rfl, p, s, r1, rfl, hR1, hs, fun h2 H2 e2 => ?_, fun x r2 h2 H2 e2 hR2 => ⟨by show 2 ≤ sizeLine; decide, fun t ht => ?_⟩⟩
    · simp only [h2] at hF
      exact hF trivial _ (kpB (e1.trans e2)) (tabB hT1 e2 hR1)
    · simp only [h2] at hQ
      refine hQ _ _ rfl _ _ ((kpB (e1.trans e2)).new ht) ((tabB hT1 e2 hR1).ext (same_new ht)) (hR2.keep fun o h _ => same_new ht _ _ h) ?_
      unfold CAt
      exact ⟨t, rfl, by rw [upd_same, sq]⟩
end
end K93
end

section
set_option Elab.async false
set_option linter.all false
set_option maxRecDepth 100000
set_option maxHeartbeats 4000000
/-! k93: the shown texts. -/
namespace K93
open PySem PySem.Spec PyProof.Rows L2 He HL
theorem sasg_cont {te : TE} {g : TG} {b : TS} {D : Ends} {σ : L2.St} {H : Hp} (R : VK) (h : ∀ Q' : VK, (∀ v H', R v H' → Q' v H') → te σ H Q') (hQ : ∀ v H', R v H' → g v σ H' (b D)) : tSeq (tAsg te g) b D σ H := h _ hQ
/-! ### what stands in the heap, read -/
theorem at0 {x : V} {l : List V} : atI (x :: l) ((0 : Nat) : Int) = some x := atI_nat rfl
theorem at1 {x y : V} {l : List V} : atI (x :: y :: l) ((1 : Nat) : Int) = some y := atI_nat rfl
theorem at2 {x y z : V} {l : List V} : atI (x :: y :: z :: l) ((2 : Nat) : Int) = some z := atI_nat rfl
theorem at3 {x y z u : V} {l : List V} : atI (x :: y :: z :: u :: l) ((3 : Nat) : Int) = some u := atI_nat rfl
theorem yq_in (b : Bool) : (["yes", "no"].any fun s => decide (M.yq b = M.q s)) = true := by cases b <;> decide
theorem len_j {b : List Nat} {ys : List (List Nat)} {y : List Nat} (h : y ∈ ys) : y.length ≤ (TL.joinL b ys).length := by
  induction ys with
  | nil => simp at h
  | cons x r ih =>
    cases r with
    | nil =>
      have : y = x := by simpa using h
      rw [this]
      simp [TL.joinL]
    | cons z r =>
      have e : TL.joinL b (x :: z :: r) = x ++ (b ++ TL.joinL b (z :: r)) := rfl
      rw [e, List.length_append, List.length_append]
      rcases List.mem_cons.mp h with rfl | h
      · omega
      · have := ih h
        omega
theorem om_j {b : List Nat} {ys : List (List Nat)} {y : List Nat} (h : y ∈ ys) : M.om y ≤ M.om (TL.joinL b ys) := by
  induction ys with
  | nil => simp at h
  | cons x r ih =>
    cases r with
    | nil =>
      have : y = x := by simpa using h
      rw [this]
      simp [TL.joinL]
    | cons z r =>
      have e : TL.joinL b (x :: z :: r) = x ++ (b ++ TL.joinL b (z :: r)) := rfl
      rw [e, M.om_app, M.om_app]
      rcases List.mem_cons.mp h with rfl | h
      · omega
      · have := ih h
        omega
section
variable {w : World} {K : PySem.W.Frag} {mg : Str → Option Value} {base : Heap}
abbrev n_show_condition : List Str := ["condition", "word", "some", "one"]
theorem sc_show_condition : FnScope n_show_condition ["condition"] (defScope s_show_condition) := ⟨rfl, rfl, rfl, by decide +kernel, rfl, by decide +kernel, by decide +kernel⟩
theorem bi_show_condition : ∀ (kV doc pm : Value) (an : Option Addr) (cdv ct : Value) (us : List Value), us.length = 1 → bindArgs (PySem.W.fnOf d_show_condition.name d_show_condition.qual d_show_condition.params d_show_condition.body d_show_condition.scope .none kV doc pm an cdv ct) ⟨us, []⟩ = pure ([("condition" : Str)].zip us) := fun kV doc pm an cdv ct us hu => by
  match us, hu with
  | [u0], _ => rfl
def spShowC (n : Nat) : Sp := fun vs H Q _ => ∃ v c, vs = [v] ∧ CAt H c v ∧ M.om c.sh < n ∧ c.sh.length ≤ 1000000 ∧ ∀ H', Same H H' → Q (.str (S c.sh)) H'
theorem o_show_cond (W : Wl K mg) : ∀ (n L : Nat), (n = 0 → 1 ≤ L) → (0 < n → n + 1 ≤ L) → OkD w K mg base CX0 L d_show_condition ["condition"] (spShowC n) := by
  intro n
  induction n with
  | zero =>
    intro L h0 h1
    obtain ⟨k, rfl⟩ : ∃ k, L = k + 1 := ⟨L - 1, by have := h0 rfl; omega⟩
    exact o_vac W.D_show_condition sc_show_condition bi_show_condition fun vs H Q E ⟨v, c, _, _, z, _⟩ => by omega
  | succ n ih =>
  intro L h0 h1
  obtain ⟨k, rfl⟩ : ∃ k, L = k + 1 := ⟨L - 1, by have := h1 (by omega); omega⟩
  have hk : n + 1 ≤ k := by have := h1 (by omega); omega
  have O_show_condition := ih k (fun _ => by omega) (fun _ => by omega)
  refine HL.ok_of0 W.D_show_condition sc_show_condition (fun vs H Q E ⟨_, _, h, _⟩ => by rw [h]; rfl) bi_show_condition fun cdv A outer s H vs Q E hr h => ?_
  have nd := sc_show_condition.nd
  refine ⟨_, (pss_cons (ps_set (i := 1) nd rfl (Or.inl rfl) (pe_ix ix_tup (pv 0) pe_int (fun _ _ => rfl)))
    (pss_cons (ps_if (pt_cmpR op_in_seq (pv 1) (pe_tup (pa_cons pe_str (pa_cons pe_str pa_nil))) (by rfl)) (pss_one (ps_ret (pv 1))) pss_nil)
    (pss_cons (ps_if (pt_cmpR op_eq (pv 1) pe_str (nomark _)) (pss_one (ps_ret (pe_op op_add_str pe_str (pe_ix ix_tup (pv 0) pe_int (fun _ _ => rfl))))) pss_nil)
    (pss_cons (ps_set (i := 2) nd rfl (Or.inl rfl) (pe_ifExp (pt_cmpR op_eq (pv 1) pe_str (nomark _)) (pe_lst (pa_cons (pe_ix ix_tup (pv 0) pe_int (fun _ _ => rfl)) pa_nil)) (pe_callTy call_list_of (by rfl) W.f_list (by decide +kernel) (pa_cons (pe_ix ix_tup (pv 0) pe_int (fun _ _ => rfl)) pa_nil))))
    (pss_one (ps_ret (pe_op op_add_str (pe_op op_add_str (pe_op op_add_str (pv 1) pe_str) (pe_join pe_str (pe_lc (own := [("one", 3)]) (g := gName 3) (tt := tYes) (by rfl) nd (pi_list (pv 2)) (blkOk_by (own := [("one", 3)]) (N := n_show_condition) (sc := defScope s_show_condition) (by decide +kernel)) (fun _ _ _ _ _ => pg_name (i := 3) nd rfl (Or.inl rfl)) (fun _ _ _ _ _ => pts_nil) (fun _ _ _ _ _ => (pe_cal O_show_condition (hr.mono (by omega)) W.g_show_condition pass0 (pa_cons (pv 3) pa_nil)))))) pe_str))))))), ?_⟩
  obtain ⟨v, c, rfl, hc, hom, hlen, hq⟩ := h
  have step : (∃ b, c = .word b) ∨ (∃ x, c = .ask x) ∨ ∃ a w0 x, v = .ref a ∧ H a = some (.tup [.str (S w0), x]) ∧ (["yes", "no"].any fun s => decide (w0 = M.q s)) = false ∧ w0 ≠ M.q "ask" ∧
      ((w0 = M.q "not" ∧ ∃ c1, CAt H c1 x ∧ c.sh = w0 ++ (M.q "(" ++ (TL.joinL (M.q ", ") (M.shC [c1]) ++ M.q ")"))) ∨ (w0 ≠ M.q "not" ∧ ∃ t us cs, x = .ref t ∧ H t = some (.tup us) ∧ All2 (fun v c => CAt H c v) us cs ∧ c.sh = w0 ++ (M.q "(" ++ (TL.joinL (M.q ", ") (M.shC cs) ++ M.q ")")))) := by
    cases c with
    | word b => exact .inl ⟨b, rfl⟩
    | ask x => exact .inr (.inl ⟨x, rfl⟩)
    | neg c1 =>
      unfold CAt at hc
      obtain ⟨a, u, rfl, ha, hu⟩ := hc
      exact .inr (.inr ⟨a, _, u, rfl, ha, by decide, by decide, .inl ⟨rfl, c1, hu, rfl⟩⟩)
    | many b cs =>
      unfold CAt at hc
      obtain ⟨a, t, us, rfl, ha, ht, hu⟩ := hc
      exact .inr (.inr ⟨a, _, _, rfl, ha, by cases b <;> decide, by cases b <;> decide, .inr ⟨by cases b <;> decide, t, us, cs, rfl, ht, cAtL_iff.mp hu, rfl⟩⟩)
  rcases step with ⟨b, rfl⟩ | ⟨x, rfl⟩ | ⟨a, w0, x, rfl, ha, hyn, hask, hx⟩
  · unfold CAt at hc
    obtain ⟨a, rfl, ha⟩ := hc
    refine ⟨_, rfl, a, _, _, _, rfl, rfl, sqt ha, at0, _, rfl, by show 2 ≤ sizeLine; decide, fun t ht => in_words ["yes", "no"] upd_same ⟨_, rfl, ?_⟩⟩
    rw [yq_in]
    exact iteT ⟨_, rfl, hq _ (same_new ht)⟩
  · unfold CAt at hc
    obtain ⟨a, rfl, ha⟩ := hc
    refine ⟨_, rfl, a, _, _, _, rfl, rfl, sqt ha, at0, _, rfl, by show 2 ≤ sizeLine; decide, fun t ht => in_words ["yes", "no"] upd_same ⟨_, rfl, ?_⟩⟩
    have ha1 := same_new (o := .tup [V.str "yes", V.str "no"]) ht _ _ ha
    rw [show (["yes", "no"].any fun s => decide (M.q "ask" = M.q s)) = false by decide]
    refine iteF ⟨_, rfl, rfl, ?_⟩
    rw [sq "ask", dec_S, decide_eq_true (show M.q "ask" = M.q "ask" from rfl)]
    refine ⟨_, rfl, iteT ⟨_, rfl, a, _, _, _, rfl, rfl, sqt ha1, at1, _, _, rfl, rfl, ?_, ?_⟩⟩
    · rw [ofq, S_len, S_len]
      refine small ?_
      simp only [M.Cond.sh, List.length_append] at hlen
      exact hlen
    · rw [cat_q]
      exact hq _ (same_new ht)
  · refine ⟨_, rfl, a, _, _, _, rfl, rfl, sqt ha, at0, _, rfl, by show 2 ≤ sizeLine; decide, fun t ht => in_words ["yes", "no"] upd_same ⟨_, rfl, ?_⟩⟩
    have s1 : Same H (upd H t (.tup [V.str "yes", V.str "no"])) := same_new ht
    generalize upd H t (.tup [V.str "yes", V.str "no"]) = H1 at s1 ⊢
    have ha1 := s1 _ _ ha
    rw [hyn]
    refine iteF ⟨_, rfl, rfl, ?_⟩
    rw [sq "ask", dec_S, decide_eq_false hask]
    refine ⟨_, rfl, iteF ?_⟩
    delta tNext
    dsimp only
    refine sasg_cont (R := fun v1 H2 => ∃ l us cs, v1 = .ref l ∧ Same H1 H2 ∧ H2 l = some (.lst us) ∧ All2 (fun v c => CAt H2 c v) us cs ∧ c.sh = w0 ++ (M.q "(" ++ (TL.joinL (M.q ", ") (M.shC cs) ++ M.q ")"))) ?_ ?_
    · intro Q' hQ'
      refine ⟨_, rfl, rfl, ?_⟩
      rw [sq "not", dec_S]
      refine ⟨_, rfl, ?_⟩
      rcases hx with ⟨hw, c1, hc1, hsh⟩ | ⟨hw, t1, us, cs, rfl, ht1, hA, hsh⟩
      · rw [decide_eq_true hw]
        refine iteT ⟨_, rfl, a, _, _, _, rfl, rfl, sqt ha1, at1, by show 1 ≤ sizeLine; decide, fun l hl => hQ' _ _ ⟨l, [x], [c1], rfl, same_new hl, upd_same, ⟨(hc1.keep (.of s1)).keep (.of (same_new hl)), trivial⟩, hsh⟩⟩
      · rw [decide_eq_false hw]
        refine iteF ⟨_, rfl, a, _, _, _, rfl, rfl, sqt ha1, at1, t1, us, rfl, .inr (sqt (s1 _ _ ht1)), fun l hl => hQ' _ _ ⟨l, us, cs, rfl, same_new hl, upd_same, hA.imp fun v c z => (z.keep (.of s1)).keep (.of (same_new hl)), hsh⟩⟩
    · rintro v1 H2 ⟨l, us, cs, rfl, s2, hl, hA, hsh⟩
      have hsz : w0.length + (1 + ((TL.joinL (M.q ", ") (M.shC cs)).length + 1)) ≤ 1000000 := by
        rw [hsh] at hlen
        simpa [show (M.q "(").length = 1 from by decide, show (M.q ")").length = 1 from by decide] using hlen
      have hL := hA.length
      have hus : us.length ≤ 1000000 := by
        have := joinL_len (M.q ", ") (M.shC cs)
        rw [M.shC_map, List.length_map, show (M.q ", ").length = 2 from by decide, ← M.shC_map] at this
        omega
      refine ⟨_, rfl, _, _, rfl, rfl, ?_, ⟨_, rfl⟩, _, rfl, l, rfl, ⟨us, sql hl⟩, fun D hD => ?_⟩
      · rw [ofq, S_len, S_len]
        refine small ?_
        show w0.length + 1 ≤ _
        omega
      · refine HL.lcL (xs := us) (out := (M.shC cs).map fun y => V.str (S y)) hD (sql hl) (by rw [M.shC_map, List.length_map, List.length_map, hL]) (small hus) (fun k1 x1 y H3 Q3 hx1 hy e3 _ hq3 => ?_) fun H3 e3 hD3 => ?_
        · obtain ⟨c1, hc1, hAt1⟩ := hA.get hx1
          have hmem : c1 ∈ cs := List.mem_of_getElem? hc1
          have hsm : c1.sh ∈ M.shC cs := by
            rw [M.shC_map]
            exact List.mem_map.mpr ⟨c1, hmem, rfl⟩
          have hy : y = V.str (S c1.sh) := by
            rw [M.shC_map, List.getElem?_map, List.getElem?_map, hc1] at hy
            exact (Option.some.inj hy).symm
          subst hy
          refine ⟨_, rfl, x1, c1, rfl, hAt1.keep (.of e3), ?_, ?_, hq3⟩
          · have h5 := om_j (b := M.q ", ") hsm
            have h6 : M.om (TL.joinL (M.q ", ") (M.shC cs)) + 3 ≤ M.om c.sh := by
              rw [hsh, M.om_app, M.om_app, M.om_app, show M.om (M.q "(") = 3 from by decide]
              omega
            omega
          · have h5 := len_j (b := M.q ", ") hsm
            omega
        · have hj : Txt.join (Str.ofString ", ") ((M.shC cs).map S) = S (TL.joinL (M.q ", ") (M.shC cs)) := by
            rw [ofq]
            exact SX.join_S _ _
          refine ⟨_, D, (M.shC cs).map S, rfl, rfl, .inl (sql (by rw [hD3, List.map_map] <;> rfl)), ?_, ?_⟩
          · have h5 := joinL_len (M.q ", ") (M.shC cs)
            have h6 : (Str.ofString ", ").length = 2 := by rw [ofq, S_len]; rfl
            have h7 : (M.q ", ").length = 2 := by decide
            rw [List.map_map, List.length_map, h6, show (((fun x : Str => x.length) ∘ S) : List Nat → Nat) = fun x => x.length from funext fun x => S_len x]
            rw [h7] at h5
            omega
          · rw [hj]
            refine ⟨_, _, rfl, rfl, ?_, ?_⟩
            · rw [ofq, S_cat, S_len, S_len]
              refine small ?_
              rw [List.length_append]
              show w0.length + 1 + _ ≤ _
              omega
            · refine ⟨_, _, rfl, rfl, ?_, ?_⟩
              · rw [ofq, ofq, S_cat, S_cat, S_len, S_len]
                refine small ?_
                rw [List.length_append, List.length_append]
                show w0.length + 1 + _ + 1 ≤ _
                omega
              · rw [ofq, ofq, S_cat, S_cat, S_cat]
                have := hq H3 ((s1.trans s2).trans e3)
                rw [hsh] at this
                simpa [M.q, List.append_assoc] using this
end
end K93
end

section
set_option Elab.async false
set_option linter.all false
set_option maxRecDepth 100000
set_option maxHeartbeats 4000000
set_option exponentiation.threshold 3000
/-! k93: words. -/
namespace K93
open PySem PySem.Spec PyProof.Rows L2 He HL
theorem iteE {b : Bool} {A B : Prop} (v : Bool) (h : b = v) (h2 : if v = true then A else B) : if b = true then A else B := by
  rw [h]
  exact h2
theorem num_log {k : Nat} (h : k < 1000000000) : (k : Int).natAbs.log2 < 1920 := by
  show k.log2 < 1920
  by_cases h0 : k = 0
  · rw [h0]
    decide
  · rw [Nat.log2_lt h0]
    exact Nat.lt_of_lt_of_le h (Nat.le_trans (show 1000000000 ≤ 2 ^ 30 by decide) (Nat.pow_le_pow_right (by decide) (by decide)))
theorem num_str (k : Nat) : Str.ofString (toString ((k : Nat) : Int)) = S (TL.numL k) := SX.num_S k
theorem oq (s : String) : Str.ofString s = S (M.q s) := ofq s
theorem om_suf {a b s : List Nat} (h : s = a ++ b) : M.om b ≤ M.om s := by
  rw [h, M.om_app]
  omega
section
variable {K : PySem.W.Frag}
theorem ty_tup {H : Hp} {a : Addr} {xs : List V} (h : H a = some (.tup xs)) : TyX K H (.ref a) (.type "tuple") := tyx_tup (sqt h)
end
end K93
end

section
set_option Elab.async false
set_option linter.all false
set_option maxRecDepth 100000
set_option maxHeartbeats 4000000
/-! k93: the law's reader, its smallest defs. -/
namespace K93
open PySem PySem.Spec PyProof.Rows L2 He HL
/-- r stands in t from i on -/
def Ps (t : List Nat) (i : Nat) (r : List Nat) : Prop := i ≤ t.length ∧ t.drop i = r
theorem Ps.takes {t w r r' : List Nat} {i : Nat} (h : Ps t i r) (z : M.takes w r = some r') : Ps t (i + w.length) r' := by
  obtain ⟨h1, h2⟩ := h
  have h3 := M.takes_some.mp z
  refine ⟨?_, drop_takes (h2 ▸ z)⟩
  have := congrArg List.length (h2.trans h3)
  rw [List.length_drop, List.length_append] at this
  omega
theorem Ps.drop {t r : List Nat} {i k : Nat} (h : Ps t i r) (hk : k ≤ r.length) : Ps t (i + k) (r.drop k) := by
  obtain ⟨h1, rfl⟩ := h
  rw [List.length_drop] at hk
  exact ⟨by omega, by rw [List.drop_drop]⟩
theorem Ps.all {t r : List Nat} {i : Nat} (h : Ps t i r) : (i = t.length ↔ r = []) := by
  obtain ⟨h1, rfl⟩ := h
  constructor
  · rintro rfl
    simp
  · intro z
    have := congrArg List.length z
    rw [List.length_drop] at this
    simp at this
    omega
theorem Ps.cut {t r : List Nat} {i k : Nat} (h : Ps t i r) : cutS (S t) (some (i : Int)) (some ((i + k : Nat) : Int)) = S (r.take k) := by
  rw [cut_ij, h.2, Nat.add_sub_cancel_left]
section
variable {w : World} {K : PySem.W.Frag} {mg : Str → Option Value} {base : Heap}
abbrev n_law_name_at : List Str := ["_law_text_here", "_law_at", "_law_end"]
theorem sc_law_name_at : FnScope n_law_name_at ["_law_text_here", "_law_at"] (defScope s_law_name_at) := ⟨rfl, rfl, rfl, by decide +kernel, rfl, by decide +kernel, by decide +kernel⟩
theorem bi_law_name_at : ∀ (kV doc pm : Value) (an : Option Addr) (cdv ct : Value) (us : List Value), us.length = 2 → bindArgs (PySem.W.fnOf d_law_name_at.name d_law_name_at.qual d_law_name_at.params d_law_name_at.body d_law_name_at.scope .none kV doc pm an cdv ct) ⟨us, []⟩ = pure ([("_law_text_here" : Str), ("_law_at" : Str)].zip us) := fun kV doc pm an cdv ct us hu => by
  match us, hu with
  | [u0, u1], _ => rfl
def spLName : Sp := fun vs H Q _ => ∃ t i r, vs = [.str (S t), .int (i : Nat)] ∧ Ps t i r ∧ t.length ≤ 1000000 ∧
  (M.word r = none → Q .non H) ∧ (∀ x r', M.word r = some (x, r') → ∀ u j H', Same H H' → Ps t j r' → H' u = some (.tup [.str (S x), .int (j : Nat)]) → Q (.ref u) H')
theorem o_lname (W : Wl K mg) : OkD w K mg base CX0 1 d_law_name_at ["_law_text_here", "_law_at"] spLName := by
  refine HL.ok_of0 W.D_law_name_at sc_law_name_at (fun vs H Q E ⟨_, _, _, h, _⟩ => by rw [h]; rfl) bi_law_name_at fun cdv A outer s H vs Q E hr h => ?_
  have nd := sc_law_name_at.nd
  refine ⟨_, (pss_cons (ps_set (i := 2) nd rfl (Or.inl rfl) (pv 1))
    (pss_cons (ps_while PassesOwn.never (PW.pt (pw_and (pt_cmpR op_lt (pv 2) (pe_callB call_len_str (by rfl) W.f_len (by decide +kernel) (pa_cons (pv 0) pa_nil)) (nomark _)) (pw_and1 (pt_cmpR op_in_sign (pe_ix ix_str (pv 0) (pv 2) (fun _ _ => rfl)) pe_str (by rfl))))) (pss_one (ps_aug (i := 2) nd rfl (.inl rfl) pe_int ip_add)))
    (pss_one (ps_ret (pe_ifExp (pt_chain op_lt op_lt pe_int (pe_op op_sub (pv 2) (pv 1)) pe_int) (pe_tup (pa_cons (pe_slice sl_str (pv 0) (po_some (pv 1)) (po_some (pv 2))) (pa_cons (pv 2) pa_nil))) pe_non))))), ?_⟩
  obtain ⟨t, i, r, rfl, hP, hs, hF, hQ⟩ := h
  have tl : (S t).length ≤ sizeLine := by rw [S_len]; exact small hs
  refine ⟨_, rfl, ?_⟩
  refine HL.while_zz (fun m σ H1 => ∃ e : Nat, m = t.length - e ∧ H1 = H ∧ σ = [some (.str (S t)), some (.int (i : Nat)), some (.int (e : Nat))] ∧ Sc M.isLet t i e)
    (fun σ H1 => ∃ e : Nat, H1 = H ∧ σ = [some (.str (S t)), some (.int (i : Nat)), some (.int (e : Nat))] ∧ Sc M.isLet t i e ∧ ∀ c, t[e]? = some c → M.isLet c = false) ⟨_, i, rfl, rfl, rfl, Sc.start _ t i⟩ ?_ ?_
  · rintro m σ H1 ⟨e, rfl, rfl, rfl, hsc⟩ R hT hF
    refine ⟨_, rfl, _, rfl, _, rfl, tl, _, _, rfl, rfl, _, rfl, ?_⟩
    refine ite2 (fun h1 => ?_) (fun h1 => ?_)
    · have h1 : e < t.length := by
        have := of_decide_eq_true h1
        rw [S_len] at this
        omega
      refine ⟨_, rfl, _, rfl, _, _, _, rfl, rfl, tl, atI_nat (List.getElem?_eq_getElem h1), _, _, rfl, rfl, _, rfl, ?_⟩
      rw [isLet_in]
      cases hc : M.isLet t[e] with
      | true =>
        refine hT _ fun N F hN hF => ?_
        refine ⟨_, rfl, _, _, rfl, rfl, ?_⟩
        exact hN (t.length - (e + 1)) _ _ (by omega) ⟨e + 1, rfl, rfl, rfl, hsc.next (List.getElem?_eq_getElem h1) hc⟩
      | false => exact hF _ ⟨e, rfl, rfl, hsc, fun c z => by
          rw [List.getElem?_eq_getElem h1] at z
          cases z
          exact hc⟩
    · have h1 : ¬ e < t.length := by
        intro z
        apply h1
        rw [S_len]
        exact decide_eq_true (by omega)
      exact hF _ ⟨e, rfl, rfl, hsc, fun c z => by
        rw [List.getElem?_eq_none (by omega)] at z
        cases z⟩
  · rintro σ H1 ⟨e, rfl, rfl, hsc, hst⟩
    obtain ⟨e1, e2⟩ := hsc.stop hst
    rw [hP.2] at e1 e2
    have hle : (r.takeWhile M.isLet).length ≤ r.length := (List.takeWhile_sublist _).length_le
    have hP2 : Ps t e (r.dropWhile M.isLet) := by
      rw [e2]
      refine ⟨?_, ?_⟩
      · have := congrArg List.length hP.2
        rw [List.length_drop] at this
        have := hP.1
        omega
      · rw [← hP.2, drop_tw]
    have e3 : ((e : Nat) : Int) - ((i : Nat) : Int) = (((r.takeWhile M.isLet).length : Nat) : Int) := by omega
    refine ⟨_, rfl, _, rfl, _, _, rfl, rfl, _, _, rfl, congrArg V.int e3, _, rfl, ite2 (fun h1 => ?_) (fun h1 => ?_)⟩
    · have h1 := of_decide_eq_true h1
      refine ⟨_, _, congrArg V.int e3, rfl, _, rfl, ite2 (fun h2 => ?_) (fun h2 => ?_)⟩
      · have h2 := of_decide_eq_true h2
        have hw : M.word r = some (r.takeWhile M.isLet, r.dropWhile M.isLet) := by
          unfold M.word
          rw [if_pos ⟨by omega, by omega⟩]
        refine ⟨_, rfl, _, rfl, _, rfl, _, rfl, _, rfl, _, rfl, tl, _, rfl, by show 2 ≤ sizeLine; decide, fun u hu => ?_⟩
        rw [cut_ij, hP.2, e1]
        exact hQ _ _ hw u e _ (same_new hu) hP2 upd_same
      · have hw : M.word r = none := by
          unfold M.word
          rw [if_neg (fun z => h2 (decide_eq_true (by omega)))]
        exact hF hw
    · have hw : M.word r = none := by
        unfold M.word
        rw [if_neg (fun z => h1 (decide_eq_true (by omega)))]
      exact ⟨false, rfl, iteF (hF hw)⟩
end
end K93
end

section
set_option Elab.async false
set_option linter.all false
set_option maxRecDepth 100000
set_option maxHeartbeats 4000000
/-! k93: the law's reader of conditions. -/
namespace K93
open PySem PySem.Spec PyProof.Rows L2 He HL
theorem takes_if {w r : List Nat} : (r.take w.length = w ↔ ∃ r', M.takes w r = some r') := by
  unfold M.takes
  constructor
  · intro h
    exact ⟨_, if_pos h⟩
  · rintro ⟨r', h⟩
    split at h
    · assumption
    · cases h
theorem take_yes {w r r' : List Nat} {n : Nat} (hn : w.length = n) (h : M.takes w r = some r') : r.take n = w := by
  subst hn
  exact takes_if.mpr ⟨r', h⟩
theorem take_no {w r : List Nat} {n : Nat} (hn : w.length = n) (h : M.takes w r = none) : ¬ r.take n = w := by
  subst hn
  intro z
  obtain ⟨r', z⟩ := takes_if.mp z
  rw [h] at z
  cases z
theorem Ps.om {t r r' : List Nat} {i j : Nat} (h : Ps t i r) (h' : Ps t j r') (hij : i ≤ j) : M.om r' ≤ M.om r := by
  refine om_suf (a := r.take (j - i)) ?_
  rw [← h.2, ← h'.2]
  conv => rhs; rhs; rw [show j = i + (j - i) by omega, ← List.drop_drop]
  rw [List.take_append_drop]
theorem Ps.le {t r r' a : List Nat} {i j : Nat} (h : Ps t i r) (h' : Ps t j r') (e : r = a ++ r') : i ≤ j := by
  have h1 := congrArg List.length h.2
  have h2 := congrArg List.length h'.2
  have h3 := congrArg List.length e
  rw [List.length_drop] at h1 h2
  rw [List.length_append] at h3
  have := h.1
  have := h'.1
  omega
theorem ref_non {u : Addr} : decide (V.ref u = V.non) = false := decide_eq_false fun z => nomatch z
section
variable {w : World} {K : PySem.W.Frag} {mg : Str → Option Value} {base : Heap}
abbrev n_law_condition_at : List Str := ["_law_text_here", "_law_at", "_law_word", "_law_found", "_law_name"]
theorem sc_law_condition_at : FnScope n_law_condition_at ["_law_text_here", "_law_at"] (defScope s_law_condition_at) := ⟨rfl, rfl, rfl, by decide +kernel, rfl, by decide +kernel, by decide +kernel⟩
theorem bi_law_condition_at : ∀ (kV doc pm : Value) (an : Option Addr) (cdv ct : Value) (us : List Value), us.length = 2 → bindArgs (PySem.W.fnOf d_law_condition_at.name d_law_condition_at.qual d_law_condition_at.params d_law_condition_at.body d_law_condition_at.scope .none kV doc pm an cdv ct) ⟨us, []⟩ = pure ([("_law_text_here" : Str), ("_law_at" : Str)].zip us) := fun kV doc pm an cdv ct us hu => by
  match us, hu with
  | [u0, u1], _ => rfl
abbrev n_law_conditions_at : List Str := ["_law_text_here", "_law_at", "_law_some", "_law_turn", "_law_found"]
theorem sc_law_conditions_at : FnScope n_law_conditions_at ["_law_text_here", "_law_at"] (defScope s_law_conditions_at) := ⟨rfl, rfl, rfl, by decide +kernel, rfl, by decide +kernel, by decide +kernel⟩
theorem bi_law_conditions_at : ∀ (kV doc pm : Value) (an : Option Addr) (cdv ct : Value) (us : List Value), us.length = 2 → bindArgs (PySem.W.fnOf d_law_conditions_at.name d_law_conditions_at.qual d_law_conditions_at.params d_law_conditions_at.body d_law_conditions_at.scope .none kV doc pm an cdv ct) ⟨us, []⟩ = pure ([("_law_text_here" : Str), ("_law_at" : Str)].zip us) := fun kV doc pm an cdv ct us hu => by
  match us, hu with
  | [u0, u1], _ => rfl
def spLC (n : Nat) : Sp := fun vs H Q _ => ∃ t i r, vs = [.str (S t), .int (i : Nat)] ∧ Ps t i r ∧ t.length ≤ 1000000 ∧ M.om r < n ∧
  (M.lcond n t.length r = none → ∀ H', Same H H' → Q .non H') ∧ (∀ c r', M.lcond n t.length r = some (c, r') → ∀ u v j H', Same H H' → i ≤ j → Ps t j r' → H' u = some (.tup [v, .int (j : Nat)]) → CAt H' c v → Q (.ref u) H')
def spLCs (n : Nat) : Sp := fun vs H Q _ => ∃ t i r, vs = [.str (S t), .int (i : Nat)] ∧ Ps t i r ∧ t.length ≤ 1000000 ∧ M.om r < n ∧
  (M.lall (M.lcond n t.length) (M.q ")") (M.q ", ") t.length r = none → ∀ H', Same H H' → Q .non H') ∧
  (∀ cs r', M.lall (M.lcond n t.length) (M.q ")") (M.q ", ") t.length r = some (cs, r') → ∀ u l us j H', Same H H' → i ≤ j → Ps t j r' → H' u = some (.tup [.ref l, .int (j : Nat)]) → H' l = some (.lst us) → All2 (fun v c => CAt H' c v) us cs → us.length ≤ 1000000 → Q (.ref u) H')
theorem o_lconds (W : Wl K mg) (n k : Nat) (O__law_condition_at : OkD w K mg base CX0 k d_law_condition_at ["_law_text_here", "_law_at"] (spLC n)) : OkD w K mg base CX0 (k + 1) d_law_conditions_at ["_law_text_here", "_law_at"] (spLCs n) := by
  refine HL.ok_of0 W.D_law_conditions_at sc_law_conditions_at (fun vs H Q E ⟨_, _, _, h, _⟩ => by rw [h]; rfl) bi_law_conditions_at fun cdv A outer s H vs Q E hr h => ?_
  have nd := sc_law_conditions_at.nd
  refine ⟨_, (pss_cons (ps_set (i := 2) nd rfl (Or.inl rfl) (pe_lst pa_nil))
    (pss_cons (ps_if (pt_cmpR op_eq (pe_slice sl_str (pv 0) (po_some (pv 1)) (po_some (pe_op op_add (pv 1) pe_int))) pe_str (nomark _)) (pss_one (ps_ret (pe_tup (pa_cons (pv 2) (pa_cons (pe_op op_add (pv 1) pe_int) pa_nil))))) pss_nil)
    (pss_cons (ps_for PassesOwn.never rfl (pi_range1 (by rfl) W.f_range (pa_cons (pe_callB call_len_str (by rfl) W.f_len (by decide +kernel) (pa_cons (pv 0) pa_nil)) pa_nil)) (pg_name (i := 3) nd rfl (Or.inl rfl)) (pss_cons (ps_set (i := 4) nd rfl (Or.inl rfl) (pe_cal O__law_condition_at (hr.mono (by omega)) W.g__law_condition_at pass0 (pa_cons (pv 0) (pa_cons (pv 1) pa_nil))))
      (pss_cons (ps_if (pt_cmpR op_isN (pv 4) pe_non (nomark _)) (pss_one (ps_ret pe_non)) pss_nil)
      (pss_cons (ps_expr (pe_bm PySem.F.plainAttrs_list PySem.F.slot_list_append PySem.F.type_list_append mt_append (pv 2) (pa_cons (pe_ix ix_tup (pv 4) pe_int (fun _ _ => rfl)) pa_nil)))
      (pss_cons (ps_set (i := 1) nd rfl (Or.inl rfl) (pe_op op_add (pe_ix ix_tup (pv 4) pe_int (fun _ _ => rfl)) pe_int))
      (pss_cons (ps_if (pt_cmpR op_eq (pe_slice sl_str (pv 0) (po_some (pe_op op_sub (pv 1) pe_int)) (po_some (pe_op op_sub (pv 1) pe_int))) pe_str (nomark _)) (pss_one (ps_ret (pe_tup (pa_cons (pv 2) (pa_cons (pe_op op_sub (pv 1) pe_int) pa_nil))))) pss_nil)
      (pss_one (ps_if (pt_cmpR op_ne (pe_slice sl_str (pv 0) (po_some (pe_op op_sub (pv 1) pe_int)) (po_some (pv 1))) pe_str (nomark _)) (pss_one (ps_ret pe_non)) pss_nil))))))))
    (pss_one (ps_ret pe_non))))), ?_⟩
  obtain ⟨t, i, r, rfl, hP, hs, hom, hF, hQ⟩ := h
  have tl : (S t).length ≤ sizeLine := by rw [S_len]; exact small hs
  refine ⟨Nat.zero_le _, fun L hL => ?_⟩
  have sL : Same H (upd H L (.lst [])) := same_new hL
  refine ⟨_, rfl, _, rfl, _, rfl, _, rfl, _, _, rfl, rfl, _, rfl, _, rfl, tl, ?_⟩
  rw [show ((i : Nat) : Int) + 1 = ((i + 1 : Nat) : Int) from rfl, hP.cut, sq ")"]
  refine ⟨rfl, _, rfl, ?_⟩
  rw [dec_S]
  cases h1 : M.takes (M.q ")") r with
  | some r1 =>
    rw [decide_eq_true (take_yes (by decide) h1)]
    refine iteT ⟨_, rfl, _, rfl, _, _, rfl, rfl, by show 2 ≤ sizeLine; decide, fun u hu => ?_⟩
    refine hQ [] r1 (by unfold M.lall; rw [h1]) u L [] (i + 1) _ (sL.trans (same_new hu)) (by omega) (hP.takes h1) (by rw [upd_same] <;> rfl) (by rw [upd_ne (ne_of_none upd_same hu), upd_same]) trivial (by simp)
  | none =>
    rw [decide_eq_false (take_no (by decide) h1)]
    have hla : M.lall (M.lcond n t.length) (M.q ")") (M.q ", ") t.length r = M.lsev (M.lcond n t.length) (M.q ")") (M.q ", ") t.length [] r := by unfold M.lall; rw [h1]
    rw [hla] at hF hQ
    generalize hTG : M.lsev (M.lcond n t.length) (M.q ")") (M.q ", ") t.length [] r = TG at hF hQ
    have b62 : (((S t).length : Nat) : Int) < 2 ^ 62 := by
      rw [S_len]
      have : (t.length : Int) ≤ 1000000 := by omega
      exact Int.lt_of_le_of_lt this (by decide)
    have b0 : -(2 ^ 62) ≤ (((S t).length : Nat) : Int) := Int.le_trans (by decide) (Int.natCast_nonneg _)
    have em : (((S t).length : Nat) : Int).toNat = t.length := by rw [S_len]; rfl
    refine iteF ⟨_, rfl, _, rfl, tl, _, rfl, b0, b62, ?_⟩
    rw [em]
    refine for_range (lo := 0) (n := t.length) (fun k1 σ H1 => ∃ (acc : List M.Cond) (us : List V) (j : Nat) (r' : List Nat) (x3 x4 : Option V), σ = [some (.str (S t)), some (.int (j : Nat)), some (.ref L), x3, x4] ∧ Same H H1 ∧ H1 L = some (.lst us) ∧ All2 (fun v c => CAt H1 c v) us acc ∧
      Ps t j r' ∧ M.om r' < n ∧ us.length ≤ k1 ∧ M.lsev (M.lcond n t.length) (M.q ")") (M.q ", ") (t.length - k1) acc r' = TG ∧ i ≤ j)
      ⟨[], [], i, r, _, _, rfl, sL, upd_same, trivial, hP, hom, by simp, hTG, Nat.le_refl _⟩ ?_ ?_
    · rintro k1 σ H1 hk1 ⟨acc, us, j, r', x3, x4, rfl, e1, hl, hA, hP1, hom1, hus, hse, hij⟩
      obtain ⟨m', hm'⟩ : ∃ m', t.length - k1 = m' + 1 := ⟨t.length - k1 - 1, by omega⟩
      have hm2 : t.length - (k1 + 1) = m' := by omega
      rw [hm'] at hse
      unfold M.lsev at hse
      refine ⟨_, rfl, _, rfl, t, j, r', rfl, hP1, hs, hom1, fun h2 H2 e2 => ?_, fun c r2 h2 u v j2 H2 e2 hj2 hP2 hu hv => ?_⟩
      · simp only [h2] at hse
        exact ⟨_, rfl, rfl, _, rfl, iteE true rfl (iteT (hF hse.symm _ (e1.trans e2)))⟩
      · simp only [h2] at hse
        refine ⟨_, rfl, rfl, _, rfl, iteE false ref_non (iteF ?_)⟩
        have hl2 := e2 _ _ hl
        refine ⟨_, rfl, .inl ⟨rfl, _, sql hl2⟩, _, rfl, u, _, _, _, rfl, rfl, sqt hu, at0, L, us, v, rfl, rfl, hl2, Nat.lt_of_le_of_lt (show us.length ≤ 1000000 by omega) (by decide), ?_⟩
        have up : TupK H2 (upd H2 L (.lst (us ++ [v]))) := (TupK.refl H2).mut hl2 (fun xs q => nomatch q)
        have hu3 := up _ _ hu
        have e3 : Same H (upd H2 L (.lst (us ++ [v]))) := HL.Same.mut (e1.trans e2) hL
        have hl3 : upd H2 L (.lst (us ++ [v])) L = some (.lst (us ++ [v])) := upd_same
        have hA3' : All2 (fun v' c => CAt (upd H2 L (.lst (us ++ [v]))) c v') (us ++ [v]) (acc ++ [c]) := by
          have hA2 : All2 (fun v c => CAt H2 c v) (us ++ [v]) (acc ++ [c]) := All2.snoc (R := fun v c => CAt H2 c v) hv (hA.imp fun v c z => z.keep (.of e2))
          exact hA2.imp fun v' c' z => z.keep up
        generalize upd H2 L (.lst (us ++ [v])) = H3 at hu3 e3 hl3 hA3' ⊢
        refine ⟨_, rfl, u, _, _, _, rfl, rfl, sqt hu3, at1, _, _, rfl, rfl, ?_⟩
        have i1 : ((j2 : Nat) : Int) + 2 - 2 = ((j2 : Nat) : Int) := by omega
        have i2 : ((j2 : Nat) : Int) + 2 - 1 = ((j2 + 1 : Nat) : Int) := by omega
        have i3 : ((j2 : Nat) : Int) + 2 = ((j2 + 2 : Nat) : Int) := by omega
        refine ⟨_, rfl, _, rfl, _, _, rfl, rfl, _, congrArg V.int i1, _, rfl, _, _, rfl, rfl, _, congrArg V.int i2, _, rfl, tl, ?_⟩
        rw [hP2.cut]
        refine ⟨rfl, _, rfl, ?_⟩
        rw [dec_S]
        cases h4 : M.takes (M.q ")") r2 with
        | some r4 =>
          simp only [h4] at hse
          rw [decide_eq_true (take_yes (by decide) h4)]
          refine iteT ⟨_, rfl, _, rfl, _, _, rfl, rfl, by show 2 ≤ sizeLine; decide, fun u2 hu2 => ?_⟩
          have hn2 := ne_of_none hl3 hu2
          refine hQ (acc ++ [c]) r4 hse.symm u2 L (us ++ [v]) (j2 + 1) _ (e3.trans (same_new hu2)) (by omega) (hP2.takes h4) ?_ (by rw [upd_ne hn2]; exact hl3) (hA3'.imp fun v c z => z.keep (.of (same_new hu2))) (by rw [List.length_append]; simp; omega)
          rw [upd_same]
          show some (HO.tup [V.ref L, V.int _]) = _
          rw [i2]
        | none =>
          simp only [h4] at hse
          rw [decide_eq_false (take_no (by decide) h4)]
          refine iteF ⟨_, rfl, _, rfl, _, _, rfl, rfl, _, congrArg V.int i1, _, rfl, _, congrArg V.int i3, _, rfl, tl, ?_⟩
          rw [hP2.cut, sq ", "]
          refine ⟨rfl, _, rfl, ?_⟩
          rw [dec_S]
          cases h5 : M.takes (M.q ", ") r2 with
          | some r5 =>
            simp only [h5] at hse
            rw [decide_eq_true (take_yes (by decide) h5)]
            have o5 : M.om r5 ≤ M.om r' := by
              have z1 : M.om r5 ≤ M.om r2 := om_suf (M.takes_some.mp h5)
              have z2 : M.om r2 ≤ M.om r' := hP1.om hP2 hj2
              omega
            refine iteF ⟨acc ++ [c], us ++ [v], j2 + 2, r5, _, _, by rw [← i3] <;> rfl, e3, hl3, hA3', hP2.takes h5, by omega, by rw [List.length_append]; simp; omega, ?_⟩
            rw [hm2]
            exact ⟨hse, by omega⟩
          | none =>
            simp only [h5] at hse
            rw [decide_eq_false (take_no (by decide) h5)]
            exact iteT (hF hse.symm _ e3)
    · rintro σ H1 ⟨acc, us, j, r', x3, x4, rfl, e1, hl, hA, hP1, hom1, hus, hse, hij⟩
      rw [Nat.sub_self] at hse
      exact hF hse.symm _ e1
theorem o_lcond (W : Wl K mg) : ∀ (n L : Nat), (n = 0 → 1 ≤ L) → (0 < n → n + 3 ≤ L) → OkD w K mg base CX0 L d_law_condition_at ["_law_text_here", "_law_at"] (spLC n) := by
  intro n
  induction n using Nat.strongRecOn with
  | _ n ih =>
  intro L h0 h1
  by_cases hn : n = 0
  · obtain ⟨k, rfl⟩ : ∃ k, L = k + 1 := ⟨L - 1, by have := h0 hn; omega⟩
    exact o_vac W.D_law_condition_at sc_law_condition_at bi_law_condition_at fun vs H Q E ⟨t, i, r, _, _, _, z, _⟩ => by omega
  obtain ⟨k, rfl⟩ : ∃ k, L = k + 2 + 1 := ⟨L - 3, by have := h1 (by omega); omega⟩
  have hk : n ≤ k := by have := h1 (by omega); omega
  have O__law_conditions_at := o_lconds (w := w) (base := base) W (n - 3) (k + 1) (ih (n - 3) (by omega) (k + 1) (fun _ => by omega) (fun z => by omega))
  have O__law_name_at := o_lname (w := w) (base := base) W
  refine HL.ok_of0 W.D_law_condition_at sc_law_condition_at (fun vs H Q E ⟨_, _, _, h, _⟩ => by rw [h]; rfl) bi_law_condition_at fun cdv A outer s H vs Q E hr h => ?_
  have nd := sc_law_condition_at.nd
  refine ⟨_, (pss_cons (ps_set (i := 2) nd rfl (Or.inl rfl) (pe_slice sl_str (pv 0) (po_some (pv 1)) (po_some (pe_op op_add (pv 1) pe_int))))
    (pss_cons (ps_if (pt_cmpR op_in_seq (pv 2) (pe_tup (pa_cons pe_str (pa_cons pe_str (pa_cons pe_str pa_nil)))) (by rfl)) (pss_cons (ps_set (i := 3) nd rfl (Or.inl rfl) (pe_cal O__law_conditions_at (hr.mono (by omega)) W.g__law_conditions_at pass0 (pa_cons (pv 0) (pa_cons (pe_op op_add (pv 1) pe_int) pa_nil))))
      (pss_cons (ps_if (PW.pt (pw_or (pt_cmpR op_isN (pv 3) pe_non (nomark _)) (pw_or1 (PW.pt (pw_and (pt_cmpR op_eq (pv 2) pe_str (nomark _)) (pw_and1 (pt_cmpR op_ne (pe_callB call_len_seq (by rfl) W.f_len (by decide +kernel) (pa_cons (pe_ix ix_tup (pv 3) pe_int (fun _ _ => rfl)) pa_nil)) pe_int (nomark _)))))))) (pss_one (ps_ret pe_non)) pss_nil)
      (pss_one (ps_ret (pe_tup (pa_cons (pe_tup (pa_cons (pe_slice sl_str (pv 2) po_none (po_some pe_int)) (pa_cons (pe_ifExp (pt_cmpR op_eq (pv 2) pe_str (nomark _)) (pe_ix ix_list (pe_ix ix_tup (pv 3) pe_int (fun _ _ => rfl)) pe_int (fun _ _ => rfl)) (pe_callTy call_tuple_of (by rfl) W.f_tuple (by decide +kernel) (pa_cons (pe_ix ix_tup (pv 3) pe_int (fun _ _ => rfl)) pa_nil))) pa_nil))) (pa_cons (pe_ix ix_tup (pv 3) pe_int (fun _ _ => rfl)) pa_nil))))))) pss_nil)
    (pss_cons (ps_if (pt_cmpR op_eq (pe_slice sl_str (pv 2) po_none (po_some pe_int)) pe_str (nomark _)) (pss_cons (ps_set (i := 4) nd rfl (Or.inl rfl) (pe_cal O__law_name_at (hr.mono (by omega)) W.g__law_name_at pass0 (pa_cons (pv 0) (pa_cons (pe_op op_add (pv 1) pe_int) pa_nil))))
      (pss_one (ps_ret (pe_ifExp (pt_cmpR op_isN (pv 4) pe_non (nomark _)) pe_non (pe_tup (pa_cons (pe_tup (pa_cons pe_str (pa_cons (pe_ix ix_tup (pv 4) pe_int (fun _ _ => rfl)) pa_nil))) (pa_cons (pe_ix ix_tup (pv 4) pe_int (fun _ _ => rfl)) pa_nil))))))) pss_nil)
    (pss_cons (ps_if (pt_cmpR op_eq (pe_slice sl_str (pv 2) po_none (po_some pe_int)) pe_str (nomark _)) (pss_one (ps_ret (pe_tup (pa_cons (pe_tup (pa_cons pe_str pa_nil)) (pa_cons (pe_op op_add (pv 1) pe_int) pa_nil))))) pss_nil)
    (pss_one (ps_ret (pe_ifExp (pt_cmpR op_eq (pe_slice sl_str (pv 2) po_none (po_some pe_int)) pe_str (nomark _)) (pe_tup (pa_cons (pe_tup (pa_cons pe_str pa_nil)) (pa_cons (pe_op op_add (pv 1) pe_int) pa_nil))) pe_non))))))), ?_⟩
  obtain ⟨t, i, r, rfl, hP, hs, hom, hF, hQ⟩ := h
  rw [M.lcond, dif_neg hn] at hF
  have hQ := fun c r' => hQ c r'
  rw [M.lcond, dif_neg hn] at hQ
  have tl : (S t).length ≤ sizeLine := by rw [S_len]; exact small hs
  have wl : (S (r.take 4)).length ≤ sizeLine := by rw [S_len]; exact small (by rw [List.length_take]; omega)
  refine ⟨_, rfl, _, rfl, _, rfl, _, rfl, _, _, rfl, rfl, _, rfl, _, rfl, tl, ?_⟩
  rw [show ((i : Nat) : Int) + 4 = ((i + 4 : Nat) : Int) from rfl, hP.cut]
  refine ⟨_, rfl, by show 3 ≤ sizeLine; decide, fun t1 ht1 => in_words ["not(", "all(", "any("] upd_same ⟨_, rfl, ?_⟩⟩
  simp only [List.any_cons, List.any_nil, Bool.or_false]
  have s1 : Same H (upd H t1 (.tup [V.str "not(", V.str "all(", V.str "any("])) := same_new ht1
  generalize upd H t1 (.tup [V.str "not(", V.str "all(", V.str "any("]) = H1 at s1 ⊢
  have c1 : cutS (S (r.take 4)) none (some (1 : Int)) = S (r.take 1) := by
    rw [show (1 : Int) = ((1 : Nat) : Int) from rfl, cut_j, List.take_take]
    rfl
  have c2 : cutS (S (r.take 4)) none (some (2 : Int)) = S (r.take 2) := by
    rw [show (2 : Int) = ((2 : Nat) : Int) from rfl, cut_j, List.take_take]
    rfl
  have c3 : cutS (S (r.take 4)) none (some (3 : Int)) = S (r.take 3) := by
    rw [show (3 : Int) = ((3 : Nat) : Int) from rfl, cut_j, List.take_take]
    rfl
  by_cases hw : r.take 4 = M.q "not(" ∨ r.take 4 = M.q "all(" ∨ r.take 4 = M.q "any("
  · simp only [if_pos hw] at hF hQ
    have hlen : 4 ≤ r.length := by
      have : (r.take 4).length = 4 := by rcases hw with z | z | z <;> rw [z] <;> decide
      rw [List.length_take] at this
      omega
    have ho : M.om (r.drop 4) + 3 ≤ M.om r := by
      have z1 : M.om (r.take 4) = 3 := by rcases hw with z | z | z <;> rw [z] <;> decide
      have z2 := M.om_app (r.take 4) (r.drop 4)
      rw [List.take_append_drop] at z2
      omega
    refine iteE true (by simpa using hw) (iteT ⟨_, rfl, _, rfl, _, _, rfl, rfl, t, i + 4, r.drop 4, rfl, hP.drop hlen, hs, by omega, fun h2 H2 e2 => ?_, fun cs r2 h2 u l us j H2 e2 hj hP2 hu hl hA hul => ?_⟩)
    · simp only [h2] at hF
      exact ⟨_, rfl, rfl, _, rfl, iteE true rfl (iteT (hF trivial _ (s1.trans e2)))⟩
    · simp only [h2] at hF hQ
      have e12 := s1.trans e2
      have hL := hA.length
      refine ⟨_, rfl, rfl, _, rfl, iteE false ref_non (iteF ⟨_, rfl, rfl, ?_⟩)⟩
      rw [sq "not(", dec_S]
      refine ⟨_, rfl, ?_⟩
      have ixn : ∀ x : V, atI [V.ref l, V.int (j : Nat)] ((0 : Nat) : Int) = some (V.ref l) := fun _ => at0
      by_cases hnot : r.take 4 = M.q "not("
      · simp only [if_pos hnot] at hF hQ
        rw [decide_eq_true hnot]
        have cw : r.take 3 = M.q "not" := by
          have := congrArg (fun l => l.take 3) hnot
          rw [List.take_take] at this
          exact this
        refine iteT ⟨_, rfl, u, _, _, _, rfl, rfl, sqt hu, at0, l, us, rfl, .inl (sql hl), rfl, ?_⟩
        refine ⟨_, rfl, ?_⟩
        by_cases h1l : cs.length = 1
        · obtain ⟨c, rfl⟩ : ∃ c, cs = [c] := List.length_eq_one_iff.mp h1l
          obtain ⟨v, rfl⟩ : ∃ v, us = [v] := List.length_eq_one_iff.mp (by omega)
          refine iteE false rfl (iteF ⟨_, rfl, _, rfl, _, rfl, wl, ?_⟩)
          rw [c3, cw]
          refine ⟨_, rfl, rfl, ?_⟩
          rw [dec_S, decide_eq_true hnot]
          refine ⟨_, rfl, iteT ⟨_, rfl, u, _, _, _, rfl, rfl, sqt hu, at0, l, _, _, v, rfl, rfl, sql hl, (show atI [v] ((0 : Nat) : Int) = some v from at0), by show 2 ≤ sizeLine; decide, fun a ha => ?_⟩⟩
          have sa := same_new (o := .tup [V.str (S (M.q "not")), v]) ha
          refine ⟨_, rfl, u, _, _, _, rfl, rfl, sqt (sa _ _ hu), at1, by show 2 ≤ sizeLine; decide, fun b hb => ?_⟩
          refine hQ _ _ rfl b (.ref a) j _ ((e12.trans sa).trans (same_new hb)) (by omega) hP2 upd_same ?_
          unfold CAt
          exact ⟨a, v, rfl, same_new hb _ _ upd_same, (hA.1.keep (.of sa)).keep (.of (same_new hb))⟩
        · refine iteE true (by
            have : us.length ≠ 1 := by omega
            rw [decide_eq_false (fun z => this (by injection z with z; omega))]
            rfl) (iteT ?_)
          refine hF ?_ _ e12
          match cs, h1l with
          | [], _ => rfl
          | [c], z => exact absurd rfl z
          | _ :: _ :: _, _ => rfl
      · simp only [if_neg hnot] at hF hQ
        rw [decide_eq_false hnot]
        refine iteF ⟨_, rfl, _, rfl, _, rfl, wl, ?_⟩
        rw [c3]
        refine ⟨_, rfl, rfl, ?_⟩
        rw [dec_S, decide_eq_false hnot]
        refine ⟨_, rfl, iteF ⟨_, rfl, u, _, _, _, rfl, rfl, sqt hu, at0, l, us, rfl, .inl ⟨sql hl, fun t3 ht3 => ⟨by show 2 ≤ sizeLine; decide, fun a ha => ?_⟩⟩⟩⟩
        have s3 := same_new (o := .tup us) ht3
        have sa := same_new (o := .tup [V.str (S (r.take 3)), V.ref t3]) ha
        refine ⟨_, rfl, u, _, _, _, rfl, rfl, sqt (sa _ _ (s3 _ _ hu)), at1, by show 2 ≤ sizeLine; decide, fun b hb => ?_⟩
        refine hQ _ _ rfl b (.ref a) j _ (((e12.trans s3).trans sa).trans (same_new hb)) (by omega) hP2 upd_same ?_
        have cw : r.take 3 = M.nq (decide (r.take 4 = M.q "all(")) := by
          rcases hw with z | z | z
          · exact absurd z hnot
          · have := congrArg (fun l => l.take 3) z
            rw [List.take_take] at this
            rw [decide_eq_true z]
            exact this
          · have := congrArg (fun l => l.take 3) z
            rw [List.take_take] at this
            rw [decide_eq_false (by rw [z]; decide)]
            exact this
        unfold CAt
        refine ⟨a, t3, us, rfl, ?_, same_new hb _ _ (sa _ _ upd_same), CAtL.keep (.of (same_new hb)) _ _ (CAtL.keep (.of sa) _ _ (CAtL.keep (.of s3) _ _ (cAtL_iff.mpr hA)))⟩
        rw [← cw]
        exact same_new hb _ _ upd_same
  · simp only [if_neg hw] at hF hQ
    refine iteE false (by simpa [and_assoc] using hw) (iteF ⟨_, rfl, _, rfl, _, rfl, wl, ?_⟩)
    rw [c1, sq "?"]
    refine ⟨rfl, _, rfl, ?_⟩
    rw [dec_S]
    by_cases h2 : r.take 1 = M.q "?"
    · simp only [if_pos h2] at hF hQ
      rw [decide_eq_true h2]
      have hlen : 1 ≤ r.length := by
        have : (r.take 1).length = 1 := by rw [h2]; decide
        rw [List.length_take] at this
        omega
      have hPd := hP.drop hlen
      refine iteT ⟨_, rfl, _, rfl, _, _, rfl, rfl, t, i + 1, r.drop 1, rfl, hPd, hs, fun h3 => ?_, fun x r3 h3 u j H3 e3 hP3 hu => ?_⟩
      · simp only [h3] at hF
        exact ⟨_, rfl, rfl, _, rfl, iteE true rfl (iteT (hF trivial _ s1))⟩
      · simp only [h3] at hQ
        have hj := hPd.le hP3 (M.word_some h3).1
        refine ⟨_, rfl, rfl, _, rfl, iteE false ref_non (iteF ⟨_, rfl, u, _, _, _, rfl, rfl, sqt hu, at0, by show 2 ≤ sizeLine; decide, fun a ha => ?_⟩)⟩
        have sa := same_new (o := .tup [V.str "ask", V.str (S x)]) ha
        refine ⟨_, rfl, u, _, _, _, rfl, rfl, sqt (sa _ _ hu), at1, by show 2 ≤ sizeLine; decide, fun b hb => ?_⟩
        refine hQ _ _ rfl b (.ref a) j _ (((s1.trans e3).trans sa).trans (same_new hb)) (by omega) hP3 upd_same ?_
        unfold CAt
        refine ⟨a, rfl, ?_⟩
        rw [← sq "ask"]
        exact same_new hb _ _ upd_same
    · simp only [if_neg h2] at hF hQ
      rw [decide_eq_false h2]
      refine iteF ⟨_, rfl, _, rfl, _, rfl, wl, ?_⟩
      rw [c3, sq "yes"]
      refine ⟨rfl, _, rfl, ?_⟩
      rw [dec_S]
      by_cases h3 : r.take 3 = M.q "yes"
      · simp only [if_pos h3] at hQ
        rw [decide_eq_true h3]
        have hlen : 3 ≤ r.length := by
          have : (r.take 3).length = 3 := by rw [h3]; decide
          rw [List.length_take] at this
          omega
        refine iteT ⟨by show 1 ≤ sizeLine; decide, fun a ha => ⟨_, rfl, _, _, rfl, rfl, by show 2 ≤ sizeLine; decide, fun b hb => ?_⟩⟩
        refine hQ _ _ rfl b (.ref a) (i + 3) _ ((s1.trans (same_new ha)).trans (same_new hb)) (by omega) (hP.drop hlen) upd_same ?_
        unfold CAt
        exact ⟨a, rfl, same_new hb _ _ upd_same⟩
      · simp only [if_neg h3] at hF hQ
        rw [decide_eq_false h3]
        refine iteF ⟨_, rfl, _, rfl, _, rfl, wl, ?_⟩
        rw [c2, sq "no"]
        refine ⟨rfl, _, rfl, ?_⟩
        rw [dec_S]
        by_cases h4 : r.take 2 = M.q "no"
        · simp only [if_pos h4] at hQ
          rw [decide_eq_true h4]
          have hlen : 2 ≤ r.length := by
            have : (r.take 2).length = 2 := by rw [h4]; decide
            rw [List.length_take] at this
            omega
          refine iteT ⟨by show 1 ≤ sizeLine; decide, fun a ha => ⟨_, rfl, _, _, rfl, rfl, by show 2 ≤ sizeLine; decide, fun b hb => ?_⟩⟩
          refine hQ _ _ rfl b (.ref a) (i + 2) _ ((s1.trans (same_new ha)).trans (same_new hb)) (by omega) (hP.drop hlen) upd_same ?_
          unfold CAt
          exact ⟨a, rfl, same_new hb _ _ upd_same⟩
        · simp only [if_neg h4] at hF
          rw [decide_eq_false h4]
          exact iteF (hF trivial _ s1)
end
end K93
end

section
set_option Elab.async false
set_option linter.all false
set_option maxRecDepth 100000
set_option maxHeartbeats 4000000
/-! k93: the bag. -/
namespace K93
open PySem PySem.Spec PyProof.Rows L2 He HL
section
variable {w : World} {K : PySem.W.Frag} {mg : Str → Option Value} {base : Heap}
/-- the bag of drawn numbers at b -/
def Bag (H : Hp) (b c : Addr) : Prop := ∃ (d m : Int) (k : Nat) (ks : List Int), H b = some (.lst [.int d, .int m, .int (k : Nat), .ref c]) ∧ H c = some (.lst (ks.map V.int)) ∧ b ≠ c ∧ ks.length ≤ 1000000
theorem Bag.keep {H H' : Hp} {b c : Addr} (h : Bag H b c) (e : Same H H') : Bag H' b c := let ⟨d, m, k, ks, h1, h2, h3, h4⟩ := h; ⟨d, m, k, ks, e _ _ h1, e _ _ h2, h3, h4⟩
theorem Bag.put {H : Hp} {b c D : Addr} {o : HO} (h : Bag H b c) (n1 : D ≠ b) (n2 : D ≠ c) : Bag (upd H D o) b c := let ⟨d, m, k, ks, h1, h2, h3, h4⟩ := h; ⟨d, m, k, ks, by rw [upd_ne n1.symm]; exact h1, by rw [upd_ne n2.symm]; exact h2, h3, h4⟩
theorem Bag.ne {H : Hp} {b c D : Addr} (h : Bag H b c) (n : H D = none) : D ≠ b ∧ D ≠ c := let ⟨d, m, k, ks, h1, h2, h3, h4⟩ := h; ⟨(ne_of_none h1 n).symm, (ne_of_none h2 n).symm⟩
theorem Bag.lst {H : Hp} {b c : Addr} (h : Bag H b c) : ∃ xs, H b = some (.lst xs) := let ⟨_, _, _, _, h1, _⟩ := h; ⟨_, h1⟩
theorem Bag.tup {H H' : Hp} {b c : Addr} (h : Bag H b c) (e : SameB b H H') : TupK H H' := let ⟨_, hx⟩ := h.lst; e.tup hx (fun xs q => nomatch q)
abbrev n_law_bag : List Str := ["_law_script", "_law_cell"]
theorem sc_law_bag : FnScope n_law_bag ["_law_script"] (defScope s_law_bag) := ⟨rfl, rfl, rfl, by decide +kernel, rfl, by decide +kernel, by decide +kernel⟩
theorem bi_law_bag : ∀ (kV doc pm : Value) (an : Option Addr) (cdv ct : Value) (us : List Value), us.length = 1 → bindArgs (PySem.W.fnOf d_law_bag.name d_law_bag.qual d_law_bag.params d_law_bag.body d_law_bag.scope .none kV doc pm an cdv ct) ⟨us, []⟩ = pure ([("_law_script" : Str)].zip us) := fun kV doc pm an cdv ct us hu => by
  match us, hu with
  | [u0], _ => rfl
def spBag (K : PySem.W.Frag) : Sp := fun vs H Q _ => ∃ (a : Addr) (ns : List Int), vs = [.ref a] ∧ SqL K H a (ns.map V.int) ∧ ns.length ≤ 63 ∧ ∀ b c H', Same H H' → H b = none → Bag H' b c → Q (.ref b) H'
theorem o_bag (W : Wl K mg) : OkD w K mg base CX0 1 d_law_bag ["_law_script"] (spBag K) := by
  refine HL.ok_of0 W.D_law_bag sc_law_bag (fun vs H Q E ⟨_, _, h, _⟩ => by rw [h]; rfl) bi_law_bag fun cdv A outer s H vs Q E hr h => ?_
  have nd := sc_law_bag.nd
  refine ⟨_, (pss_one (ps_ret (pe_lst (pa_cons pe_int (pa_cons pe_int (pa_cons pe_int (pa_cons (pe_lc (own := [("_law_cell", 1)]) (g := gName 1) (tt := tYes) (by rfl) nd (pi_list (pe_slice sl_list (pv 0) po_none (po_some pe_int))) (blkOk_by (own := [("_law_cell", 1)]) (N := n_law_bag) (sc := defScope s_law_bag) (by decide +kernel)) (fun _ _ _ _ _ => pg_name (i := 1) nd rfl (Or.inl rfl)) (fun _ _ _ _ _ => pts_nil) (fun _ _ _ _ _ => (pe_callB call_abs (by rfl) W.f_abs (by decide +kernel) (pa_cons (pv 1) pa_nil)))) pa_nil))))))), ?_⟩
  obtain ⟨a, ns, rfl, ha, hn, hq⟩ := h
  refine ⟨_, rfl, _, rfl, a, _, rfl, ha, fun p hp => ?_⟩
  have s1 : Same H (upd H p (.lst (cutV (ns.map V.int) none (some 63)))) := same_new hp
  have hp1 : upd H p (.lst (cutV (ns.map V.int) none (some 63))) p = some (.lst (cutV (ns.map V.int) none (some 63))) := upd_same
  generalize upd H p (.lst (cutV (ns.map V.int) none (some 63))) = H1 at s1 hp1 ⊢
  have hcut : cutV (ns.map V.int) none (some 63) = ns.map V.int := by
    unfold cutV
    rw [show (63 : Int) = ((63 : Nat) : Int) from rfl, HT.sIx_nat, HT.sIx_none, List.length_map, Nat.sub_zero, List.drop_zero, List.take_of_length_le (by rw [List.length_map]; omega)]
  rw [hcut] at hp1
  refine ⟨p, rfl, ⟨_, sql hp1⟩, fun D hD => ?_⟩
  refine HL.lcL (xs := ns.map V.int) (out := ns.map fun z => V.int (if z < 0 then -z else z)) hD (sql hp1) (by rw [List.length_map, List.length_map]) (by rw [List.length_map]; exact small (by omega)) (fun k1 x1 y1 H3 Q3 hx1 hy1 e3 _ hq3 => ?_) fun H2 e2 hD2 => ⟨by show 4 ≤ sizeLine; decide, fun b hb => ?_⟩
  · rw [List.getElem?_map] at hx1 hy1
    cases hz : ns[k1]? with
    | none =>
      rw [hz] at hx1
      cases hx1
    | some z =>
      rw [hz] at hx1 hy1
      cases hx1
      cases hy1
      exact ⟨_, rfl, z, rfl, hq3 _ (Same.refl _)⟩
  · have e12 := s1.trans e2
    have nb := ne_of_none hD2 hb
    refine hq b D _ (e12.trans (same_new hb)) (e12.free hb) ⟨0, 1234567891, 0, ns.map fun z => if z < 0 then -z else z, upd_same, ?_, nb.symm, by rw [List.length_map]; omega⟩
    rw [upd_ne nb, hD2, List.map_map]
    rfl
abbrev n_law_take : List Str := ["_law_bag_here", "_law_many", "_law_cell", "_law_mixed_here", "_law_value", "_law_begin", "_law_second"]
theorem sc_law_take : FnScope n_law_take ["_law_bag_here", "_law_many"] (defScope s_law_take) := ⟨rfl, rfl, rfl, by decide +kernel, rfl, by decide +kernel, by decide +kernel⟩
theorem bi_law_take : ∀ (kV doc pm : Value) (an : Option Addr) (cdv ct : Value) (us : List Value), us.length = 2 → bindArgs (PySem.W.fnOf d_law_take.name d_law_take.qual d_law_take.params d_law_take.body d_law_take.scope .none kV doc pm an cdv ct) ⟨us, []⟩ = pure ([("_law_bag_here" : Str), ("_law_many" : Str)].zip us) := fun kV doc pm an cdv ct us hu => by
  match us, hu with
  | [u0, u1], _ => rfl
def spTake : Sp := fun vs H Q _ => ∃ b c many, vs = [.ref b, .int (many : Nat)] ∧ 0 < many ∧ many < 1000000000 ∧ Bag H b c ∧ ∀ n H', n < many → SameB b H H' → Bag H' b c → Q (.int (n : Nat)) H'
theorem fm_nat {i : Int} {n : Nat} (h : 0 < n) : ∃ k : Nat, k < n ∧ i.fmod (n : Int) = (k : Int) := by
  refine ⟨(i.fmod (n : Int)).toNat, ?_, ?_⟩
  · rw [Int.fmod_eq_emod_of_nonneg i (by omega)]
    have h1 := Int.emod_lt_of_pos i (show (0 : Int) < n by omega)
    have h2 := Int.emod_nonneg i (show (n : Int) ≠ 0 by omega)
    omega
  · rw [Int.fmod_eq_emod_of_nonneg i (by omega)]
    have h2 := Int.emod_nonneg i (show (n : Int) ≠ 0 by omega)
    omega
theorem seq_set {v : V} {i : Nat} {b : TS} {D : Ends} {σ : L2.St} {H : Hp} (h : b D (σ.set i (some v)) H) : tSeq (tAsg (tC v) (gName i)) b D σ H := h
theorem o_take (W : Wl K mg) : OkD w K mg base CX0 1 d_law_take ["_law_bag_here", "_law_many"] spTake := by
  refine HL.ok_of0 W.D_law_take sc_law_take (fun vs H Q E ⟨_, _, _, h, _⟩ => by rw [h]; rfl) bi_law_take fun cdv A outer s H vs Q E hr h => ?_
  have nd := sc_law_take.nd
  refine ⟨_, (pss_cons (ps_if (pt_cmpR op_eq (pe_ix ix_list (pv 0) pe_int (fun _ _ => rfl)) pe_int (nomark _)) (pss_cons (ps_set (i := 2) nd rfl (Or.inl rfl) pe_int)
      (pss_cons (ps_if (pt_cmpR op_lt (pe_ix ix_list (pv 0) pe_int (fun _ _ => rfl)) (pe_callB call_len_seq (by rfl) W.f_len (by decide +kernel) (pa_cons (pe_ix ix_list (pv 0) pe_int (fun _ _ => rfl)) pa_nil)) (nomark _)) (pss_one (ps_set (i := 2) nd rfl (Or.inl rfl) (pe_ix ix_list (pe_ix ix_list (pv 0) pe_int (fun _ _ => rfl)) (pe_ix ix_list (pv 0) pe_int (fun _ _ => rfl)) (fun _ _ => rfl)))) pss_nil)
      (pss_cons (XP.ps_augL (pv 0) pe_int pe_int)
      (pss_cons (ps_if (pt_cmpR op_ge (pv 2) pe_int (nomark _)) (pss_one (ps_asg (pv 2) (pg_sub (pv 0) pe_int set_list))) pss_nil)
      (pss_cons (ps_set (i := 3) nd rfl (Or.inl rfl) (pe_op op_add (pe_op op_add (pe_op op_mul (pe_ix ix_list (pv 0) pe_int (fun _ _ => rfl)) pe_int) (pe_op op_modN (pe_callTy call_int1 (by rfl) W.f_int (by decide +kernel) (pa_cons (pv 2) pa_nil)) pe_int)) (pe_op op_mul pe_int (pe_ix ix_list (pv 0) pe_int (fun _ _ => rfl)))))
      (pss_one (ps_asg (pe_op op_modN (pe_callTy call_int1 (by rfl) W.f_int (by decide +kernel) (pa_cons (pv 3) pa_nil)) pe_int) (pg_sub (pv 0) pe_int set_list)))))))) pss_nil)
    (pss_cons (ps_if (pt_cmpR op_gt (pe_ix ix_list (pv 0) pe_int (fun _ _ => rfl)) pe_int (nomark _)) (pss_cons (ps_set (i := 4) nd rfl (Or.inl rfl) (pe_op op_modN (pe_callTy call_int1 (by rfl) W.f_int (by decide +kernel) (pa_cons (pe_ix ix_list (pv 0) pe_int (fun _ _ => rfl)) pa_nil)) (pv 1)))
      (pss_cons (ps_asg (pe_op op_fdivN (pe_ix ix_list (pv 0) pe_int (fun _ _ => rfl)) (pv 1)) (pg_sub (pv 0) pe_int set_list))
      (pss_one (ps_ret (pv 4))))) pss_nil)
    (pss_cons (ps_set (i := 5) nd rfl (Or.inl rfl) (pe_op op_modN (pe_callTy call_int1 (by rfl) W.f_int (by decide +kernel) (pa_cons (pe_op op_mul (pe_op op_add (pe_ix ix_list (pv 0) pe_int (fun _ _ => rfl)) pe_int) pe_int) pa_nil)) pe_int))
    (pss_cons (ps_set (i := 6) nd rfl (Or.inl rfl) (pe_op op_modN (pe_callTy call_int1 (by rfl) W.f_int (by decide +kernel) (pa_cons (pe_op op_mul (pe_op op_modN (pe_callTy call_int1 (by rfl) W.f_int (by decide +kernel) (pa_cons (pe_op op_mul (pv 5) (pv 5)) pa_nil)) pe_int) pe_int) pa_nil)) pe_int))
    (pss_one (ps_ret (pe_op op_modN (pe_callTy call_int1 (by rfl) W.f_int (by decide +kernel) (pa_cons (pe_op op_fdivN (pv 6) pe_int) pa_nil)) (pv 1)))))))), ?_⟩
  obtain ⟨b, c, many, rfl, hm0, hm1, hB, hq⟩ := h
  refine HL.seq_cont (R := fun σ' H' => ∃ x2 x3, σ' = [some (.ref b), some (.int (many : Nat)), x2, x3, none, none, none] ∧ SameB b H H' ∧ Bag H' b c) (fun N hN => ?_) ?_
  · obtain ⟨d, m, k, ks, hb, hc, nbc, hks⟩ := id hB
    refine ⟨_, rfl, b, _, _, _, rfl, rfl, sql hb, at0, rfl, _, rfl, ?_⟩
    by_cases hd : d = 0
    · refine iteE true (decide_eq_true (by rw [hd])) (iteT ?_)
      refine seq_set ?_
      refine HL.seq_cont (R := fun σ' H' => ∃ z : Int, σ' = [some (.ref b), some (.int (many : Nat)), some (.int z), none, none, none, none] ∧ H' = H) (fun N2 hN2 => ?_) ?_
      · refine ⟨_, rfl, b, _, _, _, rfl, rfl, sql hb, at2, _, rfl, b, _, _, _, rfl, rfl, sql hb, at3, c, _, rfl, .inl (sql hc), _, _, rfl, rfl, _, rfl, ite2 (fun h1 => ?_) (fun h1 => ?_)⟩
        · have h1 : k < ks.length := by
            have := of_decide_eq_true h1
            rw [List.length_map] at this
            omega
          have hk : (ks.map V.int)[k]? = some (V.int ks[k]) := by
            rw [List.getElem?_map, List.getElem?_eq_getElem h1]
            rfl
          exact ⟨_, rfl, b, _, _, _, rfl, rfl, sql hb, at3, _, rfl, b, _, _, _, rfl, rfl, sql hb, at2, c, _, _, _, rfl, rfl, sql hc, atI_nat hk, hN2 _ _ ⟨_, rfl, rfl⟩⟩
        · exact hN2 _ _ ⟨0, rfl, rfl⟩
      · rintro σ' H' ⟨z, rfl, rfl⟩
        refine ⟨_, rfl, b, _, _, _, rfl, rfl, sql hb, at2, _, _, rfl, rfl, b, _, _, _, rfl, rfl, hb, rfl, ?_⟩
        have sb : SameB b H' (upd H' b (.lst [.int d, .int m, .int ((k : Nat) + 1), .ref c])) := (SameB.refl b H').upd
        have hb1 : upd H' b (.lst [.int d, .int m, .int ((k : Nat) + 1), .ref c]) b = some (.lst [.int d, .int m, .int ((k + 1 : Nat) : Int), .ref c]) := upd_same
        have hc1 : upd H' b (.lst [.int d, .int m, .int ((k : Nat) + 1), .ref c]) c = some (.lst (ks.map V.int)) := by rw [upd_ne nbc.symm]; exact hc
        dsimp only
        show tSeq (tIfS _ _ _) _ _ _ (upd H' b (.lst [.int d, .int m, .int ((k : Nat) + 1), .ref c]))
        generalize upd H' b (.lst [.int d, .int m, .int ((k : Nat) + 1), .ref c]) = H1 at sb hb1 hc1 ⊢
        refine HL.seq_cont (R := fun σ' H2 => ∃ d2 : Int, σ' = [some (.ref b), some (.int (many : Nat)), some (.int z), none, none, none, none] ∧ SameB b H' H2 ∧ H2 b = some (.lst [.int d2, .int m, .int ((k + 1 : Nat) : Int), .ref c]) ∧ H2 c = some (.lst (ks.map V.int))) (fun N2 hN2 => ?_) ?_
        · refine ⟨_, rfl, _, _, rfl, rfl, _, rfl, ite2 (fun h1 => ?_) (fun h1 => ?_)⟩
          · refine ⟨_, rfl, _, rfl, b, _, _, _, rfl, rfl, hb1, rfl, hN2 _ _ ⟨z, rfl, sb.upd, upd_same, by rw [upd_ne nbc.symm]; exact hc1⟩⟩
          · exact hN2 _ _ ⟨d, rfl, sb, hb1, hc1⟩
        · rintro σ2 H2 ⟨d2, rfl, sb2, hb2, hc2⟩
          refine ⟨_, rfl, b, _, _, _, rfl, rfl, sql hb2, at1, _, _, rfl, rfl, .inr ⟨by decide, by decide⟩, _, rfl, .inl ⟨_, rfl, _, _, rfl, rfl, (by show (2147483647 : Int) ≠ 0; decide), _, _, rfl, rfl, _, rfl, b, _, _, _, rfl, rfl, sql hb2, at2, _, _, rfl, rfl, .inl ⟨by decide, by decide⟩, _, _, rfl, rfl, ?_⟩⟩
          refine ⟨_, rfl, .inl ⟨_, rfl, _, _, rfl, rfl, (by show (2147483647 : Int) ≠ 0; decide), _, rfl, b, _, _, _, rfl, rfl, hb2, rfl, hN _ _ ⟨_, _, rfl, sb2.upd, ?_⟩⟩⟩
          exact ⟨d2, _, k + 1, ks, upd_same, by rw [upd_ne nbc.symm]; exact hc2, nbc, hks⟩
    · refine iteE false (decide_eq_false (fun z => hd (by injection z))) (iteF (hN _ _ ⟨none, none, rfl, SameB.refl b H, hB⟩))
  · rintro σ1 H1 ⟨x2, x3, rfl, s1, hB1⟩
    obtain ⟨d, m, k, ks, hb, hc, nbc, hks⟩ := id hB1
    refine ⟨_, rfl, b, _, _, _, rfl, rfl, sql hb, at0, _, _, rfl, rfl, _, rfl, ite2 (fun h1 => ?_) (fun h1 => ?_)⟩
    · obtain ⟨n, hn, en⟩ := fm_nat (i := d) hm0
      refine ⟨_, rfl, b, _, _, _, rfl, rfl, sql hb, at0, .inl ⟨_, rfl, _, rfl, _, _, rfl, rfl, by show ((many : Nat) : Int) ≠ 0; omega, ?_⟩⟩
      refine ⟨_, rfl, b, _, _, _, rfl, rfl, sql hb, at0, _, rfl, _, _, rfl, rfl, ⟨by show ((many : Nat) : Int) ≠ 0; omega, by show ((many : Nat) : Int).natAbs < _; omega⟩, _, rfl, b, _, _, _, rfl, rfl, hb, rfl, ?_⟩
      refine ⟨_, rfl, ?_⟩
      have := hq n (upd H1 b (.lst [.int (d.fdiv (many : Nat)), .int m, .int (k : Nat), .ref c])) hn s1.upd ⟨_, m, k, ks, upd_same, by rw [upd_ne nbc.symm]; exact hc, nbc, hks⟩
      rw [← en] at this
      exact this
    · obtain ⟨n1, hn1, en1⟩ := fm_nat (i := (m + 1) * 39373) (n := 1000000007) (by decide)
      refine ⟨_, rfl, b, _, _, _, rfl, rfl, sql hb, at1, _, _, rfl, rfl, _, _, rfl, rfl, .inr ⟨by decide, by decide⟩, .inl ⟨_, rfl, _, _, rfl, rfl, (by show (1000000007 : Int) ≠ 0; decide), ?_⟩⟩
      have en1' : V.int (((m + 1) * 39373).fmod 1000000007) = V.int (n1 : Nat) := congrArg V.int en1
      refine ⟨_, rfl, _, rfl, _, _, en1', en1', .inl ⟨by omega, by omega⟩, .inl ⟨_, rfl, _, _, rfl, rfl, (by show (998244353 : Int) ≠ 0; decide), _, _, rfl, rfl, .inr ⟨by decide, by decide⟩, .inl ⟨_, rfl, _, _, rfl, rfl, (by show (998244353 : Int) ≠ 0; decide), ?_⟩⟩⟩
      obtain ⟨n, hn, en⟩ := fm_nat (i := (((((n1 : Nat) : Int) * ((n1 : Nat) : Int)).fmod 998244353 * 30011).fmod 998244353).fdiv 7) hm0
      refine ⟨_, rfl, _, _, rfl, rfl, ⟨by decide, by decide⟩, .inl ⟨_, rfl, _, rfl, _, _, rfl, rfl, by show ((many : Nat) : Int) ≠ 0; omega, ?_⟩⟩
      have := hq n H1 hn s1 hB1
      rw [← en] at this
      exact this
abbrev n_law_one : List Str := ["_law_bag_here", "_law_things"]
theorem sc_law_one : FnScope n_law_one ["_law_bag_here", "_law_things"] (defScope s_law_one) := ⟨rfl, rfl, rfl, by decide +kernel, rfl, by decide +kernel, by decide +kernel⟩
theorem bi_law_one : ∀ (kV doc pm : Value) (an : Option Addr) (cdv ct : Value) (us : List Value), us.length = 2 → bindArgs (PySem.W.fnOf d_law_one.name d_law_one.qual d_law_one.params d_law_one.body d_law_one.scope .none kV doc pm an cdv ct) ⟨us, []⟩ = pure ([("_law_bag_here" : Str), ("_law_things" : Str)].zip us) := fun kV doc pm an cdv ct us hu => by
  match us, hu with
  | [u0, u1], _ => rfl
def spOne (K : PySem.W.Frag) : Sp := fun vs H Q _ => ∃ b c a xs, vs = [.ref b, .ref a] ∧ Bag H b c ∧ 0 < xs.length ∧ xs.length < 1000000 ∧ ((∀ H', SameB b H H' → SqL K H' a xs) ∨ (∀ H', SameB b H H' → SqT K H' a xs)) ∧ ∀ x ∈ xs, ∀ H', SameB b H H' → Bag H' b c → Q x H'
theorem o_one (W : Wl K mg) : OkD w K mg base CX0 2 d_law_one ["_law_bag_here", "_law_things"] (spOne K) := by
  have O__law_take := o_take (w := w) (base := base) W
  refine HL.ok_of0 W.D_law_one sc_law_one (fun vs H Q E ⟨_, _, _, _, h, _⟩ => by rw [h]; rfl) bi_law_one fun cdv A outer s H vs Q E hr h => ?_
  have nd := sc_law_one.nd
  refine ⟨_, (pss_one (ps_ret (pe_ix ix_seq (pv 1) (pe_cal O__law_take (hr.mono (by omega)) W.g__law_take pass0 (pa_cons (pv 0) (pa_cons (pe_callB call_len (by rfl) W.f_len (by decide +kernel) (pa_cons (pv 1) pa_nil)) pa_nil))) (fun _ _ => rfl)))), ?_⟩
  obtain ⟨b, c, a, xs, rfl, hB, h0, h1, hx, hq⟩ := h
  rcases hx with hx | hx
  · refine ⟨_, rfl, _, rfl, _, rfl, _, xs.length, rfl, .inl ⟨xs, hx H (SameB.refl b H), rfl⟩, b, c, xs.length, rfl, h0, by omega, hB, fun n H' hn e hB' => ?_⟩
    exact .inl ⟨a, xs, _, xs[n], rfl, rfl, hx H' e, atI_nat (List.getElem?_eq_getElem hn), hq _ (List.getElem_mem hn) H' e hB'⟩
  · refine ⟨_, rfl, _, rfl, _, rfl, _, xs.length, rfl, .inr ⟨xs, hx H (SameB.refl b H), rfl⟩, b, c, xs.length, rfl, h0, by omega, hB, fun n H' hn e hB' => ?_⟩
    exact .inr (.inl ⟨a, xs, _, xs[n], rfl, rfl, hx H' e, atI_nat (List.getElem?_eq_getElem hn), hq _ (List.getElem_mem hn) H' e hB'⟩)
end
end K93
end

section
set_option Elab.async false
set_option linter.all false
set_option maxRecDepth 100000
set_option maxHeartbeats 4000000
/-! k93: the names drawn. -/
namespace K93
open PySem PySem.Spec PyProof.Rows L2 He HL
def menuS : List String := ["yes", "no", "ask", "not", "all", "any", "step", "row", "if", "while", "leave", "back", "call", "then", "else", "do"]
theorem menu_split : Txt.split (Str.ofString "yes no ask not all any step row if while leave back call then else do") (Str.ofString " ") = menuS.map Str.ofString := by decide +kernel
theorem menu_nm : ∀ s ∈ menuS, M.Nm (M.q s) := by
  have h : (menuS.all fun s => decide (0 < (M.q s).length) && decide ((M.q s).length ≤ 8) && (M.q s).all M.isLet) = true := by decide +kernel
  intro s hs
  exact M.nm_q (List.all_eq_true.mp h s hs)
/-- a name as a text -/
def NmS (x : Str) : Prop := ∃ n, x = S n ∧ M.Nm n
theorem menu_nmS : ∀ x ∈ menuS.map Str.ofString, NmS x := fun x hx => by
  obtain ⟨s, hs, rfl⟩ := List.mem_map.mp hx
  exact ⟨M.q s, oq s, menu_nm s hs⟩
theorem cutV_map {α : Type} (f : α → V) (l : List α) (lo hi : Option Int) : ∃ l' : List α, cutV (l.map f) lo hi = l'.map f ∧ (∀ x ∈ l', x ∈ l) := by
  refine ⟨(l.drop (HT.sIx (l.map f).length 0 lo)).take (HT.sIx (l.map f).length (l.map f).length hi - HT.sIx (l.map f).length 0 lo), ?_, fun x hx => List.mem_of_mem_drop (List.mem_of_mem_take hx)⟩
  unfold cutV
  rw [List.map_take, List.map_drop]
theorem cutV_to {α : Type} (f : α → V) (l : List α) (k : Nat) : cutV (l.map f) none (some (k : Int)) = (l.take k).map f := by
  unfold cutV
  rw [HT.sIx_none, HT.sIx_nat, List.drop_zero, Nat.sub_zero, ← List.map_take, List.length_map]
  congr 1
  apply List.ext_getElem?
  intro i
  simp only [List.getElem?_take]
  by_cases h : i < l.length
  · by_cases h2 : i < k
    · rw [if_pos (by omega), if_pos h2]
    · rw [if_neg (by omega), if_neg h2]
  · rw [List.getElem?_eq_none (by omega)]
    simp
theorem strs_of : ∀ {l : List Str}, (∀ x ∈ l, NmS x) → ∃ ns : List (List Nat), l.map V.str = ns.map (fun n => V.str (S n)) ∧ ∀ n ∈ ns, M.Nm n
  | [], _ => ⟨[], rfl, fun n hn => by simp at hn⟩
  | x :: l, h => by
    obtain ⟨n, rfl, hn⟩ := h x (by simp)
    obtain ⟨ns, e, hns⟩ := strs_of (l := l) fun y hy => h y (by simp [hy])
    refine ⟨n :: ns, by rw [List.map_cons, List.map_cons, e], fun m hm => ?_⟩
    rcases List.mem_cons.mp hm with rfl | hm
    · exact hn
    · exact hns m hm
theorem let_at : ∀ j, j < 26 → M.LET[j]? = some (M.LET.getD j 0) ∧ M.isLet (M.LET.getD j 0) = true := by decide +kernel
section
variable {w : World} {K : PySem.W.Frag} {mg : Str → Option Value} {base : Heap}
/-- a tuple of names -/
def Names (H : Hp) (t : Addr) (ns : List (List Nat)) : Prop := H t = some (.tup (ns.map fun n => V.str (S n))) ∧ (∀ n ∈ ns, M.Nm n) ∧ ns.length ≤ 10
abbrev n_law_names : List Str := ["_law_bag_here", "_law_many", "_law_menu", "_law_way", "_law_turn", "_law_letters", "_law_stem", "_law_k"]
theorem sc_law_names : FnScope n_law_names ["_law_bag_here", "_law_many"] (defScope s_law_names) := ⟨rfl, rfl, rfl, by decide +kernel, rfl, by decide +kernel, by decide +kernel⟩
theorem bi_law_names : ∀ (kV doc pm : Value) (an : Option Addr) (cdv ct : Value) (us : List Value), us.length = 2 → bindArgs (PySem.W.fnOf d_law_names.name d_law_names.qual d_law_names.params d_law_names.body d_law_names.scope .none kV doc pm an cdv ct) ⟨us, []⟩ = pure ([("_law_bag_here" : Str), ("_law_many" : Str)].zip us) := fun kV doc pm an cdv ct us hu => by
  match us, hu with
  | [u0, u1], _ => rfl
def spNames : Sp := fun vs H Q _ => ∃ b c many, vs = [.ref b, .int (many : Nat)] ∧ many ≤ 8 ∧ Bag H b c ∧ ∀ t ns H', SameB b H H' → Bag H' b c → Names H' t ns → Q (.ref t) H'
theorem o_names (W : Wl K mg) : OkD w K mg base CX0 2 d_law_names ["_law_bag_here", "_law_many"] spNames := by
  have O__law_take := o_take (w := w) (base := base) W
  refine HL.ok_of0 W.D_law_names sc_law_names (fun vs H Q E ⟨_, _, _, h, _⟩ => by rw [h]; rfl) bi_law_names fun cdv A outer s H vs Q E hr h => ?_
  have nd := sc_law_names.nd
  refine ⟨_, (pss_cons (ps_set (i := 2) nd rfl (Or.inl rfl) (pe_split pe_str pe_str))
    (pss_cons (ps_asg (pe_tup (pa_cons (pe_cal O__law_take (hr.mono (by omega)) W.g__law_take pass0 (pa_cons (pv 0) (pa_cons pe_int pa_nil))) (pa_cons (pe_cal O__law_take (hr.mono (by omega)) W.g__law_take pass0 (pa_cons (pv 0) (pa_cons pe_int pa_nil))) pa_nil))) (pg_tup (by rfl) (pgs_cons (pg_name (i := 3) nd rfl (Or.inl rfl)) (pgs_cons (pg_name (i := 4) nd rfl (Or.inr rfl)) pgs_nil))))
    (pss_cons (ps_if (pt_cmpR op_eq (pv 3) pe_int (nomark _)) (pss_one (ps_ret (pe_callTy call_tuple_of (by rfl) W.f_tuple (by decide +kernel) (pa_cons (pe_callB cr_sortedS (by rfl) W.f_sorted (by decide +kernel) (pa_cons (pe_slice sl_list (pe_op op_cat (pe_slice sl_list (pv 2) (po_some (pv 4)) po_none) (pe_slice sl_list (pv 2) po_none (po_some (pv 4)))) po_none (po_some (pv 1))) pa_nil)) pa_nil)))) pss_nil)
    (pss_cons (ps_if (pt_cmpR op_eq (pv 3) pe_int (nomark _)) (pss_one (ps_ret (pe_callTy call_tuple_of (by rfl) W.f_tuple (by decide +kernel) (pa_cons (pe_lc (own := [("_law_k", 7)]) (g := gName 7) (tt := tYes) (by rfl) nd (pi_range1 (by rfl) W.f_range (pa_cons (pv 1) pa_nil)) (blkOk_by (own := [("_law_k", 7)]) (N := n_law_names) (sc := defScope s_law_names) (by decide +kernel)) (fun _ _ _ _ _ => pg_name (i := 7) nd rfl (Or.inl rfl)) (fun _ _ _ _ _ => pts_nil) (fun _ _ _ _ _ => (pe_slice sl_str pe_str po_none (po_some (pe_op op_add (pv 7) pe_int))))) pa_nil)))) pss_nil)
    (pss_cons (ps_set (i := 5) nd rfl (Or.inr rfl) pe_str)
    (pss_cons (ps_set (i := 6) nd rfl (Or.inr rfl) (pe_ix ix_list (pe_lst (pa_cons pe_str (pa_cons pe_str (pa_cons (pe_ix ix_str (pv 5) (pv 4) (fun _ _ => rfl)) (pa_cons pe_str pa_nil))))) (pe_op op_sub (pv 3) pe_int) (fun _ _ => rfl)))
    (pss_one (ps_ret (pe_callTy call_tuple_of (by rfl) W.f_tuple (by decide +kernel) (pa_cons (pe_callB cr_sortedS (by rfl) W.f_sorted (by decide +kernel) (pa_cons (pe_lc (own := [("_law_k", 7)]) (g := gName 7) (tt := tYes) (by rfl) nd (pi_range1 (by rfl) W.f_range (pa_cons (pv 1) pa_nil)) (blkOk_by (own := [("_law_k", 7)]) (N := n_law_names) (sc := defScope s_law_names) (by decide +kernel)) (fun _ _ _ _ _ => pg_name (i := 7) nd rfl (Or.inl rfl)) (fun _ _ _ _ _ => pts_nil) (fun _ _ _ _ _ => (pe_op op_add_str (pv 6) (pe_ix ix_str (pv 5) (pe_op op_modN (pe_callTy call_int1 (by rfl) W.f_int (by decide +kernel) (pa_cons (pe_op op_add (pv 4) (pe_op op_mul pe_int (pv 7))) pa_nil)) pe_int) (fun _ _ => rfl))))) pa_nil)) pa_nil)))))))))), ?_⟩
  obtain ⟨b, c, many, rfl, hm, hB, hq⟩ := h
  -- the last step: a tuple of a list of names
  have fin : ∀ (H1 : Hp) (l : Addr) (ss : List Str), SameB b H H1 → Bag H1 b c → H1 l = some (.lst (ss.map V.str)) → (∀ x ∈ ss, NmS x) → ss.length ≤ 10 → ∀ t, H1 t = none → Q (.ref t) (upd H1 t (.tup (ss.map V.str))) := by
    intro H1 l ss e1 hB1 hl hss hlen t ht
    obtain ⟨ns, e2, hns⟩ := strs_of hss
    refine hq t ns _ (e1.new ht) (hB1.keep (same_new ht)) ⟨by rw [upd_same, e2], hns, ?_⟩
    have := congrArg List.length e2
    rw [List.length_map, List.length_map] at this
    omega
  refine ⟨⟨_, rfl⟩, _, _, rfl, rfl, by decide +kernel, by rw [ofq, S_len]; exact small (by decide), fun p hp => ?_⟩
  rw [menu_split]
  have sp : Same H (upd H p (.lst ((menuS.map Str.ofString).map V.str))) := same_new hp
  have hp1 : upd H p (.lst ((menuS.map Str.ofString).map V.str)) p = some (.lst ((menuS.map Str.ofString).map V.str)) := upd_same
  generalize upd H p (.lst ((menuS.map Str.ofString).map V.str)) = H1 at sp hp1 ⊢
  have hB1 := hB.keep sp
  obtain ⟨bx, hbx⟩ := hB.lst
  have npb : p ≠ b := (ne_of_none hbx hp).symm
  refine ⟨_, rfl, b, c, 5, rfl, by decide, by decide, hB1, fun way H2 hway e2 hB2 => ?_⟩
  have hp2 := e2 _ _ hp1 npb
  refine ⟨_, rfl, b, c, 16, rfl, by decide, by decide, hB2, fun turn H3 hturn e3 hB3 => ?_⟩
  have hp3 := e3 _ _ hp2 npb
  have s03 : SameB b H H3 := (SameB.of sp).trans (e2.trans e3)
  refine ⟨by show 2 ≤ sizeLine; decide, fun t0 ht0 => ?_⟩
  have st : Same H3 (upd H3 t0 (.tup [.int (way : Nat), .int (turn : Nat)])) := same_new ht0
  have ht1 : upd H3 t0 (.tup [.int (way : Nat), .int (turn : Nat)]) t0 = some (.tup [.int (way : Nat), .int (turn : Nat)]) := upd_same
  generalize upd H3 t0 (.tup [.int (way : Nat), .int (turn : Nat)]) = H4 at st ht1 ⊢
  have hB4 := hB3.keep st
  have hp4 := st _ _ hp3
  have s04 : SameB b H H4 := s03.trans (.of st)
  refine ⟨t0, _, rfl, sqt ht1, rfl, _, _, rfl, _, _, rfl, rfl, _, rfl, rfl, _, rfl, ?_⟩
  by_cases w0 : way = 0
  · refine iteE true (decide_eq_true (by rw [w0] <;> rfl)) (iteT ?_)
    obtain ⟨l1, c1, m1⟩ := cutV_map V.str (menuS.map Str.ofString) (some (turn : Int)) none
    obtain ⟨l2, c2, m2⟩ := cutV_map V.str (menuS.map Str.ofString) none (some (turn : Int))
    refine ⟨_, rfl, _, rfl, _, rfl, p, _, rfl, sql hp4, fun p1 hp1' => ?_⟩
    have q1 := same_new (o := .lst (cutV ((menuS.map Str.ofString).map V.str) (some (turn : Int)) none)) hp1'
    refine ⟨_, rfl, _, rfl, _, rfl, p, _, rfl, sql (q1 _ _ hp4), fun p2 hp2' => ?_⟩
    have q2 := same_new (o := .lst (cutV ((menuS.map Str.ofString).map V.str) none (some (turn : Int)))) hp2'
    have g1 := q2 _ _ (upd_same (H := H4) (a := p1) (o := .lst (cutV ((menuS.map Str.ofString).map V.str) (some (turn : Int)) none)))
    have z1 : (cutV ((menuS.map Str.ofString).map V.str) (some (turn : Int)) none).length ≤ 16 := Nat.le_trans (cutV_length _ _ _) (by rw [List.length_map, List.length_map]; decide)
    have z2 : (cutV ((menuS.map Str.ofString).map V.str) none (some (turn : Int))).length ≤ 16 := Nat.le_trans (cutV_length _ _ _) (by rw [List.length_map, List.length_map]; decide)
    refine ⟨p1, p2, _, _, rfl, rfl, g1, upd_same, small (by omega), fun p3 hp3' => ?_⟩
    have e12 : cutV ((menuS.map Str.ofString).map V.str) (some (turn : Int)) none ++ cutV ((menuS.map Str.ofString).map V.str) none (some (turn : Int)) = (l1 ++ l2).map V.str := by rw [c1, c2, List.map_append]
    have q12 := q1.trans q2
    rw [e12]
    have q3 := same_new (o := .lst ((l1 ++ l2).map V.str)) hp3'
    have q123 := q12.trans q3
    have hp3v : upd (upd (upd H4 p1 (.lst (cutV ((menuS.map Str.ofString).map V.str) (some (turn : Int)) none))) p2 (.lst (cutV ((menuS.map Str.ofString).map V.str) none (some (turn : Int))))) p3 (.lst ((l1 ++ l2).map V.str)) p3 = some (.lst ((l1 ++ l2).map V.str)) := upd_same
    generalize upd (upd (upd H4 p1 (.lst (cutV ((menuS.map Str.ofString).map V.str) (some (turn : Int)) none))) p2 (.lst (cutV ((menuS.map Str.ofString).map V.str) none (some (turn : Int))))) p3 (.lst ((l1 ++ l2).map V.str)) = H5 at q123 hp3v ⊢
    refine ⟨_, rfl, _, rfl, p3, _, rfl, sql hp3v, fun p4 hp4' => ?_⟩
    rw [cutV_to]
    have q4 := same_new (o := .lst (((l1 ++ l2).take many).map V.str)) hp4'
    have ll : ((l1 ++ l2).take many).length ≤ 8 := by rw [List.length_take]; omega
    refine ⟨p4, _, rfl, sql upd_same, by omega, fun ys p5 perm srt hp5 => ⟨p5, _, rfl, .inl ⟨sql upd_same, fun t ht => ?_⟩⟩⟩
    have q5 := same_new (o := .lst (ys.map V.str)) hp5
    have qq := (q123.trans q4).trans q5
    refine fin _ p5 ys (s04.trans (.of qq)) (hB4.keep qq) upd_same (fun x hx => ?_) (by rw [perm.length_eq]; omega) t ht
    have hx := List.mem_of_mem_take (perm.mem_iff.mp hx)
    rcases List.mem_append.mp hx with z | z
    · exact menu_nmS x (m1 x z)
    · exact menu_nmS x (m2 x z)
  · refine iteE false (decide_eq_false (fun z => w0 (by injection z with z; omega))) (iteF ⟨_, rfl, rfl, _, rfl, ?_⟩)
    have mb : (((many : Nat) : Int)).toNat = many := by omega
    have mb1 : -(2 ^ 62) ≤ ((many : Nat) : Int) := by
      have : (0 : Int) ≤ (many : Int) := by omega
      exact Int.le_trans (by decide) this
    have mb2 : ((many : Nat) : Int) < 2 ^ 62 := Int.lt_of_le_of_lt (show ((many : Nat) : Int) ≤ 8 by omega) (by decide)
    by_cases w1 : way = 1
    · refine iteE true (decide_eq_true (by rw [w1] <;> rfl)) (iteT ?_)
      refine ⟨_, rfl, _, rfl, mb1, mb2, fun D hD => ?_⟩
      rw [mb]
      refine HL.lcR (n := many) (out := (List.range many).map fun k => V.str (S ((M.q "aaaaaaaa").take (k + 1)))) hD (by rw [List.length_map, List.length_range]) (small (by omega)) (fun k1 y1 H5 Q5 hk1 hy1 e5 _ hq5 => ?_) fun H5 e5 hD5 => ⟨D, _, rfl, .inl ⟨sql hD5, fun t ht => ?_⟩⟩
      · rw [List.getElem?_map, List.getElem?_range hk1] at hy1
        have hy1 : some (V.str (S ((M.q "aaaaaaaa").take (k1 + 1)))) = some y1 := hy1
        cases hy1
        refine ⟨_, rfl, _, _, rfl, rfl, _, congrArg V.int (show (0 : Int) + (k1 : Int) + 1 = ((k1 + 1 : Nat) : Int) by omega), _, rfl, by rw [ofq, S_len]; exact small (by decide), ?_⟩
        rw [oq, cut_j]
        exact hq5 _ (Same.refl _)
      · have e9 : ((List.range many).map fun k => V.str (S ((M.q "aaaaaaaa").take (k + 1)))) = ((List.range many).map fun k => S ((M.q "aaaaaaaa").take (k + 1))).map V.str := by rw [List.map_map] <;> rfl
        rw [e9]
        refine fin H5 D _ (s04.trans (.of e5)) (hB4.keep e5) (by rw [hD5, e9]) (fun x hx => ?_) (by rw [List.length_map, List.length_range]; omega) t ht
        obtain ⟨k1, hk1, rfl⟩ := List.mem_map.mp hx
        have hk1 := List.mem_range.mp hk1
        refine ⟨_, rfl, ?_, ?_, ?_⟩
        · rw [List.length_take, show (M.q "aaaaaaaa").length = 8 from by decide]
          omega
        · rw [List.length_take]
          omega
        · intro c hc
          have h8 : ∀ c ∈ M.q "aaaaaaaa", M.isLet c = true := by decide
          exact h8 c (List.mem_of_mem_take hc)
    · refine iteE false (decide_eq_false (fun z => w1 (by injection z with z; omega))) (iteF ?_)
      have hLsz : (Str.ofString "abcdefghijklmnopqrstuvwxyz").length ≤ sizeLine := by rw [ofq, S_len]; exact small (by decide)
      have hL : ∀ j, j < 26 → atI (Str.ofString "abcdefghijklmnopqrstuvwxyz").cps.toList ((j : Nat) : Int) = some (M.LET.getD j 0) := fun j hj => atI_nat (by rw [ofq_tl]; exact (let_at j hj).1)
      have key : ∃ stn : List Nat, atI [V.str (Str.ofString ""), V.str (Str.ofString ""), V.str ⟨#[M.LET.getD turn 0]⟩, V.str (Str.ofString "zzzzzzz")] (((way - 1 : Nat) : Int)) = some (V.str (S stn)) ∧ stn.length ≤ 7 ∧ ∀ c ∈ stn, M.isLet c = true := by
        have hw : way = 2 ∨ way = 3 ∨ way = 4 := by omega
        rcases hw with rfl | rfl | rfl
        · exact ⟨[], by rw [oq ""]; exact at1, by simp, fun c hc => by simp at hc⟩
        · exact ⟨[M.LET.getD turn 0], at2, by simp, fun c hc => by
            have : c = M.LET.getD turn 0 := by simpa using hc
            rw [this]
            exact (let_at turn (by omega)).2⟩
        · exact ⟨M.q "zzzzzzz", by rw [oq "zzzzzzz"]; exact at3, by decide, by decide⟩
      obtain ⟨stn, hst, hstl, hstc⟩ := key
      have ew : ((way : Nat) : Int) - 1 = ((way - 1 : Nat) : Int) := by omega
      refine ⟨_, rfl, _, rfl, _, _, _, rfl, rfl, hLsz, hL turn (by omega), by show 4 ≤ sizeLine; decide, fun l hl => ?_⟩
      have sl := same_new (o := .lst [V.str (Str.ofString ""), V.str (Str.ofString ""), V.str ⟨#[M.LET.getD turn 0]⟩, V.str (Str.ofString "zzzzzzz")]) hl
      refine ⟨_, rfl, _, _, rfl, rfl, l, _, _, _, rfl, congrArg V.int ew, sql upd_same, hst, ?_⟩
      refine ⟨_, rfl, _, rfl, mb1, mb2, fun D hD => ?_⟩
      rw [mb]
      refine HL.lcR (n := many) (out := (List.range many).map fun k => V.str (S (stn ++ [M.LET.getD ((turn + 3 * k) % 26) 0]))) hD (by rw [List.length_map, List.length_range]) (small (by omega)) (fun k1 y1 H5 Q5 hk1 hy1 e5 _ hq5 => ?_) fun H5 e5 hD5 => ?_
      · rw [List.getElem?_map, List.getElem?_range hk1] at hy1
        have hy1 : some (V.str (S (stn ++ [M.LET.getD ((turn + 3 * k1) % 26) 0]))) = some y1 := hy1
        cases hy1
        have em : (((turn : Nat) : Int) + 3 * ((0 : Int) + (k1 : Int))).fmod 26 = (((turn + 3 * k1) % 26 : Nat) : Int) := by
          rw [Int.fmod_eq_emod_of_nonneg _ (by decide)]
          omega
        refine ⟨_, rfl, _, rfl, _, rfl, _, rfl, _, _, rfl, rfl, .inl ⟨by decide, by decide⟩, _, _, rfl, rfl, .inl ⟨_, rfl, _, _, rfl, rfl, (by show (26 : Int) ≠ 0; decide), _, _, _, rfl, congrArg V.int em, hLsz, hL _ (Nat.mod_lt _ (by decide)), _, _, rfl, rfl, ?_, ?_⟩⟩
        · show (S stn).length + 1 ≤ _
          rw [S_len]
          exact small (by omega)
        · rw [show (⟨#[M.LET.getD ((turn + 3 * k1) % 26) 0]⟩ : Str) = S [M.LET.getD ((turn + 3 * k1) % 26) 0] from rfl, S_cat]
          exact hq5 _ (Same.refl _)
      · have e9 : ((List.range many).map fun k => V.str (S (stn ++ [M.LET.getD ((turn + 3 * k) % 26) 0]))) = ((List.range many).map fun k => S (stn ++ [M.LET.getD ((turn + 3 * k) % 26) 0])).map V.str := by rw [List.map_map] <;> rfl
        rw [e9] at hD5
        refine ⟨D, _, rfl, sql hD5, by rw [List.length_map, List.length_range]; omega, fun ys p5 perm srt hp5 => ⟨p5, _, rfl, .inl ⟨sql upd_same, fun t ht => ?_⟩⟩⟩
        have q5 := same_new (o := .lst (ys.map V.str)) hp5
        have qq := (sl.trans e5).trans q5
        refine fin _ p5 ys (s04.trans (.of qq)) (hB4.keep qq) upd_same (fun x hx => ?_) (by rw [perm.length_eq, List.length_map, List.length_range]; omega) t ht
        obtain ⟨k1, hk1, rfl⟩ := List.mem_map.mp (perm.mem_iff.mp hx)
        refine ⟨_, rfl, ?_, ?_, ?_⟩
        · rw [List.length_append]
          simp
        · rw [List.length_append]
          simp
          omega
        · intro c hc
          rcases List.mem_append.mp hc with z | z
          · exact hstc c z
          · have : c = M.LET.getD ((turn + 3 * k1) % 26) 0 := by simpa using z
            rw [this]
            exact (let_at _ (Nat.mod_lt _ (by decide))).2
end
end K93
end

section
set_option Elab.async false
set_option linter.all false
set_option maxRecDepth 100000
set_option maxHeartbeats 4000000
/-! k93: the conditions drawn. -/
namespace K93
open PySem PySem.Spec PyProof.Rows L2 He HL
/-- if c: t, what follows b -/
theorem sif {c : TT} {t b : TS} {D : Ends} {σ : L2.St} {H : Hp} (P : Prop) [Decidable P] (hc : ∀ Q' : Bool → Hp → Prop, (∀ H', Same H H' → Q' (decide P) H') → c σ H Q') (h1 : P → ∀ H', Same H H' → t { D with nx := b D } σ H') (h2 : ¬P → ∀ H', Same H H' → b D σ H') : tSeq (tIfS c t tNext) b D σ H := by
  refine hc _ fun H' e => ?_
  by_cases h : P
  · rw [decide_eq_true h]
    exact iteT (h1 h H' e)
  · rw [decide_eq_false h]
    exact iteF (h2 h H' e)
theorem eqv_tnil {α : Type} (dat : α → PyData) (l : List α) : PyData.eqv (.tuple (l.map dat)) (.tuple []) = l.isEmpty := by
  cases l <;> simp [PyData.eqv, PyData.eqvAll]
section
variable {w : World} {K : PySem.W.Frag} {mg : Str → Option Value} {base : Heap}
theorem names_dp {H : Hp} : ∀ ns : List (List Nat), DpAll K H (ns.map fun n => V.str (S n)) (ns.map fun n => PyData.str (S n))
  | [] => .nil
  | n :: ns => .cons (.str _) (names_dp ns)
theorem names_lay : ∀ {ns : List (List Nat)}, (∀ n ∈ ns, M.Nm n) → PyData.canLayAll0 (ns.map fun n => PyData.str (S n)) = true
  | [], _ => rfl
  | n :: ns, h => by
    show (PyData.strOk (S n) && PyData.canLayAll0 (ns.map fun n => PyData.str (S n))) = true
    rw [nm_ok (h n (by simp)), names_lay fun m hm => h m (by simp [hm])]
    rfl
theorem Names.keep {H H' : Hp} {t : Addr} {ns : List (List Nat)} (h : Names H t ns) (e : TupK H H') : Names H' t ns := ⟨e _ _ h.1, h.2⟩
theorem names_eq {H : Hp} {t t0 : Addr} {ns : List (List Nat)} {units : Nat} {Q : VK} (hN : Names H t ns) (h0 : H t0 = some (.tup [])) (hu : units + 10 < cLine) (h : Q (.bl ns.isEmpty) H) : XP.rEqE K units (.ref t) (.ref t0) H Q := by
  refine ⟨.tuple (ns.map fun n => .str (S n)), .tuple [], .tup (sqt hN.1) (names_dp ns), .tup (sqt h0) .nil, names_lay hN.2.1, rfl, ?_, ?_⟩
  · have h2 : (PyData.tuple []).depth = 1 := by simp [PyData.depth, PyData.depthAll]
    have h3 := Nat.min_le_right (PyData.tuple (ns.map fun n => PyData.str (S n))).depth (PyData.tuple []).depth
    omega
  · rw [eqv_tnil]
    exact h
theorem names_ne {H : Hp} {t t0 : Addr} {ns : List (List Nat)} {units : Nat} {Q : VK} (hN : Names H t ns) (h0 : H t0 = some (.tup [])) (hu : units + 10 < cLine) (h : Q (.bl (!ns.isEmpty)) H) : XP.rNeE K units (.ref t) (.ref t0) H Q := by
  refine ⟨.tuple (ns.map fun n => .str (S n)), .tuple [], .tup (sqt hN.1) (names_dp ns), .tup (sqt h0) .nil, names_lay hN.2.1, rfl, ?_, ?_⟩
  · have h2 : (PyData.tuple []).depth = 1 := by simp [PyData.depth, PyData.depthAll]
    have h3 := Nat.min_le_right (PyData.tuple (ns.map fun n => PyData.str (S n))).depth (PyData.tuple []).depth
    omega
  · rw [eqv_tnil]
    exact h
/-- one of the names is drawn -/
theorem one_name {H : Hp} {b c t : Addr} {ns : List (List Nat)} {Q : VK} {E : XK} (hB : Bag H b c) (hN : Names H t ns) (h0 : ns ≠ []) (h : ∀ n, M.Nm n → ∀ H', SameB b H H' → Bag H' b c → Q (.str (S n)) H') : spOne K [.ref b, .ref t] H Q E := by
  refine ⟨b, c, t, _, rfl, hB, by rw [List.length_map]; exact List.length_pos_iff.mpr h0, by rw [List.length_map]; have := hN.2.2; omega, .inr fun H' e => sqt (hB.tup e _ _ hN.1), fun x hx H' e hB' => ?_⟩
  obtain ⟨n, hn, rfl⟩ := List.mem_map.mp hx
  exact h n (hN.2.1 n hn) H' e hB'
def cO : Nat → Nat
  | 0 => 0
  | d + 1 => 3 * cO d + 5
def cL : Nat → Nat
  | 0 => 9
  | d + 1 => 3 * cL d + 9
theorem cL_pos (d : Nat) : 9 ≤ cL d := by
  cases d with
  | zero => exact Nat.le_refl _
  | succ d =>
    show 9 ≤ 3 * cL d + 9
    omega
theorem join_le {b : List Nat} {k : Nat} : ∀ {ys : List (List Nat)}, (∀ y ∈ ys, y.length ≤ k) → ys.length ≤ 3 → (TL.joinL b ys).length ≤ 3 * k + 2 * b.length
  | [], _, _ => by simp [TL.joinL]
  | [x], h, _ => by
    have := h x (by simp)
    simp only [TL.joinL]
    omega
  | [x, y], h, _ => by
    have h1 := h x (by simp)
    have h2 := h y (by simp)
    simp only [TL.joinL, List.length_append]
    omega
  | [x, y, z], h, _ => by
    have h1 := h x (by simp)
    have h2 := h y (by simp)
    have h3 := h z (by simp)
    simp only [TL.joinL, List.length_append]
    omega
  | _ :: _ :: _ :: _ :: _, _, h => by simp at h
theorem join_om {b : List Nat} {k : Nat} : ∀ {ys : List (List Nat)}, (∀ y ∈ ys, M.om y ≤ k) → ys.length ≤ 3 → M.om (TL.joinL b ys) ≤ 3 * k + 2 * M.om b
  | [], _, _ => by simp [TL.joinL, M.om_nil]
  | [x], h, _ => by
    have := h x (by simp)
    simp only [TL.joinL]
    omega
  | [x, y], h, _ => by
    have h1 := h x (by simp)
    have h2 := h y (by simp)
    simp only [TL.joinL, M.om_app]
    omega
  | [x, y, z], h, _ => by
    have h1 := h x (by simp)
    have h2 := h y (by simp)
    have h3 := h z (by simp)
    simp only [TL.joinL, M.om_app]
    omega
  | _ :: _ :: _ :: _ :: _, _, h => by simp at h
theorem nm_om {n : List Nat} (h : ∀ c ∈ n, M.isLet c = true) : M.om n = 0 := by
  induction n with
  | nil => rfl
  | cons c n ih =>
    have h1 := h c (by simp)
    have h2 := ih fun d hd => h d (by simp [hd])
    have hc : c ∈ M.LET := of_decide_eq_true h1
    have hw : ∀ d ∈ M.LET, M.wt d = 0 := by decide
    have h3 := M.om_app [c] n
    rw [show [c] ++ n = c :: n from rfl, h2] at h3
    rw [h3]
    show M.om [c] + 0 = 0
    simp [M.om, hw c hc]
/-- a drawn condition -/
def CD (d : Nat) (v : V) (c : M.Cond) (H : Hp) : Prop := CAt H c v ∧ c.wf ∧ M.om c.sh ≤ cO d ∧ c.sh.length ≤ cL d
abbrev n_law_condition : List Str := ["_law_bag_here", "_law_asks", "_law_deep", "_law_way", "_law_some", "_law_k"]
theorem sc_law_condition : FnScope n_law_condition ["_law_bag_here", "_law_asks", "_law_deep"] (defScope s_law_condition) := ⟨rfl, rfl, rfl, by decide +kernel, rfl, by decide +kernel, by decide +kernel⟩
theorem bi_law_condition : ∀ (kV doc pm : Value) (an : Option Addr) (cdv ct : Value) (us : List Value), us.length = 3 → bindArgs (PySem.W.fnOf d_law_condition.name d_law_condition.qual d_law_condition.params d_law_condition.body d_law_condition.scope .none kV doc pm an cdv ct) ⟨us, []⟩ = pure ([("_law_bag_here" : Str), ("_law_asks" : Str), ("_law_deep" : Str)].zip us) := fun kV doc pm an cdv ct us hu => by
  match us, hu with
  | [u0, u1, u2], _ => rfl
def spCnd (d : Nat) : Sp := fun vs H Q _ => ∃ b c t ns, vs = [.ref b, .ref t, .int (d : Nat)] ∧ Bag H b c ∧ Names H t ns ∧ ∀ v x H', SameB b H H' → Bag H' b c → CD d v x H' → Q v H'
theorem o_cnd (W : Wl K mg) : ∀ (d L : Nat), d + 3 ≤ L → OkD w K mg base CX0 L d_law_condition ["_law_bag_here", "_law_asks", "_law_deep"] (spCnd d) := by
  intro d
  induction d using Nat.strongRecOn with
  | _ d ih =>
  intro L hL
  obtain ⟨k, rfl⟩ : ∃ k, L = k + 1 := ⟨L - 1, by omega⟩
  have O__law_take := o_take (w := w) (base := base) W
  have O__law_one := o_one (w := w) (base := base) W
  have O__law_condition : OkD w K mg base CX0 k d_law_condition ["_law_bag_here", "_law_asks", "_law_deep"] (fun vs H Q E => ∃ d', d = d' + 1 ∧ spCnd d' vs H Q E) := by
    by_cases h0 : d = 0
    · obtain ⟨j, rfl⟩ : ∃ j, k = j + 1 := ⟨k - 1, by omega⟩
      exact o_vac W.D_law_condition sc_law_condition bi_law_condition fun vs H Q E ⟨d', z, _⟩ => by omega
    · obtain ⟨d', rfl⟩ : ∃ d', d = d' + 1 := ⟨d - 1, by omega⟩
      exact (ih d' (by omega) k (by omega)).imp fun vs H Q E ⟨d2, z, q⟩ => by
        obtain rfl : d' = d2 := by omega
        exact q
  refine HL.ok_of0 W.D_law_condition sc_law_condition (fun vs H Q E ⟨_, _, _, _, h, _⟩ => by rw [h]; rfl) bi_law_condition fun cdv A outer s H vs Q E hr h => ?_
  have nd := sc_law_condition.nd
  have hun := hr.un
  refine ⟨_, (pss_cons (ps_set (i := 3) nd rfl (Or.inl rfl) (pe_cal O__law_take (hr.mono (by omega)) W.g__law_take pass0 (pa_cons (pv 0) (pa_cons pe_int pa_nil))))
    (pss_cons (ps_if (PW.pt (pw_or (pt_cmpR op_lt (pv 3) pe_int (nomark _)) (pw_or1 (pt_cmpR op_lt (pv 2) pe_int (nomark _))))) (pss_cons (ps_if (PW.pt (pw_or (pt_cmpR op_eq (pv 3) pe_int (nomark _)) (pw_or1 (pt_cmpR XP.op_eqE (pv 1) (pe_tup pa_nil) (nomark _))))) (pss_one (ps_ret (pe_ix ix_list (pe_lst (pa_cons (pe_tup (pa_cons pe_str pa_nil)) (pa_cons (pe_tup (pa_cons pe_str pa_nil)) pa_nil))) (pe_cal O__law_take (hr.mono (by omega)) W.g__law_take pass0 (pa_cons (pv 0) (pa_cons pe_int pa_nil))) (fun _ _ => rfl)))) pss_nil)
      (pss_one (ps_ret (pe_tup (pa_cons pe_str (pa_cons (pe_cal O__law_one (hr.mono (by omega)) W.g__law_one pass0 (pa_cons (pv 0) (pa_cons (pv 1) pa_nil))) pa_nil)))))) pss_nil)
    (pss_cons (ps_if (pt_cmpR op_lt (pv 3) pe_int (nomark _)) (pss_one (ps_ret (pe_tup (pa_cons pe_str (pa_cons (pe_cal O__law_condition (hr.mono (by omega)) W.g__law_condition pass0 (pa_cons (pv 0) (pa_cons (pv 1) (pa_cons (pe_op op_sub (pv 2) pe_int) pa_nil)))) pa_nil))))) pss_nil)
    (pss_cons (ps_setLc (i := 4) (own := [("_law_k", 5)]) (g := gName 5) (tt := tYes) rfl nd rfl rfl (sw_true rfl rfl rfl (by decide +kernel)) (pi_range1 (by rfl) W.f_range (pa_cons (pe_cal O__law_take (hr.mono (by omega)) W.g__law_take pass0 (pa_cons (pv 0) (pa_cons pe_int pa_nil))) pa_nil)) (blkOk_by (own := [("_law_k", 5)]) (N := n_law_condition) (sc := defScope s_law_condition) (by decide +kernel)) (fun _ _ _ _ _ => pg_name (i := 5) nd rfl (Or.inl rfl)) (fun _ _ _ _ _ => pts_nil) (fun _ _ _ _ _ => (pe_cal O__law_condition (hr.mono (by omega)) W.g__law_condition pass0 (pa_cons (pv 0) (pa_cons (pv 1) (pa_cons (pe_op op_sub (pv 2) pe_int) pa_nil))))))
    (pss_one (ps_ret (pe_tup (pa_cons (pe_ix ix_list (pe_lst (pa_cons pe_str (pa_cons pe_str pa_nil))) (pe_op op_sub (pv 3) pe_int) (fun _ _ => rfl)) (pa_cons (pe_callTy call_tuple_of (by rfl) W.f_tuple (by decide +kernel) (pa_cons (pv 4) pa_nil)) pa_nil))))))))), ?_⟩
  obtain ⟨b, c, t, ns, rfl, hB, hN, hq⟩ := h
  refine ⟨_, rfl, b, c, 9, rfl, by decide, by decide, hB, fun way H1 hway e1 hB1 => ?_⟩
  have hN1 := hN.keep (hB.tup e1)
  dsimp only
  refine sif (way < 5 ∨ d = 0) (fun Q' hQ' => ?_) (fun hl H2 e2 => ?_) (fun hl H2 e2 => ?_)
  · refine ⟨_, rfl, _, _, rfl, rfl, _, rfl, ?_⟩
    by_cases h5 : way < 5
    · refine iteE true (decide_eq_true (by omega)) (iteT ?_)
      have := hQ' H1 (Same.refl _)
      rwa [decide_eq_true (.inl h5)] at this
    · refine iteE false (decide_eq_false (by omega)) (iteF ⟨_, rfl, _, _, rfl, rfl, _, rfl, ?_⟩)
      have e9 : decide (((d : Nat) : Int) < 1) = decide (way < 5 ∨ d = 0) := decide_eq_decide.mpr (by omega)
      have := hQ' H1 (Same.refl _)
      rw [← e9] at this
      exact this
  · -- a leaf
    have hB2 := hB1.keep e2
    have e12 : SameB b H H2 := e1.trans (.of e2)
    have hN2 := hN1.keep (.of e2)
    have hu2 : (A.deeper (envOfC d_law_condition.qual d_law_condition.scope s.heap.objs.size (fAd K d_law_condition.at_) cdv)).units + 10 < cLine := by omega
    refine sif (way = 0 ∨ ns = []) (fun Q' hQ' => ?_) (fun hl2 H3 e3 => ?_) (fun hl2 H3 e3 => ?_)
    · refine ⟨_, rfl, rfl, _, rfl, ?_⟩
      by_cases h5 : way = 0
      · refine iteE true (decide_eq_true (by rw [h5] <;> rfl)) (iteT ?_)
        have := hQ' H2 (Same.refl _)
        rwa [decide_eq_true (.inl h5)] at this
      · refine iteE false (decide_eq_false (fun z => h5 (by injection z with z; omega))) (iteF ⟨_, rfl, Nat.zero_le _, fun t0 ht0 => ?_⟩)
        refine names_eq (hN2.keep (.of (same_new ht0))) upd_same hu2 ⟨_, rfl, ?_⟩
        have e9 : ns.isEmpty = decide (way = 0 ∨ ns = []) := by
          cases ns with
          | nil => exact (decide_eq_true (.inr rfl)).symm
          | cons n ns => exact (decide_eq_false (by simp [h5])).symm
        have := hQ' _ (same_new (o := .tup []) ht0)
        rw [← e9] at this
        exact this
    · have hB3 := hB2.keep e3
      have e13 := e12.trans (.of e3)
      refine ⟨by show 1 ≤ sizeLine; decide, fun t1 ht1 => ⟨by show 1 ≤ sizeLine; decide, fun t2 ht2 => ⟨by show 2 ≤ sizeLine; decide, fun l hl => ?_⟩⟩⟩
      have s1 := same_new (o := .tup [V.str "yes"]) ht1
      have s2 := same_new (o := .tup [V.str "no"]) ht2
      have s3 := same_new (o := .lst [V.ref t1, V.ref t2]) hl
      have g1 := s3 _ _ (s2 _ _ (upd_same (H := H3) (a := t1) (o := .tup [V.str "yes"])))
      have g2 := s3 _ _ (upd_same (H := upd H3 t1 (.tup [V.str "yes"])) (a := t2) (o := .tup [V.str "no"]))
      have gl := upd_same (H := upd (upd H3 t1 (.tup [V.str "yes"])) t2 (.tup [V.str "no"])) (a := l) (o := .lst [V.ref t1, V.ref t2])
      have s123 := (s1.trans s2).trans s3
      have nlb : l ≠ b := ((((hB3.keep s1).keep s2)).ne hl).1
      have hB4 := hB3.keep s123
      generalize upd (upd (upd H3 t1 (.tup [V.str "yes"])) t2 (.tup [V.str "no"])) l (.lst [V.ref t1, V.ref t2]) = H4 at s123 g1 g2 gl hB4 ⊢
      refine ⟨_, rfl, b, c, 2, rfl, by decide, by decide, hB4, fun n H5 hn e5 hB5 => ?_⟩
      have tk := hB4.tup e5
      have e15 := e13.trans ((SameB.of s123).trans e5)
      have n2 : n = 0 ∨ n = 1 := by omega
      rcases n2 with rfl | rfl
      · refine ⟨l, _, _, _, rfl, rfl, sql (e5 _ _ gl nlb), at0, hq _ (.word true) H5 e15 hB5 ⟨?_, trivial, Nat.zero_le _, Nat.le_trans (show (M.yq true).length ≤ 9 by decide) (cL_pos d)⟩⟩
        unfold CAt
        exact ⟨t1, rfl, by rw [tk _ _ g1, sq "yes"]; rfl⟩
      · refine ⟨l, _, _, _, rfl, rfl, sql (e5 _ _ gl nlb), at1, hq _ (.word false) H5 e15 hB5 ⟨?_, trivial, Nat.zero_le _, Nat.le_trans (show (M.yq false).length ≤ 9 by decide) (cL_pos d)⟩⟩
        unfold CAt
        exact ⟨t2, rfl, by rw [tk _ _ g2, sq "no"]; rfl⟩
    · have hB3 := hB2.keep e3
      have hN3 := hN2.keep (.of e3)
      have e13 := e12.trans (.of e3)
      refine ⟨_, rfl, _, rfl, one_name (E := L2.E0) hB3 hN3 (fun z => hl2 (.inr z)) fun n hn H4 e4 hB4 => ⟨by show 2 ≤ sizeLine; decide, fun a ha => ?_⟩⟩
      refine hq _ (.ask n) _ ((e13.trans e4).new ha) (hB4.keep (same_new ha)) ⟨?_, hn, ?_, ?_⟩
      · unfold CAt
        exact ⟨a, rfl, by rw [upd_same, sq "ask"]⟩
      · show M.om (M.q "?" ++ n) ≤ _
        rw [M.om_app, nm_om hn.all, show M.om (M.q "?") = 0 from by decide]
        omega
      · show (M.q "?" ++ n).length ≤ _
        rw [List.length_append, show (M.q "?").length = 1 from by decide]
        have := hn.most
        have := cL_pos d
        omega
  · obtain ⟨d', rfl⟩ : ∃ d', d = d' + 1 := ⟨d - 1, by omega⟩
    have hway5 : 5 ≤ way := by omega
    have hB2 := hB1.keep e2
    have e12 : SameB b H H2 := e1.trans (.of e2)
    have hN2 := hN1.keep (.of e2)
    have ed : (((d' + 1 : Nat) : Int) - 1) = ((d' : Nat) : Int) := by omega
    have args : ∀ x y : V, [x, y, V.int (((d' + 1 : Nat) : Int) - 1)] = [x, y, V.int (d' : Nat)] := fun x y => by rw [ed]
    refine sif (way < 7) (fun Q' hQ' => ?_) (fun h7 H3 e3 => ?_) (fun h7 H3 e3 => ?_)
    · refine ⟨_, rfl, _, _, rfl, rfl, _, rfl, ?_⟩
      have := hQ' H2 (Same.refl _)
      rwa [show decide (way < 7) = decide (((way : Nat) : Int) < 7) from decide_eq_decide.mpr (by omega)] at this
    · have hB3 := hB2.keep e3
      refine ⟨_, rfl, _, rfl, _, rfl, _, _, rfl, rfl, d', rfl, b, c, t, ns, args _ _, hB3, hN2.keep (.of e3), fun v x H4 e4 hB4 hx => ⟨by show 2 ≤ sizeLine; decide, fun a ha => ?_⟩⟩
      obtain ⟨x1, x2, x3, x4⟩ := hx
      refine hq _ (.neg x) _ (((e12.trans (.of e3)).trans e4).new ha) (hB4.keep (same_new ha)) ⟨?_, x2, ?_, ?_⟩
      · unfold CAt
        exact ⟨a, v, rfl, by rw [upd_same, sq "not"], x1.keep (.of (same_new ha))⟩
      · show M.om (M.q "not" ++ (M.q "(" ++ (x.sh ++ M.q ")"))) ≤ 3 * cO d' + 5
        rw [M.om_app, M.om_app, M.om_app, show M.om (M.q "not") = 0 from by decide, show M.om (M.q "(") = 3 from by decide, show M.om (M.q ")") = 0 from by decide]
        omega
      · show (M.q "not" ++ (M.q "(" ++ (x.sh ++ M.q ")"))).length ≤ 3 * cL d' + 9
        simp only [List.length_append, show (M.q "not").length = 3 from by decide, show (M.q "(").length = 1 from by decide, show (M.q ")").length = 1 from by decide]
        omega
    · have hB3 := hB2.keep e3
      refine ⟨_, rfl, b, c, 4, rfl, by decide, by decide, hB3, fun m H4 hm e4 hB4 => ?_⟩
      have e14 : SameB b H H4 := (e12.trans (.of e3)).trans e4
      have hN4 := (hN2.keep (.of e3)).keep (hB3.tup e4)
      have mb : (((m : Nat) : Int)).toNat = m := by omega
      have mb1 : -(2 ^ 62) ≤ ((m : Nat) : Int) := Int.le_trans (by decide) (show (0 : Int) ≤ (m : Int) by omega)
      have mb2 : ((m : Nat) : Int) < 2 ^ 62 := Int.lt_of_le_of_lt (show ((m : Nat) : Int) ≤ 4 by omega) (by decide)
      refine ⟨_, rfl, mb1, mb2, fun D hD => ?_⟩
      rw [mb]
      obtain ⟨nDb, nDc⟩ := hB4.ne hD
      have nDt : D ≠ t := (ne_of_none hN4.1 hD).symm
      refine HL.lcRR (n := m) (X := XB b) (I := fun H => Bag H b c) (R := CD d') hD (fun l => nDb) (hB4.keep (same_new hD)) (fun H l h _ l' => h.put nDb nDc) (small (by omega)) (fun v x H H' r e h => ⟨r.1.keep (h.tup e), r.2⟩)
        (fun v x H l l' r h => ⟨r.1.keep ((TupK.refl H).mut h (fun xs q => nomatch q)), r.2⟩) (fun k1 H5 Q5 hk1 e5 hB5 hq5 => ?_) fun H5 vs5 cs5 e5 hB5 hD5 hlen5 hA5 => ?_
      · refine ⟨_, rfl, _, rfl, _, rfl, _, _, rfl, rfl, d', rfl, b, c, t, ns, args _ _, hB5, hN4.keep (hB4.tup e5), fun v x H6 e6 hB6 hx => hq5 v x H6 e6 hB6 hx⟩
      · have e15 : SameB b H H5 := e14.trans e5
        have hL5 := hA5.length
        have n2 : way = 7 ∨ way = 8 := by omega
        refine ⟨by show 2 ≤ sizeLine; decide, fun l hl => ⟨_, rfl, _, _, rfl, rfl, ?_⟩⟩
        have sl := same_new (o := .lst [V.str "all", V.str "any"]) hl
        have hD6 := sl _ _ hD5
        have fin : ∀ bb : Bool, ∀ u, upd H5 l (.lst [V.str "all", V.str "any"]) u = none → ∀ a, upd (upd H5 l (.lst [V.str "all", V.str "any"])) u (.tup vs5) a = none → Q (.ref a) (upd (upd (upd H5 l (.lst [V.str "all", V.str "any"])) u (.tup vs5)) a (.tup [.str (S (M.nq bb)), .ref u])) := by
          intro bb u hu a ha
          have su := same_new (o := .tup vs5) hu
          have sa := same_new (o := .tup [.str (S (M.nq bb)), .ref u]) ha
          have sall := (sl.trans su).trans sa
          have hsh : ∀ f : List Nat → Nat, ∀ k, (∀ v x H, CD d' v x H → f x.sh ≤ k) → ∀ y ∈ M.shC cs5, f y ≤ k := by
            intro f k hf y hy
            rw [M.shC_map] at hy
            obtain ⟨x, hx, rfl⟩ := List.mem_map.mp hy
            obtain ⟨i, hi⟩ := List.getElem?_of_mem hx
            obtain ⟨v, _, r⟩ := hA5.getR hi
            exact hf v x _ r
          have hl3 : (M.shC cs5).length ≤ 3 := by
            rw [M.shC_map, List.length_map]
            omega
          refine hq _ (.many bb cs5) _ (e15.trans (.of sall)) (hB5.keep sall) ⟨?_, ?_, ?_, ?_⟩
          · unfold CAt
            refine ⟨a, u, vs5, rfl, upd_same, sa _ _ upd_same, cAtL_iff.mpr (hA5.imp fun v x r => r.1.keep (.of sall))⟩
          · show M.wfC cs5
            rw [M.wfC_iff]
            intro x hx
            obtain ⟨i, hi⟩ := List.getElem?_of_mem hx
            obtain ⟨v, _, r⟩ := hA5.getR hi
            exact r.2.1
          · show M.om (M.nq bb ++ (M.q "(" ++ (TL.joinL (M.q ", ") (M.shC cs5) ++ M.q ")"))) ≤ 3 * cO d' + 5
            have h1 := join_om (b := M.q ", ") (k := cO d') (hsh M.om _ fun v x H r => r.2.2.1) hl3
            rw [M.om_app, M.om_app, M.om_app, show M.om (M.nq bb) = 0 from by cases bb <;> decide, show M.om (M.q "(") = 3 from by decide, show M.om (M.q ")") = 0 from by decide]
            rw [show M.om (M.q ", ") = 1 from by decide] at h1
            omega
          · show (M.nq bb ++ (M.q "(" ++ (TL.joinL (M.q ", ") (M.shC cs5) ++ M.q ")"))).length ≤ 3 * cL d' + 9
            have h1 := join_le (b := M.q ", ") (k := cL d') (hsh List.length _ fun v x H r => r.2.2.2) hl3
            simp only [List.length_append, show (M.nq bb).length = 3 from by cases bb <;> decide, show (M.q "(").length = 1 from by decide, show (M.q ")").length = 1 from by decide]
            rw [show (M.q ", ").length = 2 from by decide] at h1
            omega
        rcases n2 with rfl | rfl
        · refine ⟨l, _, _, _, rfl, rfl, sql upd_same, at0, _, rfl, D, vs5, rfl, .inl ⟨sql hD6, fun u hu => ⟨by show 2 ≤ sizeLine; decide, fun a ha => ?_⟩⟩⟩
          have := fin true u hu a ha
          rw [show M.nq true = M.q "all" from rfl, ← sq "all"] at this
          exact this
        · refine ⟨l, _, _, _, rfl, rfl, sql upd_same, at1, _, rfl, D, vs5, rfl, .inl ⟨sql hD6, fun u hu => ⟨by show 2 ≤ sizeLine; decide, fun a ha => ?_⟩⟩⟩
          have := fin false u hu a ha
          rw [show M.nq false = M.q "any" from rfl, ← sq "any"] at this
          exact this
end
end K93
end

section
set_option Elab.async false
set_option linter.all false
set_option maxRecDepth 100000
set_option maxHeartbeats 4000000
/-! k93: the law's texts of conditions. -/
namespace K93
open PySem PySem.Spec PyProof.Rows L2 He HL
section
variable {w : World} {K : PySem.W.Frag} {mg : Str → Option Value} {base : Heap}
abbrev n_law_condition_text : List Str := ["_law_condition_here", "_law_some", "_law_one_here"]
theorem sc_law_condition_text : FnScope n_law_condition_text ["_law_condition_here"] (defScope s_law_condition_text) := ⟨rfl, rfl, rfl, by decide +kernel, rfl, by decide +kernel, by decide +kernel⟩
theorem bi_law_condition_text : ∀ (kV doc pm : Value) (an : Option Addr) (cdv ct : Value) (us : List Value), us.length = 1 → bindArgs (PySem.W.fnOf d_law_condition_text.name d_law_condition_text.qual d_law_condition_text.params d_law_condition_text.body d_law_condition_text.scope .none kV doc pm an cdv ct) ⟨us, []⟩ = pure ([("_law_condition_here" : Str)].zip us) := fun kV doc pm an cdv ct us hu => by
  match us, hu with
  | [u0], _ => rfl
def spCText (n : Nat) : Sp := fun vs H Q _ => ∃ v c, vs = [v] ∧ CAt H c v ∧ M.om c.sh < n ∧ c.sh.length ≤ 1000000 ∧ ∀ H', Same H H' → Q (.str (S c.sh)) H'
theorem o_ctext (W : Wl K mg) : ∀ (n L : Nat), (n = 0 → 1 ≤ L) → (0 < n → n + 1 ≤ L) → OkD w K mg base CX0 L d_law_condition_text ["_law_condition_here"] (spCText n) := by
  intro n
  induction n with
  | zero =>
    intro L h0 h1
    obtain ⟨k, rfl⟩ : ∃ k, L = k + 1 := ⟨L - 1, by have := h0 rfl; omega⟩
    exact o_vac W.D_law_condition_text sc_law_condition_text bi_law_condition_text fun vs H Q E ⟨v, c, _, _, z, _⟩ => by omega
  | succ n ih =>
  intro L h0 h1
  obtain ⟨k, rfl⟩ : ∃ k, L = k + 1 := ⟨L - 1, by have := h1 (by omega); omega⟩
  have hk : n + 1 ≤ k := by have := h1 (by omega); omega
  have O__law_condition_text := ih k (fun _ => by omega) (fun _ => by omega)
  refine HL.ok_of0 W.D_law_condition_text sc_law_condition_text (fun vs H Q E ⟨_, _, h, _⟩ => by rw [h]; rfl) bi_law_condition_text fun cdv A outer s H vs Q E hr h => ?_
  have nd := sc_law_condition_text.nd
  refine ⟨_, (pss_cons (ps_if (pt_cmpR op_in_seq (pe_ix ix_tup (pv 0) pe_int (fun _ _ => rfl)) (pe_tup (pa_cons pe_str (pa_cons pe_str pa_nil))) (by rfl)) (pss_one (ps_ret (pe_ix ix_tup (pv 0) pe_int (fun _ _ => rfl)))) pss_nil)
    (pss_cons (ps_if (pt_cmpR op_eq (pe_ix ix_tup (pv 0) pe_int (fun _ _ => rfl)) pe_str (nomark _)) (pss_one (ps_ret (pe_op op_add_str pe_str (pe_ix ix_tup (pv 0) pe_int (fun _ _ => rfl))))) pss_nil)
    (pss_cons (ps_set (i := 1) nd rfl (Or.inl rfl) (pe_ifExp (pt_cmpR op_eq (pe_ix ix_tup (pv 0) pe_int (fun _ _ => rfl)) pe_str (nomark _)) (pe_lst (pa_cons (pe_ix ix_tup (pv 0) pe_int (fun _ _ => rfl)) pa_nil)) (pe_callTy call_list_of (by rfl) W.f_list (by decide +kernel) (pa_cons (pe_ix ix_tup (pv 0) pe_int (fun _ _ => rfl)) pa_nil))))
    (pss_one (ps_ret (pe_op op_add_str (pe_op op_add_str (pe_op op_add_str (pe_ix ix_tup (pv 0) pe_int (fun _ _ => rfl)) pe_str) (pe_join pe_str (pe_lc (own := [("_law_one_here", 2)]) (g := gName 2) (tt := tYes) (by rfl) nd (pi_list (pv 1)) (blkOk_by (own := [("_law_one_here", 2)]) (N := n_law_condition_text) (sc := defScope s_law_condition_text) (by decide +kernel)) (fun _ _ _ _ _ => pg_name (i := 2) nd rfl (Or.inl rfl)) (fun _ _ _ _ _ => pts_nil) (fun _ _ _ _ _ => (pe_cal O__law_condition_text (hr.mono (by omega)) W.g__law_condition_text pass0 (pa_cons (pv 2) pa_nil)))))) pe_str)))))), ?_⟩
  obtain ⟨v, c, rfl, hc, hom, hlen, hq⟩ := h
  have step : (∃ b, c = .word b) ∨ (∃ x, c = .ask x) ∨ ∃ a w0 x, v = .ref a ∧ H a = some (.tup [.str (S w0), x]) ∧ (["yes", "no"].any fun s => decide (w0 = M.q s)) = false ∧ w0 ≠ M.q "ask" ∧
      ((w0 = M.q "not" ∧ ∃ c1, CAt H c1 x ∧ c.sh = w0 ++ (M.q "(" ++ (TL.joinL (M.q ", ") (M.shC [c1]) ++ M.q ")"))) ∨ (w0 ≠ M.q "not" ∧ ∃ t us cs, x = .ref t ∧ H t = some (.tup us) ∧ All2 (fun v c => CAt H c v) us cs ∧ c.sh = w0 ++ (M.q "(" ++ (TL.joinL (M.q ", ") (M.shC cs) ++ M.q ")")))) := by
    cases c with
    | word b => exact .inl ⟨b, rfl⟩
    | ask x => exact .inr (.inl ⟨x, rfl⟩)
    | neg c1 =>
      unfold CAt at hc
      obtain ⟨a, u, rfl, ha, hu⟩ := hc
      exact .inr (.inr ⟨a, _, u, rfl, ha, by decide, by decide, .inl ⟨rfl, c1, hu, rfl⟩⟩)
    | many b cs =>
      unfold CAt at hc
      obtain ⟨a, t, us, rfl, ha, ht, hu⟩ := hc
      exact .inr (.inr ⟨a, _, _, rfl, ha, by cases b <;> decide, by cases b <;> decide, .inr ⟨by cases b <;> decide, t, us, cs, rfl, ht, cAtL_iff.mp hu, rfl⟩⟩)
  rcases step with ⟨b, rfl⟩ | ⟨x, rfl⟩ | ⟨a, w0, x, rfl, ha, hyn, hask, hx⟩
  · unfold CAt at hc
    obtain ⟨a, rfl, ha⟩ := hc
    refine ⟨_, rfl, a, _, _, _, rfl, rfl, sqt ha, at0, by show 2 ≤ sizeLine; decide, fun t ht => in_words ["yes", "no"] upd_same ⟨_, rfl, ?_⟩⟩
    rw [yq_in]
    exact iteT ⟨_, rfl, a, _, _, _, rfl, rfl, sqt (same_new ht _ _ ha), at0, hq _ (same_new ht)⟩
  · unfold CAt at hc
    obtain ⟨a, rfl, ha⟩ := hc
    refine ⟨_, rfl, a, _, _, _, rfl, rfl, sqt ha, at0, by show 2 ≤ sizeLine; decide, fun t ht => in_words ["yes", "no"] upd_same ⟨_, rfl, ?_⟩⟩
    have ha1 := same_new (o := .tup [V.str "yes", V.str "no"]) ht _ _ ha
    rw [show (["yes", "no"].any fun s => decide (M.q "ask" = M.q s)) = false by decide]
    refine iteF ⟨_, rfl, a, _, _, _, rfl, rfl, sqt ha1, at0, rfl, ?_⟩
    rw [sq "ask", dec_S, decide_eq_true (show M.q "ask" = M.q "ask" from rfl)]
    refine ⟨_, rfl, iteT ⟨_, rfl, a, _, _, _, rfl, rfl, sqt ha1, at1, _, _, rfl, rfl, ?_, ?_⟩⟩
    · rw [ofq, S_len, S_len]
      refine small ?_
      simp only [M.Cond.sh, List.length_append] at hlen
      exact hlen
    · rw [cat_q]
      exact hq _ (same_new ht)
  · refine ⟨_, rfl, a, _, _, _, rfl, rfl, sqt ha, at0, by show 2 ≤ sizeLine; decide, fun t ht => in_words ["yes", "no"] upd_same ⟨_, rfl, ?_⟩⟩
    have s1 : Same H (upd H t (.tup [V.str "yes", V.str "no"])) := same_new ht
    generalize upd H t (.tup [V.str "yes", V.str "no"]) = H1 at s1 ⊢
    have ha1 := s1 _ _ ha
    rw [hyn]
    refine iteF ⟨_, rfl, a, _, _, _, rfl, rfl, sqt ha1, at0, rfl, ?_⟩
    rw [sq "ask", dec_S, decide_eq_false hask]
    refine ⟨_, rfl, iteF ?_⟩
    delta tNext
    dsimp only
    refine sasg_cont (R := fun v1 H2 => ∃ l us cs, v1 = .ref l ∧ Same H1 H2 ∧ H2 l = some (.lst us) ∧ All2 (fun v c => CAt H2 c v) us cs ∧ c.sh = w0 ++ (M.q "(" ++ (TL.joinL (M.q ", ") (M.shC cs) ++ M.q ")"))) ?_ ?_
    · intro Q' hQ'
      refine ⟨_, rfl, a, _, _, _, rfl, rfl, sqt ha1, at0, rfl, ?_⟩
      rw [sq "not", dec_S]
      refine ⟨_, rfl, ?_⟩
      rcases hx with ⟨hw, c1, hc1, hsh⟩ | ⟨hw, t1, us, cs, rfl, ht1, hA, hsh⟩
      · rw [decide_eq_true hw]
        refine iteT ⟨_, rfl, a, _, _, _, rfl, rfl, sqt ha1, at1, by show 1 ≤ sizeLine; decide, fun l hl => hQ' _ _ ⟨l, [x], [c1], rfl, same_new hl, upd_same, ⟨(hc1.keep (.of s1)).keep (.of (same_new hl)), trivial⟩, hsh⟩⟩
      · rw [decide_eq_false hw]
        refine iteF ⟨_, rfl, a, _, _, _, rfl, rfl, sqt ha1, at1, t1, us, rfl, .inr (sqt (s1 _ _ ht1)), fun l hl => hQ' _ _ ⟨l, us, cs, rfl, same_new hl, upd_same, hA.imp fun v c z => (z.keep (.of s1)).keep (.of (same_new hl)), hsh⟩⟩
    · rintro v1 H2 ⟨l, us, cs, rfl, s2, hl, hA, hsh⟩
      have hsz : w0.length + (1 + ((TL.joinL (M.q ", ") (M.shC cs)).length + 1)) ≤ 1000000 := by
        rw [hsh] at hlen
        simpa [show (M.q "(").length = 1 from by decide, show (M.q ")").length = 1 from by decide] using hlen
      have hL := hA.length
      have hus : us.length ≤ 1000000 := by
        have := joinL_len (M.q ", ") (M.shC cs)
        rw [M.shC_map, List.length_map, show (M.q ", ").length = 2 from by decide, ← M.shC_map] at this
        omega
      refine ⟨_, rfl, a, _, _, _, rfl, rfl, sqt (s2 _ _ ha1), at0, _, _, rfl, rfl, ?_, ⟨_, rfl⟩, _, rfl, l, rfl, ⟨us, sql hl⟩, fun D hD => ?_⟩
      · rw [ofq, S_len, S_len]
        refine small ?_
        show w0.length + 1 ≤ _
        omega
      · refine HL.lcL (xs := us) (out := (M.shC cs).map fun y => V.str (S y)) hD (sql hl) (by rw [M.shC_map, List.length_map, List.length_map, hL]) (small hus) (fun k1 x1 y H3 Q3 hx1 hy e3 _ hq3 => ?_) fun H3 e3 hD3 => ?_
        · obtain ⟨c1, hc1, hAt1⟩ := hA.get hx1
          have hmem : c1 ∈ cs := List.mem_of_getElem? hc1
          have hsm : c1.sh ∈ M.shC cs := by
            rw [M.shC_map]
            exact List.mem_map.mpr ⟨c1, hmem, rfl⟩
          have hy : y = V.str (S c1.sh) := by
            rw [M.shC_map, List.getElem?_map, List.getElem?_map, hc1] at hy
            exact (Option.some.inj hy).symm
          subst hy
          refine ⟨_, rfl, x1, c1, rfl, hAt1.keep (.of e3), ?_, ?_, hq3⟩
          · have h5 := om_j (b := M.q ", ") hsm
            have h6 : M.om (TL.joinL (M.q ", ") (M.shC cs)) + 3 ≤ M.om c.sh := by
              rw [hsh, M.om_app, M.om_app, M.om_app, show M.om (M.q "(") = 3 from by decide]
              omega
            omega
          · have h5 := len_j (b := M.q ", ") hsm
            omega
        · have hj : Txt.join (Str.ofString ", ") ((M.shC cs).map S) = S (TL.joinL (M.q ", ") (M.shC cs)) := by
            rw [ofq]
            exact SX.join_S _ _
          refine ⟨_, D, (M.shC cs).map S, rfl, rfl, .inl (sql (by rw [hD3, List.map_map] <;> rfl)), ?_, ?_⟩
          · have h5 := joinL_len (M.q ", ") (M.shC cs)
            have h6 : (Str.ofString ", ").length = 2 := by rw [ofq, S_len]; rfl
            have h7 : (M.q ", ").length = 2 := by decide
            rw [List.map_map, List.length_map, h6, show (((fun x : Str => x.length) ∘ S) : List Nat → Nat) = fun x => x.length from funext fun x => S_len x]
            rw [h7] at h5
            omega
          · rw [hj]
            refine ⟨_, _, rfl, rfl, ?_, ?_⟩
            · rw [ofq, S_cat, S_len, S_len]
              refine small ?_
              rw [List.length_append]
              show w0.length + 1 + _ ≤ _
              omega
            · refine ⟨_, _, rfl, rfl, ?_, ?_⟩
              · rw [ofq, ofq, S_cat, S_cat, S_len, S_len]
                refine small ?_
                rw [List.length_append, List.length_append]
                show w0.length + 1 + _ + 1 ≤ _
                omega
              · rw [ofq, ofq, S_cat, S_cat, S_cat]
                have := hq H3 ((s1.trans s2).trans e3)
                rw [hsh] at this
                simpa [M.q, List.append_assoc] using this
end
end K93
end

section
set_option Elab.async false
set_option linter.all false
set_option maxRecDepth 100000
set_option maxHeartbeats 8000000
/-! k93: the law's reader of parts, whole texts. -/
namespace K93
open PySem PySem.Spec PyProof.Rows L2 He HL
section
variable {w : World} {K : PySem.W.Frag} {mg : Str → Option Value} {base : Heap}
abbrev n_law_whole : List Str := ["_law_text_here", "_law_found"]
theorem sc_law_whole : FnScope n_law_whole ["_law_text_here", "_law_found"] (defScope s_law_whole) := ⟨rfl, rfl, rfl, by decide +kernel, rfl, by decide +kernel, by decide +kernel⟩
theorem bi_law_whole : ∀ (kV doc pm : Value) (an : Option Addr) (cdv ct : Value) (us : List Value), us.length = 2 → bindArgs (PySem.W.fnOf d_law_whole.name d_law_whole.qual d_law_whole.params d_law_whole.body d_law_whole.scope .none kV doc pm an cdv ct) ⟨us, []⟩ = pure ([("_law_text_here" : Str), ("_law_found" : Str)].zip us) := fun kV doc pm an cdv ct us hu => by
  match us, hu with
  | [u0, u1], _ => rfl
/-- ('told', x) or ('none', None) -/
def spWhole : Sp := fun vs H Q _ => ∃ t x, vs = [.str (S t), x] ∧ t.length ≤ 1000000 ∧
  ((x = .non ∧ ∀ p, H p = none → Q (.ref p) (upd H p (.tup [.str "none", .non]))) ∨
    ∃ u v j r, x = .ref u ∧ H u = some (.tup [v, .int (j : Nat)]) ∧ Ps t j r ∧ (r = [] → ∀ p, H p = none → Q (.ref p) (upd H p (.tup [.str "told", v]))) ∧ (r ≠ [] → ∀ p, H p = none → Q (.ref p) (upd H p (.tup [.str "none", .non]))))
theorem o_whole (W : Wl K mg) : OkD w K mg base CX0 1 d_law_whole ["_law_text_here", "_law_found"] spWhole := by
  refine HL.ok_of0 W.D_law_whole sc_law_whole (fun vs H Q E ⟨_, _, h, _⟩ => by rw [h]; rfl) bi_law_whole fun cdv A outer s H vs Q E hr h => ?_
  have nd := sc_law_whole.nd
  refine ⟨_, (pss_one (ps_ret (pe_ifExp (PW.pt (pw_and (pt_cmpR op_notN (pv 1) pe_non (nomark _)) (pw_and1 (pt_cmpR op_eq (pe_ix ix_tup (pv 1) pe_int (fun _ _ => rfl)) (pe_callB call_len_str (by rfl) W.f_len (by decide +kernel) (pa_cons (pv 0) pa_nil)) (nomark _))))) (pe_tup (pa_cons pe_str (pa_cons (pe_ix ix_tup (pv 1) pe_int (fun _ _ => rfl)) pa_nil))) (pe_tup (pa_cons pe_str (pa_cons pe_non pa_nil)))))), ?_⟩
  obtain ⟨t, x, rfl, hs, ⟨rfl, hq⟩ | ⟨u, v, j, r, rfl, hu, hP, hT, hF⟩⟩ := h
  · exact ⟨_, rfl, rfl, _, rfl, iteE false rfl (iteF ⟨by show 2 ≤ sizeLine; decide, fun p hp => hq p hp⟩)⟩
  · have tl : (S t).length ≤ sizeLine := by rw [S_len]; exact small hs
    refine ⟨_, rfl, rfl, _, rfl, iteE true (by rw [ref_non] <;> rfl) (iteT ⟨_, rfl, u, _, _, _, rfl, rfl, sqt hu, at1, _, rfl, _, rfl, tl, rfl, _, rfl, ?_⟩)⟩
    by_cases hr : r = []
    · have hj := hP.all.mpr hr
      refine iteE true (decide_eq_true (by rw [S_len, hj])) (iteT ⟨_, rfl, u, _, _, _, rfl, rfl, sqt hu, at0, by show 2 ≤ sizeLine; decide, fun p hp => hT hr p hp⟩)
    · have hj : j ≠ t.length := fun z => hr (hP.all.mp z)
      refine iteE false (decide_eq_false (fun z => hj (by injection z with z; rw [S_len] at z; omega))) (iteF ⟨by show 2 ≤ sizeLine; decide, fun p hp => hF hr p hp⟩)
end
end K93
end

section
set_option Elab.async false
set_option linter.all false
set_option maxRecDepth 100000
set_option maxHeartbeats 4000000
/-! k93: the parts drawn. -/
namespace K93
open PySem PySem.Spec PyProof.Rows L2 He HL
theorem joinN {f : List Nat → Nat} (hf0 : f [] = 0) (hf : ∀ a b, f (a ++ b) = f a + f b) {b : List Nat} {k : Nat} : ∀ {ys : List (List Nat)}, (∀ y ∈ ys, f y ≤ k) → f (TL.joinL b ys) ≤ ys.length * (k + f b)
  | [], _ => by simp [TL.joinL, hf0]
  | [x], h => by
    have := h x (by simp)
    simp only [TL.joinL, List.length_cons, List.length_nil]
    omega
  | x :: y :: r, h => by
    have h1 := h x (by simp)
    have ih := joinN hf0 hf (b := b) (k := k) (ys := y :: r) fun z hz => h z (by simp [List.mem_cons.mp hz])
    have e : TL.joinL b (x :: y :: r) = x ++ (b ++ TL.joinL b (y :: r)) := rfl
    rw [e, hf, hf, List.length_cons, Nat.succ_mul]
    omega
theorem num_small : ∀ k, k < 200 → (TL.numL k).length ≤ 3 ∧ M.om (TL.numL k) = 0 := by decide +kernel
end K93
end

section
set_option Elab.async false
set_option linter.all false
set_option maxRecDepth 100000
set_option maxHeartbeats 4000000
/-! k93: the texts drawn and spoilt. -/
namespace K93
open PySem PySem.Spec PyProof.Rows L2 He HL
section
variable {w : World} {K : PySem.W.Frag} {mg : Str → Option Value} {base : Heap}
theorem PAt.isTup {H : Hp} {p : M.Part} {v : V} (h : PAt H p v) : ∃ a xs, v = .ref a ∧ H a = some (.tup xs) := by
  cases p with
  | back => unfold PAt at h; obtain ⟨a, r, h⟩ := h; exact ⟨a, _, r, h⟩
  | leave k => unfold PAt at h; obtain ⟨a, r, h⟩ := h; exact ⟨a, _, r, h⟩
  | step n => unfold PAt at h; obtain ⟨a, r, h⟩ := h; exact ⟨a, _, r, h⟩
  | call n => unfold PAt at h; obtain ⟨a, r, h⟩ := h; exact ⟨a, _, r, h⟩
  | row ps => unfold PAt at h; obtain ⟨a, t, us, r, h, _⟩ := h; exact ⟨a, _, r, h⟩
  | whil c p => unfold PAt at h; obtain ⟨a, u, x, r, h, _⟩ := h; exact ⟨a, _, r, h⟩
  | ite c p q => unfold PAt at h; obtain ⟨a, u, x, y, r, h, _⟩ := h; exact ⟨a, _, r, h⟩
theorem CAt.isTup {H : Hp} {p : M.Cond} {v : V} (h : CAt H p v) : ∃ a xs, v = .ref a ∧ H a = some (.tup xs) := by
  cases p with
  | word b => unfold CAt at h; obtain ⟨a, r, h⟩ := h; exact ⟨a, _, r, h⟩
  | ask n => unfold CAt at h; obtain ⟨a, r, h⟩ := h; exact ⟨a, _, r, h⟩
  | neg c => unfold CAt at h; obtain ⟨a, u, r, h, _⟩ := h; exact ⟨a, _, r, h⟩
  | many b cs => unfold CAt at h; obtain ⟨a, t, us, r, h, _⟩ := h; exact ⟨a, _, r, h⟩
/-- no text, and none later -/
def NoTx (H : Hp) (b : Addr) (v : V) : Prop := v = .non ∨ (∃ i, v = .int i) ∨ (∃ a xs, v = .ref a ∧ H a = some (.tup xs)) ∨ ∃ a xs, v = .ref a ∧ H a = some (.lst xs) ∧ a ≠ b
theorem NoTx.no {H : Hp} {b : Addr} {v : V} (h : NoTx H b v) : NoStr K H v := by
  rcases h with rfl | ⟨i, rfl⟩ | ⟨a, xs, rfl, h⟩ | ⟨a, xs, rfl, h, _⟩
  · exact ⟨_, .base .non, kit_ty (by decide +kernel)⟩
  · exact ⟨_, .base (.int i), kit_ty (by decide +kernel)⟩
  · exact ⟨_, ty_tup h, kit_ty (by decide +kernel)⟩
  · exact ⟨_, .base (.lst h), kit_ty (by decide +kernel)⟩
theorem NoTx.keepB {H H' : Hp} {b c : Addr} {v : V} (h : NoTx H b v) (hB : Bag H b c) (e : SameB b H H') : NoTx H' b v := by
  rcases h with rfl | ⟨i, rfl⟩ | ⟨a, xs, rfl, h⟩ | ⟨a, xs, rfl, h, n⟩
  · exact .inl rfl
  · exact .inr (.inl ⟨i, rfl⟩)
  · exact .inr (.inr (.inl ⟨a, xs, rfl, hB.tup e _ _ h⟩))
  · exact .inr (.inr (.inr ⟨a, xs, rfl, e _ _ h n, n⟩))
/-- a text to read, or none -/
def Tx (H : Hp) (b : Addr) (v : V) : Prop := (∃ s, v = .str (S s) ∧ s.length ≤ 1000 ∧ M.om s ≤ 130 ∧ s.count 43 ≤ 60) ∨ NoTx H b v
abbrev n_law_spoilt : List Str := ["_law_bag_here", "_law_text_here", "_law_at", "_law_way", "_law_words", "_law_size"]
theorem sc_law_spoilt : FnScope n_law_spoilt ["_law_bag_here", "_law_text_here"] (defScope s_law_spoilt) := ⟨rfl, rfl, rfl, by decide +kernel, rfl, by decide +kernel, by decide +kernel⟩
theorem bi_law_spoilt : ∀ (kV doc pm : Value) (an : Option Addr) (cdv ct : Value) (us : List Value), us.length = 2 → bindArgs (PySem.W.fnOf d_law_spoilt.name d_law_spoilt.qual d_law_spoilt.params d_law_spoilt.body d_law_spoilt.scope .none kV doc pm an cdv ct) ⟨us, []⟩ = pure ([("_law_bag_here" : Str), ("_law_text_here" : Str)].zip us) := fun kV doc pm an cdv ct us hu => by
  match us, hu with
  | [u0, u1], _ => rfl
def wordsS : List String := [" ", "(", ")", "[", "]", ", ", "; ", ": ", "?", "yes", "no", "not(", "all()", "do a", "call ", "back", "+", "leave 1", "leave 0", "leave 01", "0", "1", "if yes then ", " else back", "while no: ", "> ", "A", "a", ".", ":", "-", "\n", "[]", "always ", "makes a "]
theorem wordsS_ok : ∀ s ∈ wordsS, (M.q s).length ≤ 20 ∧ M.om (M.q s) ≤ 3 ∧ (M.q s).count 43 ≤ 1 := by
  have h : (wordsS.all fun s => decide ((M.q s).length ≤ 20) && (decide (M.om (M.q s) ≤ 3) && decide ((M.q s).count 43 ≤ 1))) = true := by decide +kernel
  intro s hs
  have := List.all_eq_true.mp h s hs
  simpa using this
def spSpoilt : Sp := fun vs H Q _ => ∃ b c s, vs = [.ref b, .str (S s)] ∧ Bag H b c ∧ s.length ≤ 10000 ∧ ∀ s' H', SameB b H H' → Bag H' b c → s'.length ≤ s.length + 20 → M.om s' ≤ M.om s + 3 → s'.count 43 ≤ s.count 43 + 1 → Q (.str (S s')) H'
theorem o_spoilt (W : Wl K mg) : OkD w K mg base CX0 3 d_law_spoilt ["_law_bag_here", "_law_text_here"] spSpoilt := by
  have O__law_take := o_take (w := w) (base := base) W
  have O__law_one := o_one (w := w) (base := base) W
  refine HL.ok_of0 W.D_law_spoilt sc_law_spoilt (fun vs H Q E ⟨_, _, _, h, _⟩ => by rw [h]; rfl) bi_law_spoilt fun cdv A outer s H vs Q E hr h => ?_
  have nd := sc_law_spoilt.nd
  refine ⟨_, (pss_cons (ps_par (i := 2) (j := 3) (by rfl) nd rfl rfl (by decide) rfl rfl (pa_cons (pe_cal O__law_take (hr.mono (by omega)) W.g__law_take pass0 (pa_cons (pv 0) (pa_cons (pe_op op_add (pe_callB call_len_str (by rfl) W.f_len (by decide +kernel) (pa_cons (pv 1) pa_nil)) pe_int) pa_nil))) (pa_cons (pe_cal O__law_take (hr.mono (by omega)) W.g__law_take pass0 (pa_cons (pv 0) (pa_cons pe_int pa_nil))) pa_nil)) (by rfl))
    (pss_cons (ps_set (i := 4) nd rfl (Or.inl rfl) (pe_lst (pa_cons pe_str (pa_cons pe_str (pa_cons pe_str (pa_cons pe_str (pa_cons pe_str (pa_cons pe_str (pa_cons pe_str (pa_cons pe_str (pa_cons pe_str (pa_cons pe_str (pa_cons pe_str (pa_cons pe_str (pa_cons pe_str (pa_cons pe_str (pa_cons pe_str (pa_cons pe_str (pa_cons pe_str pa_nil)))))))))))))))))))
    (pss_cons (ps_set (i := 4) nd rfl (Or.inl rfl) (pe_op op_cat (pv 4) (pe_lst (pa_cons pe_str (pa_cons pe_str (pa_cons pe_str (pa_cons pe_str (pa_cons pe_str (pa_cons pe_str (pa_cons pe_str (pa_cons pe_str (pa_cons pe_str (pa_cons pe_str pa_nil)))))))))))))
    (pss_cons (ps_set (i := 4) nd rfl (Or.inl rfl) (pe_op op_cat (pv 4) (pe_lst (pa_cons pe_str (pa_cons pe_str (pa_cons pe_str (pa_cons pe_str (pa_cons pe_str (pa_cons pe_str (pa_cons pe_str (pa_cons pe_str pa_nil)))))))))))
    (pss_cons (ps_if (pt_cmpR op_lt (pv 3) pe_int (nomark _)) (pss_one (ps_ret (pe_op op_add_str (pe_op op_add_str (pe_slice sl_str (pv 1) po_none (po_some (pv 2))) (pe_cal O__law_one (hr.mono (by omega)) W.g__law_one pass0 (pa_cons (pv 0) (pa_cons (pv 4) pa_nil)))) (pe_slice sl_str (pv 1) (po_some (pv 2)) po_none)))) pss_nil)
    (pss_cons (ps_set (i := 5) nd rfl (Or.inl rfl) (pe_op op_add pe_int (pe_cal O__law_take (hr.mono (by omega)) W.g__law_take pass0 (pa_cons (pv 0) (pa_cons pe_int pa_nil)))))
    (pss_cons (ps_if (pt_cmpR op_lt (pv 3) pe_int (nomark _)) (pss_one (ps_ret (pe_op op_add_str (pe_slice sl_str (pv 1) po_none (po_some (pv 2))) (pe_slice sl_str (pv 1) (po_some (pe_op op_add (pv 2) (pv 5))) po_none)))) pss_nil)
    (pss_cons (ps_if (pt_cmpR op_eq (pv 3) pe_int (nomark _)) (pss_one (ps_ret (pe_op op_add_str (pe_op op_add_str (pe_slice sl_str (pv 1) po_none (po_some (pv 2))) (pe_cal O__law_one (hr.mono (by omega)) W.g__law_one pass0 (pa_cons (pv 0) (pa_cons (pv 4) pa_nil)))) (pe_slice sl_str (pv 1) (po_some (pe_op op_add (pv 2) (pv 5))) po_none)))) pss_nil)
    (pss_one (ps_ret (pe_op op_add_str (pe_slice sl_str (pv 1) (po_some (pv 2)) po_none) (pe_slice sl_str (pv 1) po_none (po_some (pv 2)))))))))))))), ?_⟩
  obtain ⟨b, c, s, rfl, hB, hs, hq⟩ := h
  have sl : (S s).length ≤ sizeLine := by rw [S_len]; exact small (by omega)
  have e1 : (((S s).length : Nat) : Int) + 1 = ((s.length + 1 : Nat) : Int) := by rw [S_len]; omega
  refine ⟨_, rfl, _, rfl, _, rfl, sl, _, _, rfl, rfl, b, c, s.length + 1, (congrArg (fun z => [V.ref b, V.int z]) e1), by omega, by omega, hB, fun i H1 hi e1 hB1 => ?_⟩
  refine ⟨_, rfl, b, c, 7, rfl, by decide, by decide, hB1, fun way H2 hway e2 hB2 => ⟨_, _, rfl, ?_⟩⟩
  have e02 : SameB b H H2 := e1.trans e2
  refine ⟨by show 17 ≤ sizeLine; decide, fun w1 hw1 => ?_⟩
  refine ⟨_, rfl, by show 10 ≤ sizeLine; decide, fun w2 hw2 => ?_⟩
  refine ⟨w1, w2, _, _, rfl, rfl, same_new hw2 _ _ upd_same, upd_same, by show 27 ≤ sizeLine; decide, fun w3 hw3 => ?_⟩
  refine ⟨_, rfl, by show 8 ≤ sizeLine; decide, fun w4 hw4 => ?_⟩
  refine ⟨w3, w4, _, _, rfl, rfl, same_new hw4 _ _ upd_same, upd_same, by show 35 ≤ sizeLine; decide, fun w5 hw5 => ?_⟩
  refine (fun (K5 : ∀ H5, Same H2 H5 → H5 w5 = some (HO.lst (wordsS.map fun s => V.str (Str.ofString s))) → w5 ≠ b → gName 4 (.ref w5) _ H5 _) => K5 _ ((((same_new hw1).trans (same_new hw2)).trans (same_new hw3)).trans ((same_new hw4).trans (same_new hw5))) upd_same
    ((hB2.keep ((((same_new hw1).trans (same_new hw2)).trans (same_new hw3)).trans (same_new hw4))).ne hw5).1) ?_
  intro H5 s5 hw5v nw5
  have hB5 := hB2.keep s5
  have e05 : SameB b H H5 := e02.trans (.of s5)
  have words : ∀ (H6 : Hp) (Q' : VK) (E' : XK), SameB b H5 H6 → Bag H6 b c → (∀ x : List Nat, x.length ≤ 20 → M.om x ≤ 3 → x.count 43 ≤ 1 → ∀ H', SameB b H6 H' → Bag H' b c → Q' (.str (S x)) H') → spOne K [.ref b, .ref w5] H6 Q' E' := fun H6 Q' E' e6 hB6 h =>
    ⟨b, c, w5, _, rfl, hB6, by decide, by decide, .inl fun H' e => sql (e _ _ (e6 _ _ hw5v nw5) nw5), fun x hx H' e hB' => by
      obtain ⟨st, hst, rfl⟩ := List.mem_map.mp hx
      obtain ⟨h1, h2, h3⟩ := wordsS_ok st hst
      rw [sq st]
      exact h _ h1 h2 h3 H' e hB'⟩
  have otd : ∀ j, M.om (s.take j) + M.om (s.drop j) = M.om s := fun j => by
    rw [← M.om_app, List.take_append_drop]
  have ctd : ∀ j, (s.take j).count 43 + (s.drop j).count 43 = s.count 43 := fun j => by
    rw [← List.count_append, List.take_append_drop]
  have cdd : ∀ j k, (s.drop (j + k)).count 43 ≤ (s.drop j).count 43 := fun j k => by
    rw [← List.drop_drop]
    exact (List.drop_sublist k (s.drop j)).count_le 43
  have ltd : ∀ j, (s.take j).length ≤ s.length := fun j => by rw [List.length_take]; omega
  have ldd : ∀ j, (s.drop j).length ≤ s.length := fun j => by rw [List.length_drop]; omega
  have ltt : ∀ j, (s.take j).length + (s.drop j).length = s.length := fun j => by rw [← List.length_append, List.take_append_drop]
  have odd : ∀ j k, M.om (s.drop (j + k)) ≤ M.om (s.drop j) ∧ (s.drop (j + k)).length ≤ (s.drop j).length := fun j k => by
    rw [← List.drop_drop]
    refine ⟨om_suf (a := (s.drop j).take k) (by rw [List.take_append_drop]), by rw [List.length_drop]; omega⟩
  dsimp only [gName]
  refine sif (way < 3) (fun Q' hQ' => ?_) (fun h3 H6 e6 => ?_) (fun h3 H6 e6 => ?_)
  · refine ⟨_, rfl, _, _, rfl, rfl, _, rfl, ?_⟩
    have := hQ' H5 (Same.refl _)
    rwa [show decide (way < 3) = decide (((way : Nat) : Int) < 3) from decide_eq_decide.mpr (by omega)] at this
  · refine ⟨_, rfl, _, rfl, _, rfl, _, rfl, sl, ?_⟩
    rw [cut_j]
    refine ⟨_, rfl, _, rfl, words H6 _ L2.E0 (.of e6) (hB5.keep e6) fun x hx1 hx2 hx3 H7 e7 hB7 => ⟨_, _, rfl, rfl, ?_, _, rfl, _, rfl, _, rfl, _, rfl, sl, ?_⟩⟩
    · rw [S_len, S_len]
      have := ltd i
      exact small (by omega)
    · rw [S_cat, cut_i]
      refine ⟨_, _, rfl, rfl, ?_, ?_⟩
      · rw [S_len, S_len, List.length_append]
        have := ltt i
        exact small (by omega)
      · rw [S_cat]
        refine hq _ H7 (e05.trans ((SameB.of e6).trans e7)) hB7 ?_ ?_ ?_
        · have := ltt i
          simp only [List.length_append]
          omega
        · have := otd i
          simp only [M.om_app]
          omega
        · have c1 := ctd i
          have c2 := fun k => cdd i k
          simp only [List.count_append]
          first
            | omega
            | (have c3 := c2 (1 + n); omega)
  have hB6 := hB5.keep e6
  refine ⟨_, rfl, b, c, 4, rfl, by decide, by decide, hB6, fun n H7 hn e7 hB7 => ⟨_, _, rfl, rfl, ?_⟩⟩
  have e57 : SameB b H5 H7 := (SameB.of e6).trans e7
  have e9 : ((i : Nat) : Int) + (1 + ((n : Nat) : Int)) = ((i + (1 + n) : Nat) : Int) := by omega
  dsimp only [gName]
  refine sif (way < 5) (fun Q' hQ' => ?_) (fun h5 H8 e8 => ?_) (fun h5 H8 e8 => ?_)
  · refine ⟨_, rfl, _, _, rfl, rfl, _, rfl, ?_⟩
    have := hQ' H7 (Same.refl _)
    rwa [show decide (way < 5) = decide (((way : Nat) : Int) < 5) from decide_eq_decide.mpr (by omega)] at this
  · refine ⟨_, rfl, _, rfl, _, rfl, _, rfl, sl, ?_⟩
    rw [cut_j]
    refine ⟨_, rfl, _, rfl, _, rfl, _, _, rfl, rfl, _, congrArg V.int e9, _, rfl, sl, ?_⟩
    rw [cut_i]
    have h1 := odd i (1 + n)
    have h2 := ltt i
    have h3' := otd i
    refine ⟨_, _, rfl, rfl, ?_, ?_⟩
    · rw [S_len, S_len]
      exact small (by omega)
    · rw [S_cat]
      refine hq _ H8 (e05.trans (e57.trans (.of e8))) (hB7.keep e8) ?_ ?_ ?_
      · simp only [List.length_append]
        omega
      · simp only [M.om_app]
        omega
      · have c1 := ctd i
        have c3 := cdd i (1 + n)
        simp only [List.count_append]
        omega
  have hB8 := hB7.keep e8
  have e58 := e57.trans (SameB.of e8)
  refine sif (way = 5) (fun Q' hQ' => ?_) (fun h6 H9 e9' => ?_) (fun h6 H9 e9' => ?_)
  · refine ⟨_, rfl, rfl, _, rfl, ?_⟩
    have := hQ' H8 (Same.refl _)
    rwa [show decide (way = 5) = decide (V.int ((way : Nat) : Int) = V.int 5) from decide_eq_decide.mpr ⟨fun z => by rw [z] <;> rfl, fun z => by injection z with z; omega⟩] at this
  · refine ⟨_, rfl, _, rfl, _, rfl, _, rfl, sl, ?_⟩
    rw [cut_j]
    refine ⟨_, rfl, _, rfl, words H9 _ L2.E0 (e58.trans (.of e9')) (hB8.keep e9') fun x hx1 hx2 hx3 H10 e10 hB10 => ⟨_, _, rfl, rfl, ?_, _, rfl, _, rfl, _, rfl, _, _, rfl, rfl, _, congrArg V.int e9, _, rfl, sl, ?_⟩⟩
    · rw [S_len, S_len]
      have := ltd i
      exact small (by omega)
    · rw [S_cat, cut_i]
      have h1 := odd i (1 + n)
      have h2 := ltt i
      have h3' := otd i
      refine ⟨_, _, rfl, rfl, ?_, ?_⟩
      · rw [S_len, S_len, List.length_append]
        exact small (by omega)
      · rw [S_cat]
        refine hq _ H10 (e05.trans (e58.trans ((SameB.of e9').trans e10))) hB10 ?_ ?_ ?_
        · simp only [List.length_append]
          omega
        · simp only [M.om_app]
          omega
        · have c1 := ctd i
          have c3 := cdd i (1 + n)
          simp only [List.count_append]
          omega
  · refine ⟨_, rfl, _, rfl, _, rfl, _, rfl, sl, ?_⟩
    rw [cut_i]
    refine ⟨_, rfl, _, rfl, _, rfl, _, rfl, sl, ?_⟩
    rw [cut_j]
    have h2 := ltt i
    have h3' := otd i
    refine ⟨_, _, rfl, rfl, ?_, ?_⟩
    · rw [S_len, S_len]
      exact small (by omega)
    · rw [S_cat]
      refine hq _ H9 (e05.trans (e58.trans (.of e9'))) (hB8.keep e9') ?_ ?_ ?_
      · simp only [List.length_append]
        omega
      · simp only [M.om_app]
        omega
      · have c1 := ctd i
        have c3 := cdd i (1 + n)
        simp only [List.count_append]
        omega
end
end K93
end

section
set_option Elab.async false
set_option linter.all false
set_option maxRecDepth 100000
set_option maxHeartbeats 4000000
set_option exponentiation.threshold 3000
/-! k93: how deep the data are, how long they are shown. -/
namespace K93
open PySem PySem.Spec PyProof.Rows L2 He HL M TL
mutual
theorem cd_deep : ∀ c : Cond, (cd c).depth ≤ om c.sh + 1
  | .word b => by
    unfold cd
    simp [PyData.depth, PyData.depthAll]
  | .ask n => by
    unfold cd
    simp [PyData.depth, PyData.depthAll]
  | .neg c => by
    have ih := cd_deep c
    unfold cd
    have e : om (Cond.neg c).sh = om c.sh + 3 := by
      show om (q "not" ++ (q "(" ++ (c.sh ++ q ")"))) = _
      rw [om_app, om_app, om_app, show om (q "not") = 0 from by decide, show om (q "(") = 3 from by decide, show om (q ")") = 0 from by decide]
      omega
    simp only [PyData.depth, PyData.depthAll]
    omega
  | .many b cs => by
    have ih := cdL_deep cs
    unfold cd
    have e : om (joinL (q ", ") (shC cs)) + 3 ≤ om (Cond.many b cs).sh := by
      show _ ≤ om (nq b ++ (q "(" ++ (joinL (q ", ") (shC cs) ++ q ")")))
      rw [om_app, om_app, om_app, show om (q "(") = 3 from by decide]
      omega
    simp only [PyData.depth, PyData.depthAll]
    omega
theorem cdL_deep : ∀ cs : List Cond, PyData.depthAll (cdL cs) ≤ om (joinL (q ", ") (shC cs)) + 1
  | [] => by
    unfold cdL
    simp [PyData.depthAll]
  | [c] => by
    have ih := cd_deep c
    simp only [cdL, PyData.depthAll, shC, joinL]
    omega
  | c :: d :: cs => by
    have ih := cd_deep c
    have ih2 := cdL_deep (d :: cs)
    unfold cdL
    have e : joinL (q ", ") (shC (c :: d :: cs)) = c.sh ++ (q ", " ++ joinL (q ", ") (shC (d :: cs))) := rfl
    rw [e, om_app, om_app]
    simp only [PyData.depthAll]
    omega
end
mutual
theorem pd_deep : ∀ c : Part, (pd c).depth ≤ om c.sh + 1
  | .back => by
    unfold pd
    simp [PyData.depth, PyData.depthAll]
  | .leave k => by
    unfold pd
    simp [PyData.depth, PyData.depthAll]
  | .step n => by
    unfold pd
    simp [PyData.depth, PyData.depthAll]
  | .call n => by
    unfold pd
    simp [PyData.depth, PyData.depthAll]
  | .row cs => by
    have ih := pdL_deep cs
    unfold pd
    have e : om (joinL (q "; ") (shP cs)) + 3 ≤ om (Part.row cs).sh := by
      show _ ≤ om (q "[" ++ (joinL (q "; ") (shP cs) ++ q "]"))
      rw [om_app, om_app, show om (q "[") = 3 from by decide]
      omega
    simp only [PyData.depth, PyData.depthAll]
    omega
  | .whil c p => by
    have ih := cd_deep c
    have ih2 := pd_deep p
    unfold pd
    have e : om c.sh + om p.sh + 2 ≤ om (Part.whil c p).sh := by
      show _ ≤ om (q "while " ++ (c.sh ++ (q ": " ++ p.sh)))
      rw [om_app, om_app, om_app, show om (q "while ") = 1 from by decide, show om (q ": ") = 1 from by decide]
      omega
    simp only [PyData.depth, PyData.depthAll]
    omega
  | .ite c p r => by
    have ih := cd_deep c
    have ih2 := pd_deep p
    have ih3 := pd_deep r
    unfold pd
    have e : om c.sh + om p.sh + om r.sh + 5 ≤ om (Part.ite c p r).sh := by
      show _ ≤ om (q "if " ++ (c.sh ++ (q " then " ++ (p.sh ++ (q " else " ++ r.sh)))))
      rw [om_app, om_app, om_app, om_app, om_app, show om (q "if ") = 1 from by decide, show om (q " then ") = 2 from by decide, show om (q " else ") = 2 from by decide]
      omega
    simp only [PyData.depth, PyData.depthAll]
    omega
theorem pdL_deep : ∀ cs : List Part, PyData.depthAll (pdL cs) ≤ om (joinL (q "; ") (shP cs)) + 1
  | [] => by
    unfold pdL
    simp [PyData.depthAll]
  | [c] => by
    have ih := pd_deep c
    simp only [pdL, PyData.depthAll, shP, joinL]
    omega
  | c :: d :: cs => by
    have ih := pd_deep c
    have ih2 := pdL_deep (d :: cs)
    unfold pdL
    have e : joinL (q "; ") (shP (c :: d :: cs)) = c.sh ++ (q "; " ++ joinL (q "; ") (shP (d :: cs))) := rfl
    rw [e, om_app, om_app]
    simp only [PyData.depthAll]
    omega
end
/-! ### showable -/
mutual
theorem cd_show : ∀ c : Cond, (cd c).showable = true
  | .word b => by
    unfold cd
    simp [PyData.showable, PyData.showableAll]
  | .ask n => by
    unfold cd
    simp [PyData.showable, PyData.showableAll]
  | .neg c => by
    unfold cd
    simp [PyData.showable, PyData.showableAll, cd_show c]
  | .many b cs => by
    unfold cd
    simp [PyData.showable, PyData.showableAll, cdL_show cs]
theorem cdL_show : ∀ cs : List Cond, PyData.showableAll (cdL cs) = true
  | [] => by
    unfold cdL
    simp [PyData.showableAll]
  | c :: cs => by
    unfold cdL
    simp [PyData.showableAll, cd_show c, cdL_show cs]
end
theorem num_log' {k : Nat} (h : k < 1000000000) : (k : Int).natAbs.log2 < 1920 := by
  show k.log2 < 1920
  by_cases h0 : k = 0
  · rw [h0]
    decide
  · rw [Nat.log2_lt h0]
    exact Nat.lt_of_lt_of_le h (Nat.le_trans (show 1000000000 ≤ 2 ^ 30 by decide) (Nat.pow_le_pow_right (by decide) (by decide)))
mutual
theorem pd_show : ∀ c : Part, c.wf → (pd c).showable = true
  | .back, _ => by
    unfold pd
    simp [PyData.showable, PyData.showableAll]
  | .leave k, h => by
    unfold pd
    have := num_log' (show k < 1000000000 from by simpa [Part.wf] using h)
    simp only [PyData.showable, PyData.showableAll, decide_eq_true this, Bool.and_true]
  | .step n, _ => by
    unfold pd
    simp [PyData.showable, PyData.showableAll]
  | .call n, _ => by
    unfold pd
    simp [PyData.showable, PyData.showableAll]
  | .row cs, h => by
    unfold pd
    simp [PyData.showable, PyData.showableAll, pdL_show cs (by simpa [Part.wf] using h)]
  | .whil c p, h => by
    have h1 : c.wf ∧ p.wf := by simpa [Part.wf] using h
    unfold pd
    simp [PyData.showable, PyData.showableAll, cd_show c, pd_show p h1.2]
  | .ite c p r, h => by
    have h1 : c.wf ∧ p.wf ∧ r.wf := by simpa [Part.wf] using h
    unfold pd
    simp [PyData.showable, PyData.showableAll, cd_show c, pd_show p h1.2.1, pd_show r h1.2.2]
theorem pdL_show : ∀ cs : List Part, wfP cs → PyData.showableAll (pdL cs) = true
  | [], _ => by
    unfold pdL
    simp [PyData.showableAll]
  | c :: cs, h => by
    have h1 : c.wf ∧ wfP cs := by simpa [wfP] using h
    unfold pdL
    simp [PyData.showableAll, pd_show c h1.1, pdL_show cs h1.2]
end
/-! ### lengths -/
theorem rt_len {l : List Nat} (h : PyData.strOk (HL.S l) = true) : (reprText (HL.S l)).length ≤ 10 * l.length + 2 := by
  have := StrLaws.reprText_len (HL.S l) fun c hc => by
    unfold PyData.strOk at h
    rw [Array.all_eq_true'] at h
    have h2 := of_decide_eq_true (h c (by simpa using hc))
    exact Nat.lt_of_lt_of_le h2 (by decide)
  rw [HL.S_len] at this
  exact this
theorem tt1 (a : Str) : (tupleText [a]).length ≤ a.length + 5 := by
  have := tupleText_len_le [a]
  simp at this
  omega
theorem tt2 (a b : Str) : (tupleText [a, b]).length ≤ a.length + b.length + 7 := by
  have := tupleText_len_le [a, b]
  simp at this
  omega
theorem tt3 (a b c : Str) : (tupleText [a, b, c]).length ≤ a.length + b.length + c.length + 9 := by
  have := tupleText_len_le [a, b, c]
  simp at this
  omega
theorem tt4 (a b c d : Str) : (tupleText [a, b, c, d]).length ≤ a.length + b.length + c.length + d.length + 11 := by
  have := tupleText_len_le [a, b, c, d]
  simp at this
  omega
mutual
theorem cd_len : ∀ c : Cond, c.wf → (cd c).shown.length ≤ 100 * c.sh.length
  | .word b, _ => by
    unfold cd
    simp only [PyData.shown, PyData.shownAll]
    have h1 := tt1 (reprText (HL.S (yq b)))
    have h2 := rt_len (ok_yq b)
    have h3 : (yq b).length ≤ 3 ∧ 2 ≤ (yq b).length := by cases b <;> decide
    show _ ≤ 100 * (yq b).length
    omega
  | .ask n, h => by
    unfold cd
    simp only [PyData.shown, PyData.shownAll]
    have h1 := tt2 (reprText (HL.S (q "ask"))) (reprText (HL.S n))
    have h2 := rt_len ok_ask
    have h3 := rt_len (nm_ok (show Nm n by simpa [Cond.wf] using h))
    have h4 : (q "ask").length = 3 := by decide
    show _ ≤ 100 * (q "?" ++ n).length
    rw [List.length_append, show (q "?").length = 1 from by decide]
    omega
  | .neg c, h => by
    have ih := cd_len c (by simpa [Cond.wf] using h)
    unfold cd
    simp only [PyData.shown, PyData.shownAll]
    have h1 := tt2 (reprText (HL.S (q "not"))) (cd c).shown
    have h2 := rt_len ok_not
    have h4 : (q "not").length = 3 := by decide
    show _ ≤ 100 * (q "not" ++ (q "(" ++ (c.sh ++ q ")"))).length
    simp only [List.length_append, h4, show (q "(").length = 1 from by decide, show (q ")").length = 1 from by decide]
    omega
  | .many b cs, h => by
    have ih := cdL_len cs (by simpa [Cond.wf] using h)
    unfold cd
    simp only [PyData.shown, PyData.shownAll]
    have h1 := tt2 (reprText (HL.S (nq b))) (tupleText (PyData.shownAll (cdL cs)))
    have h2 := rt_len (ok_nq b)
    have h4 : (nq b).length = 3 := by cases b <;> decide
    show _ ≤ 100 * (nq b ++ (q "(" ++ (joinL (q ", ") (shC cs) ++ q ")"))).length
    simp only [List.length_append, h4, show (q "(").length = 1 from by decide, show (q ")").length = 1 from by decide]
    omega
theorem cdL_len : ∀ cs : List Cond, wfC cs → (tupleText (PyData.shownAll (cdL cs))).length ≤ 100 * (joinL (q ", ") (shC cs)).length + 50 := fun cs h => by
  have h1 := tupleText_len_le (PyData.shownAll (cdL cs))
  have h2 := cdL_sum cs h
  have h3 := joinL_len (q ", ") (shC cs)
  have h4 : (q ", ").length = 2 := by decide
  have h5 : (PyData.shownAll (cdL cs)).length = cs.length := cdL_cnt cs
  have h6 : (shC cs).length = cs.length := by rw [shC_map, List.length_map]
  rw [h4, h6] at h3
  rw [h5] at h1
  by_cases hc : cs = []
  · subst hc
    have e0 : PyData.shownAll (cdL []) = [] := by
      unfold cdL
      simp [PyData.shownAll]
    rw [e0]
    have := tupleText_len_le []
    simp at this
    omega
  · have hc1 : 1 ≤ cs.length := List.length_pos_iff.mpr hc
    generalize ((shC cs).map (·.length)).sum = z at h2 h3
    omega
theorem cdL_sum : ∀ cs : List Cond, wfC cs → ((PyData.shownAll (cdL cs)).map (·.length)).sum ≤ 100 * ((shC cs).map (·.length)).sum
  | [], _ => by
    unfold cdL
    simp [PyData.shownAll]
  | c :: cs, h => by
    have h1 : c.wf ∧ wfC cs := by simpa [wfC] using h
    have ih := cd_len c h1.1
    have ih2 := cdL_sum cs h1.2
    unfold cdL shC
    simp only [PyData.shownAll, List.map_cons, List.sum_cons]
    omega
theorem cdL_cnt : ∀ cs : List Cond, (PyData.shownAll (cdL cs)).length = cs.length
  | [] => by
    unfold cdL
    simp [PyData.shownAll]
  | c :: cs => by
    unfold cdL
    simp only [PyData.shownAll, List.length_cons, cdL_cnt cs]
end
mutual
theorem pd_len : ∀ c : Part, c.wf → (pd c).shown.length ≤ 100 * c.sh.length
  | .back, _ => by
    unfold pd
    simp only [PyData.shown, PyData.shownAll]
    have h1 := tt1 (reprText (HL.S (q "back")))
    have h2 := rt_len ok_back
    have h3 : (q "back").length = 4 := by decide
    show _ ≤ 100 * (q "back").length
    omega
  | .leave k, h => by
    unfold pd
    simp only [PyData.shown, PyData.shownAll]
    have h1 := tt2 (reprText (HL.S (q "leave"))) (toString ((k : Nat) : Int) : String)
    have h2 := rt_len ok_leave
    have h3 : (q "leave").length = 5 := by decide
    have h4 : (Str.ofString (toString ((k : Nat) : Int))).length = (numL k).length := by rw [SX.num_S k, HL.S_len]
    show _ ≤ 100 * (q "leave" ++ (q " " ++ numL k)).length
    simp only [List.length_append, h3, show (q " ").length = 1 from by decide]
    have h5 : (Str.ofString (toString ((k : Nat) : Int))).length ≤ (numL k).length := Nat.le_of_eq h4
    omega
  | .step n, h => by
    unfold pd
    simp only [PyData.shown, PyData.shownAll]
    have h1 := tt2 (reprText (HL.S (q "step"))) (reprText (HL.S n))
    have h2 := rt_len ok_step
    have h3 := rt_len (nm_ok (show Nm n by simpa [Part.wf] using h))
    have h4 : (q "step").length = 4 := by decide
    show _ ≤ 100 * (q "do" ++ (q " " ++ n)).length
    simp only [List.length_append, show (q "do").length = 2 from by decide, show (q " ").length = 1 from by decide]
    omega
  | .call n, h => by
    unfold pd
    simp only [PyData.shown, PyData.shownAll]
    have h1 := tt2 (reprText (HL.S (q "call"))) (reprText (HL.S n))
    have h2 := rt_len ok_call
    have h3 := rt_len (nm_ok (show Nm n by simpa [Part.wf] using h))
    have h4 : (q "call").length = 4 := by decide
    show _ ≤ 100 * (q "call" ++ (q " " ++ n)).length
    simp only [List.length_append, h4, show (q " ").length = 1 from by decide]
    omega
  | .row cs, h => by
    have ih := pdL_len cs (by simpa [Part.wf] using h)
    unfold pd
    simp only [PyData.shown, PyData.shownAll]
    have h1 := tt2 (reprText (HL.S (q "row"))) (tupleText (PyData.shownAll (pdL cs)))
    have h2 := rt_len ok_row
    have h4 : (q "row").length = 3 := by decide
    show _ ≤ 100 * (q "[" ++ (joinL (q "; ") (shP cs) ++ q "]")).length
    simp only [List.length_append, show (q "[").length = 1 from by decide, show (q "]").length = 1 from by decide]
    omega
  | .whil c p, h => by
    have h1 : c.wf ∧ p.wf := by simpa [Part.wf] using h
    have i1 := cd_len c h1.1
    have i2 := pd_len p h1.2
    unfold pd
    simp only [PyData.shown, PyData.shownAll]
    have h1 := tt3 (reprText (HL.S (q "while"))) (cd c).shown (pd p).shown
    have h2 := rt_len ok_while
    have h4 : (q "while").length = 5 := by decide
    show _ ≤ 100 * (q "while " ++ (c.sh ++ (q ": " ++ p.sh))).length
    simp only [List.length_append, show (q "while ").length = 6 from by decide, show (q ": ").length = 2 from by decide]
    omega
  | .ite c p r, h => by
    have h1 : c.wf ∧ p.wf ∧ r.wf := by simpa [Part.wf] using h
    have i1 := cd_len c h1.1
    have i2 := pd_len p h1.2.1
    have i3 := pd_len r h1.2.2
    unfold pd
    simp only [PyData.shown, PyData.shownAll]
    have h1 := tt4 (reprText (HL.S (q "if"))) (cd c).shown (pd p).shown (pd r).shown
    have h2 := rt_len ok_if
    have h4 : (q "if").length = 2 := by decide
    show _ ≤ 100 * (q "if " ++ (c.sh ++ (q " then " ++ (p.sh ++ (q " else " ++ r.sh))))).length
    simp only [List.length_append, show (q "if ").length = 3 from by decide, show (q " then ").length = 6 from by decide, show (q " else ").length = 6 from by decide]
    omega
theorem pdL_len : ∀ cs : List Part, wfP cs → (tupleText (PyData.shownAll (pdL cs))).length ≤ 100 * (joinL (q "; ") (shP cs)).length + 50 := fun cs h => by
  have h1 := tupleText_len_le (PyData.shownAll (pdL cs))
  have h2 := pdL_sum cs h
  have h3 := joinL_len (q "; ") (shP cs)
  have h4 : (q "; ").length = 2 := by decide
  have h5 : (PyData.shownAll (pdL cs)).length = cs.length := pdL_cnt cs
  have h6 : (shP cs).length = cs.length := by rw [shP_map, List.length_map]
  rw [h4, h6] at h3
  rw [h5] at h1
  by_cases hc : cs = []
  · subst hc
    have e0 : PyData.shownAll (pdL []) = [] := by
      unfold pdL
      simp [PyData.shownAll]
    rw [e0]
    have := tupleText_len_le []
    simp at this
    omega
  · have hc1 : 1 ≤ cs.length := List.length_pos_iff.mpr hc
    generalize ((shP cs).map (·.length)).sum = z at h2 h3
    omega
theorem pdL_sum : ∀ cs : List Part, wfP cs → ((PyData.shownAll (pdL cs)).map (·.length)).sum ≤ 100 * ((shP cs).map (·.length)).sum
  | [], _ => by
    unfold pdL
    simp [PyData.shownAll]
  | c :: cs, h => by
    have h1 : c.wf ∧ wfP cs := by simpa [wfP] using h
    have ih := pd_len c h1.1
    have ih2 := pdL_sum cs h1.2
    unfold pdL shP
    simp only [PyData.shownAll, List.map_cons, List.sum_cons]
    omega
theorem pdL_cnt : ∀ cs : List Part, (PyData.shownAll (pdL cs)).length = cs.length
  | [] => by
    unfold pdL
    simp [PyData.shownAll]
  | c :: cs => by
    unfold pdL
    simp only [PyData.shownAll, List.length_cons, pdL_cnt cs]
end
end K93
end

section
set_option Elab.async false
set_option linter.all false
set_option maxRecDepth 100000
set_option maxHeartbeats 4000000
/-! Rules of our own: a def called, its body read where it is called; an exception's wish by slots that are there. -/
namespace XP
open PySem PySem.Spec PyProof.Rows L2
theorem takes_len {X : Cx} {W : WX} (t : Takes X W) : Takes X (fun cls d σ H => σ.length = X.N.length → W cls d σ H) := fun u s' ⟨a, B, sI, pins, σ, H, cls, d, e, I, nb, up, sky, na, os, ag, w⟩ =>
  t u s' ⟨a, B, sI, pins, σ, H, cls, d, e, I, nb, up, sky, na, os, ag, w I.len⟩
section
variable {X : Cx}
/-- repr of a list or a tuple that holds data of any depth -/
def rReprC (K : PySem.W.Frag) (units : Nat) : List V → Hp → VK → Prop := fun xs H Q => ∃ (a : Addr) (d : PyData), xs = [.ref a] ∧ Dp K H (.ref a) d ∧ d.canLay0 = true ∧ d.showable = true ∧ units + (d.depth + 1) < cLine ∧ d.shown.length ≤ sizeLine ∧ Q (.str d.shown) H
theorem call_reprC (hg : X.A.guards = some []) : CallR X (.builtin "repr") (rReprC X.K X.A.units) := by
  intro pins s σ H xs us Q I r h
  obtain ⟨a, d, rfl, hd, sh, sw, hu, hz, q⟩ := h
  obtain ⟨u, rfl, ru⟩ := vals1 r
  obtain rfl : u = Value.ref a := ru
  obtain ⟨as, rd⟩ := Dp.reads I d (.ref a) (.ref a) hd rfl
  have nd : d.hasDict = false := PyData.hasDict_of_canLay d sh
  exact repr_of_reads' rd sw (PyData.noDict_hsm nd) hg hu (fun b o e => e) (fun h' u tk k => ⟨.str d.shown, H, I.kept k, ⟨_, rfl⟩, q⟩) hz
/-- f(e, ..): f's body is read for this very caller -/
theorem pe_calA {CX : CXT} {x name qual : Str} {params : Arguments} {body : List Stmt} {scope : Scope} {g : Addr} {fd : FuncData} {N ps : List Str} {sp : Sp} {k : Nat} {E : XK} {p pos : Pos} {e : Expr} {es : List Expr} {t : TA}
    (D : FunD X.K name qual params body scope [] [] g fd) (b : L2.Binds X.K fd ps []) (S : FnScope N ps scope) (len : ∀ vs H Q E, sp vs H Q E → vs.length = ps.length) (hr : Room (k + 1) X.A) (hm : X.mg x = some (.ref g)) (hx : Passes CX X E) (ha : PA X (e :: es) t)
    (hbody : ∀ (cdv : Value) (s : Shared) (H : Hp) (vs : List V) (Q : VK), Room k (X.A.deeper (envOfC qual scope s.heap.objs.size g cdv)) → sp vs H Q E →
      ∃ t, PSs (cxOf CX X.prog X.w X.K X.mg X.base N qual scope g cdv X.A X.stack s H E) body t ∧ t { nx := fun _ H' => Q .non H', rt := Q } (L2.start N vs) H)
    (hg : Gl X x := by rfl) (hdb : (x == ("__debug__" : Str)) = false := by decide) (he : starEach (e :: es) X.env = (false, eval e X.env) :: starEach es X.env := by rfl) (hpl : (backTo pos (starEach es X.env)).any (·.1) = false := by rfl) :
    PE X (.Call (.Name x p) (e :: es) [] pos) (tCall sp [] E t) := by
  refine ⟨fun pins s σ H Q I h => ?_⟩
  refine wpAny_Call_Name_kw (ld_glob I hg hm ?_ hdb)
  refine PySem.W.callWith_K (h₀ := X.base) I.ok.mod.kin D.kp (thn (ha.run pos pins s σ H _ I h) fun us s1 ⟨vs, H1, I1, r, q⟩ => ⟨I1.kIn, ?_⟩) he hpl
  have q : sp vs H1 Q E := by
    have q' : sp (vs ++ []) H1 Q E := q
    rwa [List.append_nil] at q'
  obtain ⟨oc, od, dV, kV, doc, pm, an, cdv, ct, osl, rfl, lk, hcg, _, _⟩ := D.ex
  have hl := len _ _ _ _ q
  have rc : codeAny (model X.prog X.w) X.A (.call (.ref g) ⟨us, []⟩) (CR CX X.stack X.prog X.w H1 s1 Q E) s1 :=
    LamX.run_ofS (N := N) (ps := ps) (us := us ++ []) (vs := vs) lk hcg S hr I1.env0 (b s1 us I1.kIn (by rw [← hl]; simpa using r.length.symm)) (by simpa using r) hl fun hr' => hbody cdv s1 H1 vs Q hr' q
  refine wpAny_call (codeAny_mono rc fun r s5 hq => ?_)
  cases r with
  | error e => exact hx pins σ H1 s1 e s5 I1 hq
  | ok fl =>
    cases fl with
    | ret u => exact I1.after hq
    | next => exact False.elim hq
    | brk => exact False.elim hq
    | cont => exact False.elim hq
end
end XP
end

section
set_option Elab.async false
set_option linter.all false
set_option maxRecDepth 100000
set_option maxHeartbeats 4000000
/-! k93: alike, read. -/
namespace K93
open PySem PySem.Spec PyProof.Rows L2 He HL
section
variable {w : World} {K : PySem.W.Frag} {mg : Str → Option Value} {base : Heap}
abbrev n_law_read : List Str := ["_law_act", "e"]
theorem sc_law_read : FnScope n_law_read ["_law_act"] (defScope s_law_read) := ⟨rfl, rfl, rfl, by decide +kernel, rfl, by decide +kernel, by decide +kernel⟩
theorem bi_law_read : ∀ (kV doc pm : Value) (an : Option Addr) (cdv ct : Value) (us : List Value), us.length = 1 → bindArgs (PySem.W.fnOf d_law_read.name d_law_read.qual d_law_read.params d_law_read.body d_law_read.scope .none kV doc pm an cdv ct) ⟨us, []⟩ = pure ([("_law_act" : Str)].zip us) := fun kV doc pm an cdv ct us hu => by
  match us, hu with
  | [u0], _ => rfl
/-- what _law_read makes of its callable: ('told', x), or ('none', None) where a NoText is let out -/
def TTr (K : PySem.W.Frag) : (XK → Hp → VK → Prop) → Hp → VK → Prop := fun tl H Q =>
  tl (fun cls d H' => cls = .ref (CN K) ∧ d = none ∧ ∀ p, H' p = none → Q (.ref p) (upd H' p (.tup [.str "none", .non]))) H fun v H' => [V.str "told", v].length ≤ sizeLine ∧ ∀ p, H' p = none → Q (.ref p) (upd H' p (.tup [.str "told", v]))
def tsRead (K : PySem.W.Frag) (a : Addr) : TS := tRet (tIf (tAnd (tB (tCB (rIsE K (CN K) a) (tCons (tVar 1) (tCons (tC (.ref (ga K "NoText"))) tNil)))) (tNot (tB (tCB (rIsE K (CN K) a) (tCons (tVar 1) (tCons (tC (.ref (ga K "Wrong"))) tNil))))))
  (tTup (tCons (tC (.str "none")) (tCons (tC .non) tNil))) (tTup (tCons (tC (.str "other")) (tCons (tC .non) tNil))))
theorem read_gives (W : Wl K mg) {N : List Str} {qual : Str} {scope : Scope} {f0 : Addr} {cdv0 : Value} {A : Around} {outer : List Env} {s0 : Shared} {H0 : Hp} {E0 : L2.XK} {cdg : Value} {q : Str} :
    LamX.GivesTo (cxOf (CXN w) P0 w K mg base N qual scope f0 cdv0 A outer s0 H0 E0).nox n_law_read "_law_read" (defScope s_law_read) (ga K "_law_read") cdg (defBody s_law_read) "_law_act" q (TTr K) := by
  intro f c' s H Q tl act hc h
  have nd := sc_law_read.nd
  have e1 : PySem.W.kitOne K (.ref (CN K)) (.ref (ga K "NoText")) = some true := W.kit (p := ("NoText", "NoText", true)) (by simp [ks])
  have e2 : PySem.W.kitOne K (.ref (CN K)) (.ref (ga K "Wrong")) = some false := W.kit (p := ("NoText", "Wrong", false)) (by simp [ks])
  refine ⟨_, pss_one (ps_try_as (i := 1) (c := .ref (ga K "AloneError")) (ts := fun a cls d => if cls = .ref (CN K) ∧ d = none then tsRead K a else fun _ _ _ => False)
      (tb := fun W D σ H => ∃ Ech : L2.XK, (∀ cls d σ' H', Ech cls d H' → σ'.length = 2 → W cls d σ' H') ∧ tRet (tTup (tCons (tC (.str "told")) (tCons (fun σZ HZ Q => σZ[0]? = some (some (.ref f)) ∧ HZ c' = some (LamX.CodeO c' q) ∧ tl Ech HZ Q) tNil))) D σ H)
      rfl rfl nd rfl rfl ⟨rfl, by decide, .inl W.g_AloneError⟩ LamX.takes0 (fun Wx pn xe tk _ => ?_) (fun a oe cls d pn hz hf => ?_)), ?_⟩
  · refine ⟨fun pins s' σ H' D I h' => ?_⟩
    obtain ⟨Ech, hW, h1⟩ := h'
    have hp := fun p1 p2 => act _ pn xe Ech p1 p2 (XP.takes_len tk) (fun cls d σ' H' z => hW cls d σ' H' z)
    refine PSs.run ?_ pins s' σ H' D I h1
    exact pss_one (ps_ret (pe_tup (pa_cons pe_str (pa_cons (hp _ _) pa_nil))))
  · by_cases hcd : cls = .ref (CN K) ∧ d = none
    · rw [if_pos hcd]
      obtain ⟨rfl, rfl⟩ := hcd
      exact pss_one (ps_ret (pe_ifExp (PW.pt (pw_and (pt_val (pe_callB (call_isE W.cat_x_NoText hz hf) (by rfl) W.f_isinstance (by decide +kernel) (pa_cons (pv 1) (pa_cons (pe_glob (v := .ref (ga K "NoText")) (by rfl) W.g_NoText rfl) pa_nil))))
        (pw_and1 (pt_not (pt_val (pe_callB (call_isE W.cat_x_NoText hz hf) (by rfl) W.f_isinstance (by decide +kernel) (pa_cons (pv 1) (pa_cons (pe_glob (v := .ref (ga K "Wrong")) (by rfl) W.g_Wrong rfl) pa_nil))))))))
        (pe_tup (pa_cons pe_str (pa_cons pe_non pa_nil))) (pe_tup (pa_cons pe_str (pa_cons pe_non pa_nil)))))
    · rw [if_neg hcd]
      exact pss_never
  · refine ⟨fun cls d H' => cls = .ref (CN K) ∧ d = none ∧ ∀ p, H' p = none → Q (.ref p) (upd H' p (.tup [.str "none", .non])), ?_, rfl, hc, ?_⟩
    · rintro cls d σ' H' ⟨rfl, rfl, hq⟩ hlen
      refine ⟨true, W.x_NoText_AloneError, fun _ a ha => ?_, nofun⟩
      obtain ⟨x0, x1, rfl⟩ : ∃ x0 x1, σ' = [x0, x1] := by
        match σ', hlen with
        | [x0, x1], _ => exact ⟨x0, x1, rfl⟩
      rw [if_pos ⟨rfl, rfl⟩]
      refine ⟨_, rfl, _, _, true, rfl, fun u r => r, e1, true, rfl, iteT ⟨_, rfl, _, _, false, rfl, fun u r => r, e2, false, rfl, ?_⟩⟩
      exact iteE true rfl (iteT ⟨by show 2 ≤ sizeLine; decide, fun p hp => hq p hp⟩)
    · exact h
end
end K93
end

section
set_option Elab.async false
set_option linter.all false
set_option maxRecDepth 100000
set_option maxHeartbeats 4000000
/-! sorted(set(x)), x a tuple of texts. -/
namespace XS
open PySem PySem.Spec PyProof.Rows L2
def txOf : Int × Value → Str := fun e => match e.2 with
  | .str k _ => k
  | _ => Str.empty
/-- the rows and the table of a set of texts; l: its members -/
structure Held (w : World) (es : Array (Int × Value)) (t : SetTable) (l : List Str) : Prop where
  each : ∀ e ∈ es.toList, ∃ k tk, e.2 = Value.str k tk ∧ e.1 = hashStr w k
  keys : (es.toList.map txOf).Perm l
  room : es.size < scanBound
  fits : t.fits es.size = true
  ris : Ris t.place.toList
  led : w.params.followText "set-order" = true ∨ t.led = true
def TSet (w : World) (h : Heap) (a : Addr) (l : List Str) : Prop := ∃ o es ep t, h.get? a = some o ∧ o.ExactSet ∧ o.data = .set es ep t ∧ Held w es t l
section
variable {P : Program} {w : World} {A : Around} {E : Value → Shared → Prop} {s : Shared} {a : Addr} {l : List Str} {es : Array (Int × Value)} {t : SetTable}
theorem TSet.keep {h h' : Heap} (T : TSet w h a l) (e : ∀ o, h.get? a = some o → h'.get? a = some o) : TSet w h' a l := let ⟨o, es, ep, t, x, y⟩ := T; ⟨o, es, ep, t, e o x, y⟩
theorem Held.size (F : Held w es t l) : es.size = l.length := by
  rw [← F.keys.length_eq, List.length_map, Array.length_toList]
theorem Held.elems (F : Held w es t l) : ElemsOf (strKind P w) es.toList := fun e he => by
  obtain ⟨k, tk, h1, h2⟩ := F.each e he
  rw [h1]
  exact ⟨⟨k, strKind_is _ _ _ _, h2⟩, rfl⟩
theorem is_key {e : Int × Value} {k k' : Str} {tk : Tok} (h : e.2 = Value.str k tk) : (strKind P w).is k' e.2 = true ↔ k = k' := by
  constructor
  · intro q
    rw [h] at q
    exact (strKind P w).inj (.str k tk) k k' (strKind_is _ _ _ _) q
  · intro q
    rw [h, q]
    exact strKind_is _ _ _ _
theorem Held.mem (F : Held w es t l) (k : Str) : k ∈ l ↔ ∃ e ∈ es.toList, (strKind P w).is k e.2 = true := by
  rw [← F.keys.mem_iff, List.mem_map]
  constructor
  · rintro ⟨e, he, q⟩
    obtain ⟨k', tk, h1, _⟩ := F.each e he
    refine ⟨e, he, (is_key h1).mpr ?_⟩
    rw [← q]
    unfold txOf
    rw [h1]
  · rintro ⟨e, he, q⟩
    obtain ⟨k', tk, h1, _⟩ := F.each e he
    refine ⟨e, he, ?_⟩
    unfold txOf
    rw [h1]
    exact (is_key h1).mp q
theorem Held.relay (F : Held w es t l) (n : Nat) : Held w (relayAll t es n).1 (relayAll t es n).2.1 l := by
  have p := relayAll_perm t es n
  have z : (relayAll t es n).1.size = es.size := by rw [← Array.length_toList, p.length_eq, Array.length_toList]
  refine ⟨fun e he => F.each e (p.mem_iff.mp he), (p.map txOf).trans F.keys, by rw [z]; exact F.room, relayAll_fits t es n, relayAll_ris t es n, F.led.imp id fun q => by rw [relayAll_led]; exact q⟩
theorem Held.lay (F : Held w es t l) (k : Str) (tk : Tok) (hz : l.length + 1 < scanBound) : Held w (layNew t es (hashStr w k) (.str k tk)).1 (layNew t es (hashStr w k) (.str k tk)).2.1 (k :: l) := by
  have p := layNew_perm t es (hashStr w k) (.str k tk)
  rw [Array.toList_push] at p
  have p2 := p.trans (List.perm_append_singleton _ _)
  have z : (layNew t es (hashStr w k) (.str k tk)).1.size = l.length + 1 := by rw [← Array.length_toList, p2.length_eq, List.length_cons, Array.length_toList, F.size]
  refine ⟨fun e he => ?_, (p2.map txOf).trans (F.keys.cons k), by rw [z]; exact hz, layNew_fits t es (hashStr w k) (.str k tk), layNew_ris t es (hashStr w k) (.str k tk) F.ris, F.led.imp id fun q => by rw [layNew_led]; exact q⟩
  rcases List.mem_cons.mp (p2.mem_iff.mp he) with q | q
  · rw [q]
    exact ⟨k, tk, rfl, rfl⟩
  · exact F.each e q
theorem tail_at {g : Bool → Sem Unit} (hg : ∀ (b : Bool) (s₁ : Shared) (Q' : Unit → Shared → Prop), Q' () s₁ → wpAny (model P w) A (g b) Q' E s₁) {o : Obj} {es0 es : Array (Int × Value)} {ep : Nat} {t0 t : SetTable} (ho : s.heap.get? a = some o)
    (hx : o.ExactSet) (hd : o.data = .set es0 ep t0) (F : Held w es t l) {old : Bool} {R : Option Bool → Shared → Prop} (hR : ∀ h', Heap.SameBut a s.heap h' → TSet w h' a l → R (some true) { s with heap := h' }) :
    wpAny (model P w) A (do
        storeSet a es t
        if (!old && t.tooFull) = true then do
            g (relayAll t es (SetTable.grown es.size)).2.2
            storeSet a (relayAll t es (SetTable.grown es.size)).1 (relayAll t es (SetTable.grown es.size)).2.1
            pure (some true)
          else pure (some true)) R E s := by
  have h1 := store_at (es' := es) (t' := t) ho hd
  have b1 := Heap.SameBut.update s.heap a (Obj.putSet es t)
  refine wpAny_bind (wpAny_storeSet_of ho hd ?_ (fits_of_scanBound F.room))
  split
  · have G := F.relay (SetTable.grown es.size)
    generalize relayAll t es (SetTable.grown es.size) = Z at G ⊢
    refine wpAny_bind (hg _ _ _ (wpAny_bind (wpAny_storeSet_of h1 rfl ?_ (fits_of_scanBound G.room))))
    exact wpAny_pure (hR _ (b1.trans (Heap.SameBut.update _ a _)) ⟨_, Z.1, _, Z.2.1, store_at (es' := Z.1) (t' := Z.2.1) h1 rfl, hx, rfl, G⟩)
  · exact wpAny_pure (hR _ b1 ⟨_, es, _, t, h1, hx, rfl, F⟩)
/-- one text put in -/
theorem add_at {k : Str} {tk : Tok} {Q : Bool → Shared → Prop} (T : TSet w s.heap a l) (hz : l.length + 1 < scanBound)
    (h1 : k ∈ l → Q false s) (h2 : k ∉ l → ∀ h', Heap.SameBut a s.heap h' → TSet w h' a (k :: l) → Q true { s with heap := h' }) :
    wpAny (model P w) A (setAddHashed a (.str k tk) ((strKind P w).hash k)) Q E s := by
  obtain ⟨o, es, ep, t, ho, hx, hd, F⟩ := T
  have hk : (strKind P w).is k (.str k tk) = true := strKind_is _ _ _ _
  have sc : (Value.str k tk).scannable = true := rfl
  have el : ElemsOf (strKind P w) es.toList := F.elems
  unfold setAddHashed setAddHashedIn
  refine wpAny_holding (wpAny_bind (wpAny_setState_of ho hd F.fits ?_))
  dsimp only
  rw [byScan_of sc F.room el]
  simp only [↓reduceIte]
  unfold setAddByScan
  refine wpAny_bind (wpAny_bind (wpAny_rule (wpAny_bind (wpAny_setScan_of hk ho hd F.fits el ?_))))
  cases hi : List.findIdx? (fun e => (strKind P w).is k e.2) es.toList with
  | some j =>
    obtain ⟨hj, pj, _⟩ := List.findIdx?_eq_some_iff_getElem.mp hi
    exact wpAny_pure (wpAny_pure (h1 ((F.mem (P := P) k).mpr ⟨es.toList[j], List.getElem_mem hj, pj⟩)))
  | none =>
    dsimp only
    have nk : k ∉ l := fun z => by
      obtain ⟨e, he, q⟩ := (F.mem (P := P) k).mp z
      have c := List.findIdx?_eq_none_iff.mp hi e he
      rw [q] at c
      cases c
    have gw : ∀ (b : Bool) {s₁ : Shared} {Q' : Unit → Shared → Prop}, Q' () s₁ → wpAny (model P w) A (match b with | true => rule "set.scan.the-table-gave-way" | false => pure ()) Q' E s₁ := fun b s₁ Q' q => by
      cases b
      · exact wpAny_pure q
      · exact wpAny_rule q
    have G := F.lay k tk hz
    have fin := h2 nk
    have hw : (strKind P w).hash k = hashStr w k := rfl
    rw [hw]
    generalize layNew t es (hashStr w k) (.str k tk) = Z at G ⊢
    obtain ⟨es1, t1, old, gave⟩ := Z
    dsimp only at G ⊢
    have F2 : Held w es1 t1 (k :: l) := G
    refine wpAny_bind (gw _ ?_)
    split
    · refine wpAny_bind ?_
      rw [hashByValue_scannable 8 sc]
      refine wpAny_pure ?_
      have F3 : Held w es1 (if plainKind (Value.str k tk) = true then t1 else { t1 with plain := false }) (k :: l) := by
        split
        · exact F2
        · exact ⟨F2.each, F2.keys, F2.room, SetTable.fits_plain_off F2.fits, F2.ris, F2.led⟩
      refine tail_at ?_ ho hx hd F3 ?_
      · intro b s₁ Q' q
        cases b
        · exact wpAny_pure q
        · exact wpAny_rule q
      · intro h' sb T
        exact wpAny_pure (fin h' sb T)
    · refine wpAny_bind (wpAny_pure ?_)
      simp only [↓reduceIte]
      refine tail_at ?_ ho hx hd F2 ?_
      · intro b s₁ Q' q
        cases b
        · exact wpAny_pure q
        · exact wpAny_rule q
      · intro h' sb T
        exact wpAny_pure (fin h' sb T)
/-- the new set -/
abbrev Fresh (w : World) : Obj := { cls := .type "set", dict := none, data := .set #[] 0 (.fresh 0 0 (!w.params.followText "set-order")) }
theorem fresh_set {h : Heap} (ho : h.get? a = some (Fresh w)) : TSet w h a [] := by
  refine ⟨_, #[], 0, _, ho, ⟨rfl, rfl, rfl⟩, rfl, ⟨(fun e he => by simp at he), List.Perm.refl _, by decide, rfl, List.Pairwise.nil, ?_⟩⟩
  show _ ∨ (!w.params.followText "set-order") = true
  cases w.params.followText "set-order"
  · exact .inr rfl
  · exact .inl rfl
/-- what is met so far -/
def Met (xs : List Str) (l : List Str) : Prop := l.Nodup ∧ (∀ k, k ∈ l ↔ k ∈ xs)
theorem Met.nil : Met [] [] := ⟨List.nodup_nil, fun k => Iff.rfl⟩
theorem Met.old {xs l : List Str} {k : Str} (h : Met xs l) (hk : k ∈ l) : Met (xs ++ [k]) l := ⟨h.1, fun j => by
  rw [h.2 j, List.mem_append, List.mem_singleton]
  exact ⟨.inl, fun z => z.elim id fun e => (h.2 j).mp (e ▸ hk)⟩⟩
theorem Met.more {xs l : List Str} {k : Str} (h : Met xs l) (hk : k ∉ l) : Met (xs ++ [k]) (k :: l) := ⟨List.nodup_cons.mpr ⟨hk, h.1⟩, fun j => by
  rw [List.mem_cons, h.2 j, List.mem_append, List.mem_singleton]
  exact Or.comm⟩
theorem nodup_len : ∀ (l xs : List Str), l.Nodup → (∀ k ∈ l, k ∈ xs) → l.length ≤ xs.length
  | [], _, _, _ => Nat.zero_le _
  | k :: l, xs, hn, h => by
    obtain ⟨h1, h2⟩ := List.nodup_cons.mp hn
    have hk := h k (by simp)
    have ih := nodup_len l (xs.erase k) h2 fun j hj => (List.mem_erase_of_ne fun (e : j = k) => h1 (by rw [← e]; exact hj)).mpr (h j (by simp [hj]))
    rw [List.length_erase_of_mem hk] at ih
    have := List.length_pos_of_mem hk
    rw [List.length_cons]
    omega
theorem Met.len {xs l : List Str} (h : Met xs l) : l.length ≤ xs.length := nodup_len l xs h.1 fun k hk => (h.2 k).mp hk
/-- the loop of set(x) -/
theorem fill {I S : Addr} {fp wr : List Addr} {G : Array GenState → Array GenState → Prop} {n : Nat} {Pv : Nat → Value → Prop} {St : Nat → Shared → Prop} {R : Result → Shared → Prop} (W : WalksS P w A.in1 I fp wr G n Pv St) (nS : S ∉ fp) (xs : List Str)
    (hn : xs.length = n) (hsm : n < 1000) (hv : ∀ i v, Pv i v → ∃ tk k, xs[i]? = some k ∧ v = .str k tk) : ∀ (m i : Nat) (s : Shared), m + i = n → St i s → (∃ l, TSet w s.heap S l ∧ Met (xs.take i) l) →
      (∀ s' l, Moved (S :: wr) G s s' → TSet w s'.heap S l → Met xs l → R (.ok (.ret .none)) s') → codeAny (model P w) A (.builtin "set.update.loop" ⟨[.ref S, .ref I], []⟩) R s := by
  have nW : S ∉ wr := fun z => nS (W.sub _ z)
  have up : ∀ b ∈ wr, b ∈ S :: wr := fun b z => List.mem_cons_of_mem _ z
  intro m
  induction m with
  | zero =>
    intro i s hi hst ⟨l, T, hl⟩ hR
    obtain rfl : i = n := by omega
    refine codeAny_builtin F.entry_set_update_loop ?_
    rw [Around.under_plainId F.plain_set_update_loop _]
    show wpAny _ A.in1 (pyNext (.ref I) >>= _) _ _ s
    refine wpAny_bind (W.done s _ _ hst fun s2 mv => ?_)
    show wpAny _ A.in1 (ret Value.none) _ _ s2
    refine wpAny_pure (hR s2 l (mv.mono up) (T.keep fun o e => mv.heap S o nW e) ?_)
    rw [← hn, List.take_length] at hl
    exact hl
  | succ m ih =>
    intro i s hi hst ⟨l, T, hl⟩ hR
    have hlt : i < n := by omega
    refine codeAny_builtin F.entry_set_update_loop ?_
    rw [Around.under_plainId F.plain_set_update_loop _]
    show wpAny _ A.in1 (pyNext (.ref I) >>= _) _ _ s
    refine wpAny_bind (W.item i s _ _ hlt hst fun v s2 pv hst2 mv => ?_)
    obtain ⟨tk, k, hk, rfl⟩ := hv i v pv
    have T2 : TSet w s2.heap S l := T.keep fun o e => mv.heap S o nW e
    have tk1 : xs.take (i + 1) = xs.take i ++ [k] := by rw [List.take_succ, hk] <;> rfl
    have ll : l.length ≤ i := Nat.le_trans hl.len (by rw [List.length_take]; omega)
    show wpAny _ A.in1 (holding [Value.str k tk] (setAdd S (.str k tk)) >>= _) _ _ s2
    unfold setAdd
    refine wpAny_bind (wpAny_holding (wpAny_holding (wpAny_bind ((strKind P w).pyHash (k := k) (strKind_is _ _ _ _) ?_))))
    refine add_at (s := { s2 with toks := s2.toks + 1 }) T2 (by unfold scanBound; omega) (fun kin => ?_) (fun kout h3 sb T3 => ?_)
    · refine wpAny_pure ⟨plainId_quiet F.plain_set_update_loop _, ih (i + 1) _ (by omega) (W.frame _ s2 _ _ hst2 (Nat.le_succ _) fun b hb o e => e) ⟨l, T2, by rw [tk1]; exact hl.old kin⟩ fun s4 l4 mv4 T4 hl4 => ?_⟩
      exact hR s4 l4 (Moved.trans W.gtrans ((mv.mono up).then_heap (Nat.le_succ _) fun b o hb e => e) mv4) T4 hl4
    · refine wpAny_pure ⟨plainId_quiet F.plain_set_update_loop _, ih (i + 1) _ (by omega) (W.frame _ s2 _ _ hst2 (Nat.le_succ _) fun b hb o e => ?_) ⟨k :: l, T3, by rw [tk1]; exact hl.more kout⟩ fun s4 l4 mv4 T4 hl4 => ?_⟩
      · rw [sb.2 b (fun z : b = S => nS (z ▸ hb))]
        exact e
      · refine hR s4 l4 (Moved.trans W.gtrans ((mv.mono up).then_heap (Nat.le_succ _) fun b o hb e => ?_) mv4) T4 hl4
        rw [sb.2 b (fun z : b = S => hb (by rw [z]; exact List.mem_cons_self))]
        exact e
theorem str_at : ∀ {us : List Value} {xs : List Str}, StrsAre us xs → ∀ (i : Nat) (v : Value), us[i]? = some v → ∃ tk k, xs[i]? = some k ∧ v = .str k tk
  | _, _, .nil, i, v, h => by simp at h
  | _, _, .cons k tk r, 0, v, h => by
    simp at h
    exact ⟨tk, k, rfl, h.symm⟩
  | _, _, .cons k tk r, i + 1, v, h => by
    simp only [List.getElem?_cons_succ] at h ⊢
    exact str_at r i v h
set_option maxHeartbeats 8000000 in
/-- set(x), x a tuple of texts -/
theorem call_set {q : Addr} {items : Array Value} {xs : List Str} {Q : Value → Shared → Prop} (hh : A.handled = none) (ht : s.heap.IsTuple q items) (hi : StrsAre items.toList xs) (hsm : xs.length < 1000)
    (h : ∀ (h2 : Heap) (tk : Nat) (l : List Str), TSet w h2 s.heap.objs.size l → Met xs l → (∀ b o, s.heap.get? b = some o → h2.get? b = some o) → Q (.ref s.heap.objs.size) { s with heap := h2, toks := tk }) : wpAny (model P w) A (call (.type "set") [.ref q]) Q E s := by
  obtain ⟨mc, mt, mq⟩ := F.called_set.mro
  have c1 := F.called_set.made
  have c2 := F.called_set.sub
  refine wpAny_call (codeAny_of_tree ?_)
  show wpAny _ _ (callAny (.type "set") _) _ _ _
  refine wpAny_pure ⟨Code.quiet_builtin _ (by decide +kernel), codeAny_builtin F.entry_type_call ?_⟩
  rw [Around.under_plain (weight_type_call_type "set" [.ref q] []) rfl]
  have c3 := F.called_set.notType
  have c4 := F.called_set.canCreate
  have c5 := F.typeCall_set_1 (.ref q)
  repeat (any_goals (first | assumption | wp_step))
  refine codeAny_mono (code_set_led1 (.ref q) (E := E) (Q₁ := fun v s1 => v = .ref s.heap.objs.size ∧ s1 = { s with heap := s.heap.push (Fresh w) }) ⟨rfl, rfl⟩) fun r0 s0 hr0 => ?_
  cases r0 with
  | error e => exact hr0
  | ok fl0 =>
    cases fl0 with
    | ret v0 =>
      obtain ⟨rfl, rfl⟩ := hr0
      have n0 : (s.heap.push (Fresh w)).get? s.heap.objs.size = some (Fresh w) := Heap.get?_push_size _ rfl
      have ty : Shared.TypeIs { s with heap := s.heap.push (Fresh w) } (.ref s.heap.objs.size) "set" := ⟨_, n0, rfl⟩
      have c6 := F.called_set.init.lookup
      have c7 := F.called_set.init.bind (.ref s.heap.objs.size)
      repeat (any_goals (first | assumption | wp_step))
      refine codeAny_mono (codeAny_call_builtin (R := wants (fun r s2 => r = .none ∧ ∃ h2 tk l, s2 = { s with heap := h2, toks := tk } ∧ TSet w h2 s.heap.objs.size l ∧ Met xs l ∧ (∀ b o, s.heap.get? b = some o → h2.get? b = some o)) E)
        F.called_set.init.plain F.entry_set_init (check_set_init_1 ty ?_)) fun r1 s1 hr1 => ?_
      · obtain ⟨oq, hoq, hcq, nq, hdq⟩ := ht
        obtain ⟨qc, qd, qx, qs⟩ := oq
        simp only at hcq hdq
        subst hcq hdq
        have at1 : (s.heap.push (Fresh w)).get? q = some { cls := .type "tuple", dict := qd, data := .seq items nq, slots := qs } := Heap.get?_push_of_some _ hoq
        have d1 := F.sub_tuple_set
        have d2 := F.sub_tuple_frozenset
        have d3 : (Value.type "tuple" == Value.type "dict") = false := by decide
        have it1 : (s.heap.push (Fresh w)).IsTuple q items := ⟨_, at1, rfl, nq, rfl⟩
        unfold Builtin.«set.__init__» noKeywords Builtin.Frozenset.updateFrom
        generalize hI : pyIter = I0
        wp_walk
        subst hI
        refine wpAny_pyIter_tuple it1 (wpAny_bind (wpAny_runValue ?_))
        have lq : q < s.heap.objs.size := Heap.lt_size hoq
        have hd3 : A.in1.in1.in1.handled = none := by simp [hh]
        have z1 : (s.heap.push (Fresh w)).objs.size = s.heap.objs.size + 1 := Heap.size_push ..
        have ne1 : q ≠ (s.heap.push (Fresh w)).objs.size := by
          rw [z1]
          exact Nat.ne_of_lt (Nat.lt_succ_of_lt lq)
        have ne2 : s.heap.objs.size ∉ [(s.heap.push (Fresh w)).objs.size, q] := by
          rw [z1, List.mem_cons, List.mem_singleton, not_or]
          exact ⟨Nat.ne_of_lt (Nat.lt_succ_self _), Nat.ne_of_gt lq⟩
        have zx : xs.length = items.size := by
          rw [← Array.length_toList, hi.len_eq]
        refine fill ((Walks.tuple hd3 _ q ne1 items).toS) ne2 xs zx (by omega) (fun i v hv => str_at hi i v (by rw [Array.getElem?_toList]; exact hv)) items.size 0 _ (by omega) ⟨⟨_, Heap.get?_push_size _ rfl, rfl, rfl⟩, it1.push _⟩
          ⟨[], fresh_set (Heap.get?_push_of_some _ n0), Met.nil⟩ fun s2 l mv T m => ?_
        obtain ⟨h2, g2, d2, tk2, os2⟩ := s2
        obtain rfl : g2 = s.gens := mv.gens
        obtain rfl : d2 = s.drawn := mv.drawn
        obtain rfl : os2 = s.os := mv.os
        show wpAny _ _ _ _ _ _
        refine wpAny_pure ?_
        show wpAny _ _ (ret Value.none) _ _ _
        refine wpAny_pure ⟨rfl, h2, tk2, l, rfl, T, m, fun b o e => ?_⟩
        have lb := Heap.lt_size e
        refine mv.heap b o (fun z => ?_) (Heap.get?_push_of_some _ (Heap.get?_push_of_some _ e))
        rw [z1] at z
        rcases List.mem_cons.mp z with z | z
        · exact absurd lb (by rw [z]; exact Nat.lt_irrefl _)
        · exact absurd lb (by rw [List.mem_singleton.mp z]; exact Nat.not_lt_of_le (Nat.le_succ _))
      · cases r1 with
        | error e => exact hr1
        | ok fl1 =>
          cases fl1 with
          | ret v1 =>
            obtain ⟨rfl, h2, tk, l, rfl, T, m, k⟩ := hr1
            repeat (any_goals (first | assumption | wp_step))
            exact h _ _ _ T m k
          | _ => exact hr1.elim
    | _ => exact hr0.elim
end
end XS
end

section
set_option Elab.async false
set_option linter.all false
set_option maxRecDepth 100000
set_option maxHeartbeats 4000000
/-! sorted(set(x)), x a tuple of texts: the rule. -/
namespace XS
open PySem PySem.Spec PyProof.Rows L2
section
variable {P : Program} {w : World} {A : Around} {E : Value → Shared → Prop} {s : Shared} {a : Addr} {l : List Str}
theorem strs_of : ∀ (us : List Value), (∀ v ∈ us, ∃ k tk, v = Value.str k tk) → ∀ (f : Value → Str), (∀ k tk, f (.str k tk) = k) → StrsAre us (us.map f)
  | [], _, _, _ => .nil
  | v :: us, h, f, hf => by
    obtain ⟨k, tk, rfl⟩ := h v List.mem_cons_self
    rw [List.map_cons, hf]
    exact .cons k tk (strs_of us (fun u hu => h u (List.mem_cons_of_mem _ hu)) f hf)
def txV : Value → Str
  | .str k _ => k
  | _ => Str.empty
theorem sorted_tset {Q : Value → Shared → Prop} (T : TSet w s.heap a l) (hh : A.handled = none) (h64 : l.length < 64)
    (hQ : ∀ s2 p (out : Array Value) (c : Nat) (ys : List Str), (∀ b o, s.heap.get? b = some o → s2.heap.get? b = some o) → s2.gens = s.gens → s2.os = s.os → s.heap.objs.size ≤ p →
      s2.heap.get? p = some (seqObj "list" out c) → StrsAre out.toList ys → ys.Perm l → sortedS ys = true → Q (.ref p) s2) : wpAny (model P w) A (call (.builtin "sorted") [.ref a]) Q E s := by
  obtain ⟨o, es, ep, t, ho, hx, hd, F⟩ := T
  refine Calls.call_function_entry kind_sorted plain_sorted entry_sorted (args_sorted1 _) ?_
  unfold Builtin.«sorted»
  refine wpAny_bind (m := checkCount "sorted" 1 1 _) (wpAny_pure (wpAny_bind (collect_set (A := A.in1) hh ⟨o, ho, hx.1, hd⟩ F.fits F.room F.ris F.led fun s1 us k1 z1 g1 o1 pm => ?_)))
  have lu : us.length = l.length := by rw [pm.length_eq, List.length_map, Array.length_toList, F.size]
  have hS : StrsAre us (us.map txV) := strs_of us (fun v hv => by
    obtain ⟨e, he, q⟩ := List.mem_map.mp (pm.mem_iff.mp hv)
    obtain ⟨k, tk, h1, _⟩ := F.each e he
    exact ⟨k, tk, by rw [← q]; exact h1⟩) txV fun _ _ => rfl
  have pk : (us.map txV).Perm l := by
    have q := pm.map txV
    rw [List.map_map] at q
    exact q.trans F.keys
  refine wpAny_bind (wpAny_newList ?_ (by rw [lu, sizeLine_eq]; omega))
  have oL : (s1.heap.push (seqObj "list" us.toArray 0)).get? s1.heap.objs.size = some (seqObj "list" us.toArray 0) := Heap.get?_push_size _ rfl
  refine wpAny_bind (wpAny_holding (wpAny_call_entry slot_list_sort ⟨_, oL, rfl⟩ entry_list_sort (list_sort_treeK strKind_oneLt oL hS.keysOf (fun v1 v2 rest e => keyKind_strs (by rw [← e]; exact hS)) (by rw [lu]; exact h64) fun st hp hs => ⟨_, rfl, ?_⟩) (args_list_sort _)))
  obtain ⟨ys, y1, y2, y3⟩ := sorted_out_str hS hp hs
  obtain ⟨c, hc⟩ := sortedHeap_at (vs := us) (out := (arrOf st).map (·.2)) oL
  refine wpAny_pure ⟨_, rfl, hQ _ s1.heap.objs.size _ c ys (fun b u e => ?_) g1 o1 z1 hc y1 (y2.trans pk) y3⟩
  have q := k1 b u e
  have lt := Heap.lt_size q
  show (sortedHeap (s1.heap.push (seqObj "list" us.toArray 0)) s1.heap.objs.size us _).get? b = some u
  rw [sortedHeap_old (Nat.ne_of_lt lt) (by rw [size_push']; exact Nat.lt_succ_of_lt lt)]
  exact Heap.get?_push_of_some _ q
end
end XS
namespace XS
open PySem PySem.Spec PyProof.Rows L2
section
variable {X : Cx}
/-- sorted(set(x)), x a tuple of texts -/
def tSortSet (K : PySem.W.Frag) (ta : TE) : TE := fun σ H Q => ta σ H fun x H1 => ∃ (t : Addr) (xs : List Str), x = .ref t ∧ SqT K H1 t (xs.map V.str) ∧ xs.length < 64 ∧
  ∀ (ys : List Str) (p : Addr), ys.Nodup → (∀ k, k ∈ ys ↔ k ∈ xs) → sortedS ys = true → H1 p = none → Q (.ref p) (upd H1 p (.lst (ys.map V.str)))
theorem pe_sortSet {a : Expr} {ta : TE} {p p2 q pos : Pos} (hc : X.calm = true) (hg : Gl X "sorted") (hm : X.mg "sorted" = none) (hg2 : Gl X "set") (hm2 : X.mg "set" = none) (ha : PE X a ta)
    (na : starEach [a] X.env = (false, eval a X.env) :: starEach [] X.env := by rfl) : PE X (.Call (.Name "sorted" p) [.Call (.Name "set" p2) [a] [] q] [] pos) (tSortSet X.K ta) := by
  refine ⟨fun pins s σ H Q I h => ?_⟩
  refine Call_ (ld_blt I hg hm boot_sorted ?_)
  refine PyProof.Rows.callWith_builtin1 (PyProof.Rows.args_cons ?_ rfl) rfl rfl
  refine Call_ (ld_blt I hg2 hm2 boot_set ?_)
  refine PyProof.Rows.callWith_type1 (PyProof.Rows.args_cons (thn (ha.run pins s σ H _ I h) fun v s1 ⟨x, H1, I1, r1, q1⟩ => PyProof.Rows.args_nil ?_) na) na rfl
  obtain ⟨t, xs, rfl, hq, h64, q1⟩ := q1
  cases r1
  obtain ⟨its, r, pl, hz⟩ := I1.tuple hq
  refine call_set (I1.ok.hd hc) pl (by simpa using strsAre_of r) (by omega) fun h2 tk l T m k2 => ?_
  refine PyProof.Rows.args_nil ?_
  have I2 : Inv X pins σ H1 { s1 with heap := h2, toks := tk } := I1.kept k2
  have T2 : TSet X.w ({ s1 with heap := h2, toks := tk } : Shared).heap s1.heap.objs.size l := T
  generalize ({ s1 with heap := h2, toks := tk } : Shared) = s2 at I2 T2 ⊢
  refine sorted_tset T2 (I2.ok.hd hc) (by have := m.len; omega) fun s3 b out c ys k g o hp hg hi pm so => ?_
  have nd : ys.Nodup := pm.nodup_iff.mpr m.1
  have hlen : (ys.map V.str).length ≤ sizeLine := by
    rw [List.length_map, pm.length_eq, sizeLine_eq]
    have := m.len
    omega
  have hn : H1 b = none := I2.hok.fresh hp
  have J : Inv X pins σ (upd H1 b (.lst (ys.map V.str))) { s2 with heap := s3.heap, gens := s3.gens, drawn := s3.drawn, toks := s3.toks } :=
    I2.call (ch := []) (Un.laid k hp hn) (I2.hok.laid k hp ⟨hlen, out.toList, c, vals_of_strs hi, hg⟩) (by rw [g]; exact I2.bare) (fun _ z => nomatch z)
  have e : s3 = { s2 with heap := s3.heap, gens := s3.gens, drawn := s3.drawn, toks := s3.toks } := by
    cases s3
    cases s2
    cases o
    rfl
  rw [e]
  exact ⟨.ref b, _, J, rfl, q1 ys b nd (fun j => (pm.mem_iff).trans (m.2 j)) so hn⟩
end
end XS
end

section
set_option Elab.async false
set_option linter.all false
set_option maxRecDepth 100000
set_option maxHeartbeats 4000000
/-! A list comprehension whose item may raise: the exception goes on in the def. -/
namespace PySem
namespace HandSPX
section
variable {M : Model} {A : Around} {E : Value → Shared → Prop} {s : Shared} {Z : Obj → Prop} {base : Heap} {env : Env} {outer l : List Env} {L e : Addr}
/-- noted, by whatever frame it was noted ahead -/
theorem looks_odd {fl : Value} {Q : Unit → Shared → Prop} (hZ : Steady Z) (hfr : A.frames = some (env :: outer)) (hf : env.frame = some L) (b1 : base.StaysIn s.heap) (b2 : base.get? e = none) (b3 : s.heap.FunFrames base (env :: outer)) (b4 : TracedZ s.heap base e Z fl)
    (hfl : (fl == rawInt L) = false) (hQ : ∀ g, HeldZ base (env :: outer) e Z L g → s.heap.UpToSlots g → Q () { s with heap := g }) : wpAny M A (noteFrame (.ref e) env) Q E s := by
  obtain ⟨ob, fs, T, ot, ts, g1, g2, g3, g4, g5, g6, g7, g8, g9⟩ := b4
  unfold noteFrame
  simp only [hf]
  refine wpAny_bind (wpAny_field g1 g3 g4 ?_)
  rw [if_pos (show (Value.ref T != Value.none) = true by simp)]
  refine wpAny_bind (wpAny_field g7 g8 g9 ?_)
  rw [if_neg (by rw [hfl]; exact Bool.false_ne_true)]
  refine wpAny_bind (wpAny_setField g7 g8 (Array.getElem?_eq_some_iff.mp g9).1 ?_)
  have oth : ∀ b, b ≠ T → (s.heap.update T (Obj.mapFields (·.setIfInBounds 3 Value.none))).get? b = s.heap.get? b := fun b hb => Heap.get?_update_other _ _ (Ne.symm hb)
  have noT : ∀ b o, s.heap.get? b = some o → (∀ us, o.data ≠ .fields us) → b ≠ T := fun b o h1 h2 z => by
    rw [z, g7] at h1
    injection h1 with h1
    subst h1
    exact h2 ts g8
  refine wpAny_entryZ hZ hfr (b3.of_keeps fun b o h1 h2 => ⟨o, (oth b (noT b o h1 h2)).trans h1, rfl⟩) hf ((oth e (Ne.symm g6)).trans g1) (fun b o hb => (oth b fun z => by rw [z, g5] at hb; cases hb).trans (b1 b o hb)) b2 g3 (Array.getElem?_eq_some_iff.mp g4).1 g2 fun g hN => ?_
  obtain ⟨n1, n2, n3, n4⟩ := hN
  exact hQ g ⟨n1, b2, n2, n3⟩ fun b o h1 h2 => n4 b o ((oth b (noT b o h1 h2)).trans h1) h2
end
end HandSPX
end PySem
namespace XL
open PySem PySem.Spec PyProof.Rows L2 HandSPX
/-- the block's context, with the def's wish about exceptions -/
abbrev blkX (X : Cx) (s : Shared) (H : Hp) (scope : Scope) (ce : Env) (fp : List Addr) : Cx := { X.blk s H scope ce fp with xe := notedBy (model X.prog X.w) X.A ce (CompFails (model X.prog X.w) X.A X.xe ce) }
section
variable {X : Cx} {pins : List (Addr × Obj)} {σ : L2.St} {H : Hp} {s : Shared}
theorem blkX_inv {s1 : Shared} {H1 : Hp} {scope : Scope} {ce : Env} {fp : List Addr} (I : Inv (X.blk s1 H1 scope ce fp) pins σ H s) : Inv (blkX X s1 H1 scope ce fp) pins σ H s :=
  ⟨⟨I.ok.mod, I.ok.kind, I.ok.glob, I.ok.blt, I.ok.above, I.ok.inj, I.ok.has, I.ok.cab, I.ok.hd, I.ok.frames, I.ok.stk, I.ok.exf, I.ok.bs, I.ok.bsz, I.ok.noex, I.ok.exfs, I.ok.funs, I.ok.frf⟩, I.os, I.bare, I.base, I.loc, I.cell, I.free, I.freeC, I.pin, I.hok, I.len⟩
theorem traced_but {h h2 base B2 : Heap} {C e : Addr} {Z : Obj → Prop} {fl : Value} {m : Str → Option Value} (hb : Heap.SameBut C h h2) (hC : h.Ns C m) (hB : ∀ b, base.get? b = none → B2.get? b = none) (t : TracedZ h base e Z fl) : TracedZ h2 B2 e Z fl := by
  obtain ⟨ob, fs, T, ot, ts, g1, g2, g3, g4, g5, g6, g7, g8, g9⟩ := t
  have no : ∀ b o us, h.get? b = some o → o.data = .fields us → b ≠ C := fun b o us h1 h2 z => by
    obtain ⟨oc, es, ep, q1, q2, _⟩ := hC
    rw [z, q1] at h1
    injection h1 with h1
    subst h1
    rw [q2] at h2
    cases h2
  exact ⟨ob, fs, T, ot, ts, (hb.2 e (no _ _ _ g1 g3)).trans g1, g2, g3, g4, hB _ g5, g6, (hb.2 T (no _ _ _ g7 g8)).trans g7, g8, g9⟩
/-- what the item lets out, the def lets out -/
theorem takes_blk {E : XK} {scope : Scope} {ce : Env} {fp : List Addr} {pins0 : List (Addr × Obj)} {σ0 : L2.St} {H3 : Hp} {s3 : Shared} (tk : Takes X fun c d _ H => E c d H) (hs : X.stack = X.env :: X.outer) (hf : X.env.frame = some X.env.locals) (I3 : Inv X pins0 σ0 H3 s3)
    (hfp : ∀ b ∈ fp, FpOk X pins0 H3 b) (hcl : ce.locals = s3.heap.objs.size) (hcf : ce.frame = X.env.frame) : Takes (blkX X s3 H3 scope ce fp) fun c d _ H => E c d H := by
  rintro u s' ⟨a, B, sI, pins, σ, H, cls, d, rfl, I, nb, up, sky, na, os, ag, hE⟩
  have hfr : X.A.frames = some (X.env :: X.outer) := by rw [I3.ok.frames, hs]
  have stk : (blkX X s3 H3 scope ce fp).stack = X.env :: X.outer := hs
  rw [stk] at sky
  have hCL : ce.locals ≠ X.env.locals := by
    rw [hcl]
    exact Nat.ne_of_gt I3.lt
  obtain ⟨m0, hn0, _⟩ := I.loc
  have hn0 : sI.heap.Ns ce.locals m0 := hn0
  have fC := I3.fpOk (H' := H) (b := ce.locals) (by rw [hcl]; exact Nat.le_refl _) I.free
  have key : ∀ g, HeldZ B (X.env :: X.outer) a (Zc cls d) X.env.locals g → s'.heap.UpToSlots g → CompFails (model X.prog X.w) X.A X.xe ce (.ref a) { s' with heap := g } := by
    intro g hg ug
    have hn1 : g.Ns ce.locals m0 := hn0.upToSlots fun b o h1 h2 => (up.trans ug) b o h1 h2
    refine ⟨m0, hn1, fun h2 m2 hn2 sb => ?_⟩
    have sb : Heap.SameBut ce.locals g h2 := sb
    obtain ⟨e1, e2, e3, e4⟩ := hg
    -- the ground without the block
    have B0 : ∀ b, B.get? b = none → (PySem.W.hideAll B [ce.locals]).get? b = none := fun b h => by
      cases q : (PySem.W.hideAll B [ce.locals]).get? b with
      | none => rfl
      | some o =>
        rw [PySem.W.of_hideAll _ q] at h
        cases h
    have B1 : ∀ b o, (PySem.W.hideAll B [ce.locals]).get? b = some o → B.get? b = some o ∧ b ≠ ce.locals := fun b o h => ⟨PySem.W.of_hideAll _ h, fun z => by
      rw [PySem.W.hideAll_none _ (by rw [z]; exact List.mem_cons_self ..)] at h
      cases h⟩
    have held : HeldZ (PySem.W.hideAll B [ce.locals]) (X.env :: X.outer) a (Zc cls d) X.env.locals h2 := by
      refine ⟨fun b o h => ?_, B0 _ e2, ?_, traced_but sb hn1 B0 e4⟩
      · obtain ⟨h1, hne⟩ := B1 b o h
        exact (sb.2 b hne).trans (e1 b o h1)
      · have ff := Heap.FunFrames.sameBut sb hn2 e3
        exact funFrames_none ff fun L hL => B0 _ (ff.mem hL).1
    have e4' := traced_but (B2 := B) sb hn1 (fun _ h => h) e4
    obtain ⟨ob, fs, T, ot, ts, g1, g2, g3, g4, _⟩ := e4'
    unfold PySem.passOn
    refine wpAny_bind (wpAny_field g1 g3 g4 ?_)
    rw [if_neg (show ¬ ((Value.ref T == Value.none) = true) by simp)]
    rw [hcf, hf]
    refine wpAny_bind (setFlight_onZ held fun h3 hh u3 => ?_)
    refine wpAny_throw ?_
    have J : Inv X pins0 σ0 H sI := I3.call' (ch := fp) I.os I.base I.hok I.bare fun b hb => ⟨(hfp b hb).2.2.2.1, (hfp b hb).2.1, (hfp b hb).2.2.2.2.1, (hfp b hb).2.2.2.2.2⟩
    obtain ⟨f0, f1, f2, f3, f4, f5⟩ := fC
    have J2 := J.turned (t' := sI.toks) (h' := PySem.W.hideAll sI.heap [ce.locals]) (it := ce.locals) (fun b o hb h => PySem.W.hideAll_get _ h (by simpa using hb)) f0 f1 f3 f4 f5
    refine tk _ _ ⟨a, PySem.W.hideAll B [ce.locals], _, pins0, σ0, H, cls, d, rfl, J2, fun b o h hb => ?_, fun b o h hnf => ?_, ?_, na, os, ag, hE⟩
    · have h' := PySem.W.of_hideAll _ h
      have hne : b ≠ ce.locals := fun z => by
        have h : (PySem.W.hideAll sI.heap [ce.locals]).get? b = some o := h
        rw [PySem.W.hideAll_none _ (by rw [z]; exact List.mem_cons_self ..)] at h
        cases h
      exact PySem.W.hideAll_get _ (nb b o h' hb) (by simpa using hne)
    · have h' := PySem.W.of_hideAll _ h
      have hne : b ≠ ce.locals := fun z => by
        have h : (PySem.W.hideAll sI.heap [ce.locals]).get? b = some o := h
        rw [PySem.W.hideAll_none _ (by rw [z]; exact List.mem_cons_self ..)] at h
        cases h
      obtain ⟨sl, q⟩ := (up.trans ug) b o h' hnf
      obtain ⟨sl2, q2⟩ := u3 b _ ((sb.2 b hne).trans q) hnf
      exact ⟨sl2, q2⟩
    · rw [hs]
      exact .inr (.inr hh)
  show wpAny (model X.prog X.w) X.A (noteFrame (.ref a) ce) _ _ s'
  rw [noteFrame_env _ hcf]
  rcases sky with ⟨k1, k2, k3, oe, vs, k4, k5, k6, k7⟩ | fl | ⟨k1, k2, k3, k4⟩
  · exact look_newZ Zc.steady hfr k3 hf k4 k1 k2 k6 k7 k5 key
  · exact looks_onZ Zc.steady hfr hf fl key
  · refine looks_odd Zc.steady hfr hf k1 k2 k3 k4 ?_ key
    have : (blkX X s3 H3 scope ce fp).env.locals = ce.locals := rfl
    rw [this]
    exact beq_eq_false_iff_ne.mpr fun z => hCL (Int.ofNat_inj.mp (by simpa [rawInt] using z))
/-- the walk of a comprehension's block, an item may raise -/
theorem lc_walk {E : XK} {pins : List (Addr × Obj)} {s : Shared} {σ : L2.St} {H : Hp} {Q : VK} {el tg iter : Expr} {ifs : List Expr} {scope : Scope} {own : List (Str × Nat)} {pos pos' : Pos} {wi : TI} {g : TG} {tt : TT} {te : TE} {use : Option (Value → Sem Unit)} {Qf : Value → Shared → Prop}
    (tk : Takes X fun c d _ H => E c d H) (hst : X.stack = X.env :: X.outer) (hfL : X.env.frame = some X.env.locals) (hc : X.calm = true) (hN : X.N.Nodup) (I : Inv X pins σ H s) (hi : PI X tg iter wi) (ok : BlkOk X.N X.env.scope scope own)
    (hg : ∀ (s : Shared) (H : Hp) (C : Addr) (cl : List (Str × Addr)) (fp : List Addr), PG (blkX X s H scope (compEnvC scope cl C X.env) fp) tg g)
    (ht : ∀ (s : Shared) (H : Hp) (C : Addr) (cl : List (Str × Addr)) (fp : List Addr), PTs (blkX X s H scope (compEnvC scope cl C X.env) fp) ifs tt)
    (he : ∀ (s : Shared) (H : Hp) (C : Addr) (cl : List (Str × Addr)) (fp : List Addr), Takes (blkX X s H scope (compEnvC scope cl C X.env) fp) (fun c d _ H => E c d H) → PE (blkX X s H scope (compEnvC scope cl C X.env) fp) el te)
    (hs : ∀ x, foldedSetIterable iter X.env x = pure x) (h : tLc wi g tt te (own.map (·.2)) σ H Q)
    (fin : ∀ D ce s' m H', Inv X pins σ H' s' → Q (.ref D) H' → s'.heap.Ns ce.locals m → FpOk X pins H' ce.locals → compEnds (model X.prog X.w) X.A X.xe use Qf (.ref D) ce (.ok .next) s') :
    wpAny (model X.prog X.w) X.A (comprehension (.ListComp el [⟨tg, iter, ifs, 0⟩] scope pos) scope X.env pos' (newList []) false (eval iter X.env) use) Qf X.xe s := by
  have frees : ∀ y ∈ scope.names, y.2 = .free → ∃ c, X.env.cells.lookup y.1 = some c := fun y hy e => (ok.free y hy e).elim (fun k => I.ok.has _ (.inl k)) fun k => I.ok.has _ (.inr k)
  refine comprehension_at (use := use) rfl hs (closure_ok frees) ok.kind (fun y hy e => by rw [ok.uniq y hy, e]) (thn (hi.run pins s σ H _ I h) fun xv s1 h1 => thn h1 fun itv s2 h2 => ?_)
  obtain ⟨it, fp, tn, J, H2, rfl, I2, T, t2, f2, q⟩ := h2
  refine wpAny_newObj_type (newEnv_comp ?_) (by show 0 ≤ sizeLine; decide)
  generalize eD : s2.heap.objs.size = D
  obtain ⟨W, ⟨m0, w0⟩, turn⟩ := q D (I2.hok.fresh (Nat.le_of_eq eD))
  generalize e3 : ({ s2 with heap := s2.heap.push { cls := .type "list", data := .seq ([] : List Value).toArray } } : Shared) = s3
  have hp3 : s3.heap = s2.heap.push { cls := .type "list", data := .seq ([] : List Value).toArray } := by rw [← e3]
  have I3 : Inv X pins σ (upd H2 D (.lst [])) s3 := by
    rw [← e3]
    exact I2.laid (t' := s2.toks) (fun b o e => Heap.get?_push_of_some _ e) (Nat.le_of_eq eD) ⟨Nat.zero_le _, [], 0, .nil, by rw [← eD]; exact Heap.get?_push_size _ rfl⟩
  have f3 : ∀ b ∈ fp, FpOk X pins (upd H2 D (.lst [])) b ∧ b < s3.heap.objs.size := fun b hb => by
    obtain ⟨o, e, _⟩ := T.obj _ _ t2 b hb
    have hlt := Heap.lt_size e
    refine ⟨⟨?_, (f2 b hb).2⟩, by rw [hp3, Heap.size_push]; exact Nat.lt_succ_of_lt hlt⟩
    rw [upd_ne (by rw [← eD]; exact Nat.ne_of_lt hlt)]
    exact (f2 b hb).1
  have t3 : tn 0 s3.heap := T.keep _ _ _ t2 fun b _ o e => by rw [hp3]; exact Heap.get?_push_of_some _ e
  have I4 := blkX_inv (block_start I3 ok hN f3)
  show codeAny _ _ (.compStart (.ListComp el [⟨tg, iter, ifs, 0⟩] scope pos) 0 (.ref it) (.ref D) (compEnvC scope (cellsFrom (s3.heap.objs.size + 1) scope.names (cloFrom X.env.cells scope.names [])) s3.heap.objs.size X.env))
    (compEnds (model X.prog X.w) X.A X.xe use Qf (.ref D) (compEnvC scope (cellsFrom (s3.heap.objs.size + 1) scope.names (cloFrom X.env.cells scope.names [])) s3.heap.objs.size X.env)) { s3 with heap := pushCells (s3.heap.push { cls := .type "dict", data := .dict #[] }) scope.names }
  generalize ecl : cellsFrom (s3.heap.objs.size + 1) scope.names (cloFrom X.env.cells scope.names []) = cl at I4 ⊢
  have pg := hg s3 (upd H2 D (.lst [])) s3.heap.objs.size cl fp
  have pt := ht s3 (upd H2 D (.lst [])) s3.heap.objs.size cl fp
  have pe := he s3 (upd H2 D (.lst [])) s3.heap.objs.size cl fp (takes_blk tk hst hfL I3 (fun b hb => (f3 b hb).1) rfl rfl)
  have nfp : ∀ b ∈ fp, (upd H2 D (.lst [])) b = none := fun b hb => (f3 b hb).1.1
  generalize ece : compEnvC scope cl s3.heap.objs.size X.env = ce at I4 pg pt pe ⊢
  have cL : ce.locals = s3.heap.objs.size := by rw [← ece]; rfl
  generalize upd H2 D (.lst []) = H3 at I3 I4 pg pt pe w0 nfp f3
  have t4 : tn 0 (pushCells (s3.heap.push { cls := .type "dict", data := .dict #[] }) scope.names) := T.keep _ _ _ t3 fun b _ o e => pushCells_keeps _ _ _ _ (Heap.get?_push_of_some _ e)
  replace t4 : tn 0 ({ s3 with heap := pushCells (s3.heap.push { cls := .type "dict", data := .dict #[] }) scope.names } : Shared).heap := t4
  generalize ({ s3 with heap := pushCells (s3.heap.push { cls := .type "dict", data := .dict #[] }) scope.names } : Shared) = s4 at I4 t4 ⊢
  have stat : ∀ {σ' : L2.St} {H' : Hp} {s' : Shared}, Inv (blkX X s3 H3 scope ce fp) [] σ' H' s' → (∀ b ∈ fp, H' b = none) → ∀ b ∈ fp, FpOk (blkX X s3 H3 scope ce fp) [] H' b := fun {σ' H' s'} I' hn b hb =>
    ⟨hn b hb, (I'.ok.exf b hb).1, I'.ok.exfs b hb, .inl hb, fun x c e => (I'.ok.exf b hb).2 x c e, fun p hp => absurd (show p ∈ ([] : List (Addr × Obj)) ++ [] from hp) (by simp)⟩
  have loop : codeAny (model X.prog X.w) X.A (.compLoop (.ListComp el [⟨tg, iter, ifs, 0⟩] scope pos) 0 (.ref it) (.ref D) ce) (compEnds (model X.prog X.w) X.A X.xe use Qf (.ref D) ce) s4 := by
    refine compLoop_any (fun n s' => ∃ i H', Inv (blkX X s3 H3 scope ce fp) [] (wipe σ (own.map (·.2))) H' s' ∧ tn i s'.heap ∧ (∀ b ∈ fp, H' b = none) ∧ W i n H') ?_ m0 ⟨0, H3, I4, t4, nfp, w0⟩
    rintro n s5 ⟨i, H5, I5, t5, n5, w5⟩
    rcases turn i n H5 w5 with ⟨stop, qq⟩ | ⟨go, Nx, hNx, step⟩
    · refine thn (T.done (blkX X s3 H3 scope ce fp) rfl rfl rfl hc i [] s5 _ H5 _ I5 (stat I5 n5) t5 stop) fun r s6 ⟨hr, I6⟩ => ?_
      subst hr
      have I7 : Inv X pins σ H5 s6 := I3.call' (ch := fp) I6.os I6.base I6.hok I6.bare fun b hb => ⟨(f3 b hb).1.2.2.2.1, (f3 b hb).1.2.1, (f3 b hb).1.2.2.2.2.1, (f3 b hb).1.2.2.2.2.2⟩
      obtain ⟨m, hn, _⟩ := I6.loc
      exact fin D ce s6 m H5 I7 qq hn (I3.fpOk (by rw [cL]; exact Nat.le_refl _) I6.free)
    · refine thn (T.item (blkX X s3 H3 scope ce fp) rfl rfl rfl hc i [] s5 _ H5 _ I5 (stat I5 n5) t5 go) fun r s6 ⟨u, hr, h6⟩ => ?_
      subst hr
      refine thn h6 fun _ s7 ⟨x, H7, I7, r7, y7, t7, n7⟩ => ?_
      refine thn (pg.run _ s7 _ H7 x u _ (I7.pinned (stat I7 n7) (T.obj _ _ t7)) r7 (step x H7 y7)) fun _ s8 ⟨σ8, H8, I8, hw8, q8⟩ => ?_
      refine thn (pt.run _ s8 σ8 H8 _ I8 q8) fun b s9 ⟨H9, I9, q9⟩ => ?_
      have next : ∀ {s' : Shared} {H' : Hp}, Inv (blkX X s3 H3 scope ce fp) ([] ++ pinsAt fp s7.heap) σ8 H' s' → Nx H' → ∃ m, m < n ∧ ∃ i H', Inv (blkX X s3 H3 scope ce fp) [] (wipe σ (own.map (·.2))) H' s' ∧ tn i s'.heap ∧ (∀ b ∈ fp, H' b = none) ∧ W i m H' := fun {s' H'} I' nx => by
        obtain ⟨m', hm, w'⟩ := hNx H' nx
        have pin' : ∀ b ∈ fp, ∀ o, s7.heap.get? b = some o → s'.heap.get? b = some o ∧ H' b = none := fun b hb o e => ⟨(I'.pin (b, o) (List.mem_append_right _ (List.mem_append_right _ (mem_pinsAt hb e)))).1, (I'.pin (b, o) (List.mem_append_right _ (List.mem_append_right _ (mem_pinsAt hb e)))).2.1⟩
        have hl : (wipe σ (own.map (·.2))).length = σ8.length := by rw [← hw8, wipe_length]
        refine ⟨m', hm, i + 1, H', (I'.unpinned (pins := [])).weak hl (fun j v e => ?_), T.keep _ _ _ t7 fun b hb o e => (pin' b hb o e).1, fun b hb => ?_, w'⟩
        · rw [← hw8] at e
          exact (wipe_some e).1
        · obtain ⟨o, e, _⟩ := T.obj _ _ t7 b hb
          exact (pin' b hb o e).2
      cases b with
      | false =>
        simp only [Bool.false_eq_true, if_false] at q9 ⊢
        exact next I9 q9
      | true =>
        simp only [if_true] at q9 ⊢
        refine thn (pe.run _ s9 σ8 H9 _ I9 q9) fun z s10 ⟨yv, H10, I10, r10, acc, hD10, hz10, nx⟩ => ?_
        exact app_ok (X := blkX X s3 H3 scope ce fp) I10 hD10 hz10 r10 fun s11 I11 => next I11 nx
  exact codeAny_compStart_list loop (T.self X.A 0 _ _ _ t4 loop)
/-- as a value -/
theorem pe_lc {E : XK} {el tg iter : Expr} {ifs : List Expr} {scope : Scope} {own : List (Str × Nat)} {pos : Pos} {wi : TI} {g : TG} {tt : TT} {te : TE} (tk : Takes X fun c d _ H => E c d H) (hst : X.stack = X.env :: X.outer) (hfL : X.env.frame = some X.env.locals) (hc : X.calm = true) (hN : X.N.Nodup) (hi : PI X tg iter wi) (ok : BlkOk X.N X.env.scope scope own)
    (hg : ∀ (s : Shared) (H : Hp) (C : Addr) (cl : List (Str × Addr)) (fp : List Addr), PG (blkX X s H scope (compEnvC scope cl C X.env) fp) tg g)
    (ht : ∀ (s : Shared) (H : Hp) (C : Addr) (cl : List (Str × Addr)) (fp : List Addr), PTs (blkX X s H scope (compEnvC scope cl C X.env) fp) ifs tt)
    (he : ∀ (s : Shared) (H : Hp) (C : Addr) (cl : List (Str × Addr)) (fp : List Addr), Takes (blkX X s H scope (compEnvC scope cl C X.env) fp) (fun c d _ H => E c d H) → PE (blkX X s H scope (compEnvC scope cl C X.env) fp) el te)
    (hs : ∀ x, foldedSetIterable iter X.env x = pure x := by intro _; rfl) : PE X (.ListComp el [⟨tg, iter, ifs, 0⟩] scope pos) (tLc wi g tt te (own.map (·.2))) := by
  refine ⟨fun pins s σ H Q I h => ?_⟩
  rw [eval_ListComp]
  refine lc_walk tk hst hfL hc hN I hi ok hg ht he hs h fun D ce s' m H' I' q hn f => ⟨m, hn, fun h2 sb => ?_⟩
  obtain ⟨f0, f1, f2, f3, f4, f5⟩ := f
  exact ⟨.ref D, H', I'.turned (t' := s'.toks) (fun b o hb e => (sb.2 b hb).trans e) f0 f1 f3 f4 f5, rfl, q⟩
/-- name = [..] on one line, the name a local -/
theorem ps_setLc {E : XK} {i : Nat} {y : Str} {py : Pos} {el tg iter : Expr} {ifs : List Expr} {scope : Scope} {own : List (Str × Nat)} {pos spos : Pos} {wi : TI} {g : TG} {tt : TT} {te : TE} (tk : Takes X fun c d _ H => E c d H) (hst : X.stack = X.env :: X.outer) (hfL : X.env.frame = some X.env.locals) (hc : X.calm = true) (hN : X.N.Nodup) (hy : X.N[i]? = some y)
    (hyl : X.env.scope.names.lookup y = some .local) (hsw : swapsWith (.ListComp el [⟨tg, iter, ifs, 0⟩] scope pos) (some (.Name y py)) spos.line X.env = pure true) (hi : PI X tg iter wi) (ok : BlkOk X.N X.env.scope scope own)
    (hg : ∀ (s : Shared) (H : Hp) (C : Addr) (cl : List (Str × Addr)) (fp : List Addr), PG (blkX X s H scope (compEnvC scope cl C X.env) fp) tg g)
    (ht : ∀ (s : Shared) (H : Hp) (C : Addr) (cl : List (Str × Addr)) (fp : List Addr), PTs (blkX X s H scope (compEnvC scope cl C X.env) fp) ifs tt)
    (he : ∀ (s : Shared) (H : Hp) (C : Addr) (cl : List (Str × Addr)) (fp : List Addr), Takes (blkX X s H scope (compEnvC scope cl C X.env) fp) (fun c d _ H => E c d H) → PE (blkX X s H scope (compEnvC scope cl C X.env) fp) el te)
    (hs : ∀ x, foldedSetIterable iter X.env x = pure x := by intro _; rfl) : PS X (.Assign [.Name y py] (.ListComp el [⟨tg, iter, ifs, 0⟩] scope pos) spos) (tAsg (tLc wi g tt te (own.map (·.2))) (gName i)) := by
  refine ⟨fun pins s σ H D I h => ?_⟩
  rw [exec_Assign_Name_used _ _ _ _ hsw]
  refine wpAny_bind (wpAny_standAt (wpAny_bind ?_))
  show wpAny _ X.A (do let _ ← comprehension (.ListComp el [⟨tg, iter, ifs, 0⟩] scope pos) scope X.env (firstIterPos [⟨tg, iter, ifs, 0⟩] pos) (newList []) false (eval iter X.env) (some (assign (.Name y py) X.env))) _ _ s
  have h : tLc wi g tt te (own.map (·.2)) σ H (fun x H1 => gName i x σ H1 D.nx) := h
  refine wpAny_bind (thn (lc_walk (Qf := fun _ s' => SP X pins D .next s') tk hst hfL hc hN I hi ok hg ht he hs h fun L ce s' m H' I' q hn f => ?_) fun _ s' hq => wpAny_pure (wpAny_pure hq))
  show wpAny _ _ (assign (.Name y py) X.env (.ref L)) _ _ _
  refine wpAny_assign_Name (store_ok2 (v := V.ref L) I' hN hy (.inl hyl) rfl (fun s2 I2 ⟨a, sb, ha⟩ => ?_) (.inr hyl))
  obtain ⟨f0, f1, f2, f3, f4, f5⟩ := f
  have haC : ce.locals ≠ a := by
    rcases ha with z | z
    · rw [z]; exact f1
    · exact fun e => f4 y a z e.symm
  refine ⟨m, hn.sameBut sb haC, fun h3 sb3 => ?_⟩
  exact ⟨_, H', I2.turned (t' := s2.toks) (fun b o hb e => (sb3.2 b hb).trans e) f0 f1 f3 f4 f5, q⟩
end
end XL
end

section
set_option Elab.async false
set_option linter.all false
set_option maxRecDepth 100000
set_option maxHeartbeats 4000000
/-! Rules of our own: xs[i::2], x in a list of data, f(..) with f an expression that gives one of several defs. -/
namespace XP
open PySem PySem.Spec PyProof.Rows L2
section
variable {X : Cx}
/-- x in l, l a list of data -/
def rInL (K : PySem.W.Frag) (units : Nat) : R2 := fun x y H Q => ∃ d ds, Dp K H x d ∧ Dp K H y (.list ds) ∧ d.canLay0 = true ∧ PyData.canLayAll0 ds = true ∧ units + 1 + min (PyData.depthAll ds) d.depth < cLine ∧ Q (.bl (ds.any fun z => PyData.eqv z d)) H
theorem op_inL : OpR X (compareOp .In) (rInL X.K X.A.units) := by
  intro pins s σ H x y v u Q I rx ry h
  obtain ⟨d, ds, hd, he, sd, se, hu, q⟩ := h
  obtain ⟨as, r1⟩ := Dp.reads I d x v hd rx
  obtain ⟨bs, r2⟩ := Dp.reads I (.list ds) y u he ry
  exact SeqAt.in_list_reads r2 r1 se sd hu ⟨.bl _, H, I, rfl, q⟩
/-- x == [], x == () -/
def rEqNil (K : PySem.W.Frag) (units : Nat) (f : Bool → Bool) : R2 := fun x y H Q => units < cLine ∧ ∃ a b xs, x = .ref a ∧ y = .ref b ∧ ((SqL K H a xs ∧ SqL K H b []) ∨ (SqT K H a xs ∧ SqT K H b [])) ∧ Q (.bl (f xs.isEmpty)) H
theorem op_eqNil : OpR X (compareOp .Eq) (rEqNil X.K X.A.units id) := by
  intro pins s σ H x y v u Q I rx ry h
  obtain ⟨hu, a, b, xs, rfl, rfl, hq, q⟩ := h
  cases rx
  cases ry
  rcases hq with ⟨h1, h2⟩ | ⟨h1, h2⟩
  · obtain ⟨its, r, pl, _⟩ := I.list h1
    obtain ⟨ks, r2, pl2, _⟩ := I.list h2
    cases r2
    cases r with
    | nil => exact SeqAt.RcAt.lists (e := fun _ => true) pl.isList pl2.isList rfl hu (fun j j1 _ => absurd j1 (Nat.not_lt_zero _)) _ _ _ _ ⟨.bl true, H, I, rfl, q⟩
    | cons => exact SeqAt.RcAt.lists_lengths pl.isList pl2.isList (by simp) hu _ _ _ _ ⟨.bl false, H, I, rfl, q⟩
  · obtain ⟨its, r, pl, _⟩ := I.tuple h1
    obtain ⟨ks, r2, pl2, _⟩ := I.tuple h2
    cases r2
    have z := SeqAt.RcAt.tuples (A := X.A) (s := s) (e := fun _ => true) pl pl2 hu (fun j _ j2 => absurd j2 (Nat.not_lt_zero _))
    cases r with
    | nil => exact z _ _ _ _ ⟨.bl true, H, I, rfl, q⟩
    | cons => exact z _ _ _ _ ⟨.bl false, H, I, by simp; rfl, q⟩
theorem op_neNil : OpR X (compareOp .NotEq) (rEqNil X.K X.A.units not) := by
  intro pins s σ H x y v u Q I rx ry h
  obtain ⟨hu, a, b, xs, rfl, rfl, hq, q⟩ := h
  cases rx
  cases ry
  rcases hq with ⟨h1, h2⟩ | ⟨h1, h2⟩
  · obtain ⟨its, r, pl, _⟩ := I.list h1
    obtain ⟨ks, r2, pl2, _⟩ := I.list h2
    cases r2
    cases r with
    | nil => exact SeqAt.RcNeAt.lists (e := fun _ => true) pl.isList pl2.isList rfl hu (fun j j1 _ => absurd j1 (Nat.not_lt_zero _)) _ _ _ _ ⟨.bl false, H, I, rfl, q⟩
    | cons => exact SeqAt.RcNeAt.lists_lengths pl.isList pl2.isList (by simp) hu _ _ _ _ ⟨.bl true, H, I, rfl, q⟩
  · obtain ⟨its, r, pl, _⟩ := I.tuple h1
    obtain ⟨ks, r2, pl2, _⟩ := I.tuple h2
    cases r2
    have z := SeqAt.RcNeAt.tuples (A := X.A) (s := s) (e := fun _ => true) pl pl2 hu (fun j _ j2 => absurd j2 (Nat.not_lt_zero _))
    cases r with
    | nil => exact z _ _ _ _ ⟨.bl false, H, I, rfl, q⟩
    | cons => exact z _ _ _ _ ⟨.bl true, H, I, by simp; rfl, q⟩
/-- every second one -/
def alt {α : Type} : List α → List α
  | [] => []
  | [x] => [x]
  | x :: _ :: r => x :: alt r
theorem alt_len {α : Type} : ∀ l : List α, (alt l).length ≤ l.length
  | [] => Nat.le_refl _
  | [_] => Nat.le_refl _
  | x :: y :: r => by
    have := alt_len r
    simp only [alt, List.length_cons]
    omega
theorem alt_pick {α : Type} : ∀ (l : List α), (List.range ((l.length + 1) / 2)).filterMap (fun k => l[2 * k]?) = alt l
  | [] => by simp [alt]
  | [x] => by simp [alt, List.range_succ]
  | x :: y :: r => by
    have ih := alt_pick r
    have e : (x :: y :: r).length = r.length + 2 := rfl
    rw [e, show (r.length + 2 + 1) / 2 = (r.length + 1) / 2 + 1 by omega, List.range_succ_eq_map, List.filterMap_cons]
    show x :: List.filterMap _ (List.map Nat.succ _) = x :: alt r
    rw [List.filterMap_map, ← ih]
    congr 1
theorem alt_map {α β : Type} (f : α → β) : ∀ l : List α, alt (l.map f) = (alt l).map f
  | [] => rfl
  | [_] => rfl
  | x :: y :: r => by
    show f x :: alt (r.map f) = f x :: (alt r).map f
    rw [alt_map f r]
theorem alt_vals {xs : List V} {its : List Value} : Vals xs its → Vals (alt xs) (alt its) := by
  intro r
  match xs, its, r with
  | [], _, .nil => exact .nil
  | [x], _, .cons h .nil => exact .cons h .nil
  | x :: y :: xs, _, .cons h (.cons _ t) => exact .cons h (alt_vals t)
theorem pick_alt (its : Array Value) (a : Nat) : slicePick its (some (a : Int)) none (some 2) = (alt (its.toList.drop a)).toArray := by
  have hb : sliceBounds (some (a : Int)) none (some 2) its.size = (((min a its.size : Nat) : Int), ((its.size : Nat) : Int), 2) := by
    unfold sliceBounds
    simp only [Option.getD_some]
    have h0 : ¬ ((a : Int) < 0) := by omega
    simp
    omega
  unfold slicePick
  rw [hb]
  show ((sliceRange ((min a its.size : Nat) : Int) ((its.size : Nat) : Int) 2).filterMap (its[·]?)).toArray = _
  congr 1
  have hl : (its.toList.drop a).length = its.size - a := by simp
  rw [← alt_pick, hl]
  have hr : sliceRange ((min a its.size : Nat) : Int) ((its.size : Nat) : Int) 2 = (List.range ((its.size - a + 1) / 2)).map fun k => min a its.size + 2 * k := by
    unfold sliceRange
    have hc : (if (2 : Int) > 0 then (if ((min a its.size : Nat) : Int) < ((its.size : Nat) : Int) then (((its.size : Nat) : Int) - ((min a its.size : Nat) : Int) + 2 - 1) / 2 else 0)
        else (if ((min a its.size : Nat) : Int) > ((its.size : Nat) : Int) then (((min a its.size : Nat) : Int) - ((its.size : Nat) : Int) - 2 - 1) / (-2) else 0)).toNat = (its.size - a + 1) / 2 := by
      rw [if_pos (by decide)]
      split <;> omega
    show ((List.range _).map _) = _
    rw [hc]
    refine List.map_congr_left fun k _ => ?_
    omega
  rw [hr, List.filterMap_map]
  have fc : ∀ (l : List Nat) (f g : Nat → Option Value), (∀ k ∈ l, f k = g k) → l.filterMap f = l.filterMap g := fun l f g h => by
    induction l with
    | nil => rfl
    | cons x l ih => rw [List.filterMap_cons, List.filterMap_cons, h x List.mem_cons_self, ih fun k hk => h k (List.mem_cons_of_mem _ hk)]
  refine fc _ _ _ fun k hk => ?_
  have hk := List.mem_range.mp hk
  show its[min a its.size + 2 * k]? = (its.toList.drop a)[2 * k]?
  rw [List.getElem?_drop, Array.getElem?_toList, show min a its.size = a by omega]
theorem pick_alt0 (its : Array Value) : slicePick its none none (some 2) = (alt its.toList).toArray := by
  have h := pick_alt its 0
  rw [List.drop_zero] at h
  rw [← h]
  unfold slicePick
  have e : sliceBounds none none (some 2) its.size = sliceBounds (some ((0 : Nat) : Int)) none (some 2) its.size := by
    unfold sliceBounds
    simp
    omega
  rw [e]
/-- xs[lo::2] -/
def tAlt (K : PySem.W.Frag) (te : TE) (tl : TO) : TE := fun σ H Q => te σ H fun x H1 => tl σ H1 fun l H2 => ∃ a xs, x = .ref a ∧ SqL K H2 a xs ∧ (∃ i : Nat, (l = some (i : Int) ∨ (l = none ∧ i = 0)) ∧ ∀ p, H2 p = none → Q (.ref p) (upd H2 p (.lst (alt (xs.drop i)))))
theorem pe_alt {e : Expr} {te : TE} {lo : Option Expr} {tl : TO} {k : Nat} {p1 p3 pos : Pos} (he : PE X e te) (hl : PO X lo tl) : PE X (.Subscript e (.Slice lo none (some (.Constant (.int 2) k p1)) p3) pos) (tAlt X.K te tl) := by
  refine ⟨fun pins s σ H Q I h => ?_⟩
  refine Subscript_ (thn (he.run pins s σ H _ I h) fun v s1 ⟨x, H1, I1, r1, q1⟩ => ?_)
  have hst : PO X (some (.Constant (.int 2) k p1)) (tPart (tC (.int 2))) := po_some pe_int
  refine wpAny_Slice (thn (hl.run pins s1 σ H1 _ I1 q1) fun vl s2 ⟨l, H2, I2, pl, q2⟩ => ?_)
  obtain ⟨a, xs, ex, hx, i, hi, q⟩ := q2
  subst ex
  cases r1
  refine thn (po_none.run pins s2 σ H2 (fun o H3 => o = none ∧ H3 = H2) I2 ⟨rfl, rfl⟩) fun vu s3 ⟨u, H3, I3, pu, eu, e3⟩ => ?_
  subst eu e3
  refine thn (hst.run pins s3 σ H3 (fun o H4 => o = some 2 ∧ H4 = H3) I3 ⟨2, rfl, rfl, rfl⟩) fun vs s4 ⟨o, H4, I4, ps, eo, e4⟩ => ?_
  subst eo e4
  have I5 : Inv X pins σ H4 { s4 with heap := s4.heap.push { cls := .type "slice", data := .fields #[vl, vu, vs] } } := I4.kept (t' := s4.toks) fun b ob w => Heap.get?_push_of_some _ w
  obtain ⟨its, r, ht, hz⟩ := I5.list hx
  have hlen := r.length
  show wpAny (model X.prog X.w) X.A (subscriptTail e (.Slice lo none (some (.Constant (.int 2) k p1)) p3) (.ref a) (.ref s4.heap.objs.size)) (EP X pins σ Q) X.xe { s4 with heap := s4.heap.push { cls := .type "slice", data := .fields #[vl, vu, vs] } }
  refine tail_any (ops := [.ref a, .ref s4.heap.objs.size]) ht.isList.typeIs (PySem.slot_list_getitem.lookup) ?_ (by with_unfolding_all rfl)
  refine wpAny_getItem_list_slice ht.isList (Heap.IsSliceOf.new _ vl vu vs) pl pu ps (by decide) ?_ (by rw [List.size_toArray]; omega)
  have hp : slicePick its.toArray l none (some 2) = (alt (its.drop i)).toArray := by
    rcases hi with rfl | ⟨rfl, rfl⟩
    · rw [pick_alt]
    · rw [pick_alt0, List.drop_zero]
  rw [hp]
  refine ⟨.ref _, _, I5.laid (t' := s4.toks) (o := .lst (alt (xs.drop i))) (fun b ob w => Heap.get?_push_of_some _ w) (Nat.le_refl _) ?_, rfl, q _ (I5.hok.fresh (Nat.le_refl _))⟩
  exact ⟨Nat.le_trans (alt_len _) (by rw [List.length_drop]; omega), _, 0, alt_vals (r.drop i), Heap.get?_push_size _ rfl⟩
/-- f(e, ..), f an expression; S: the promises of the defs that it may give -/
def tCallF (S : Addr → Option Sp) (tf : TE) (t : TA) : TE := fun σ H Q => tf σ H fun y H1 => ∃ f sp, y = V.ref f ∧ S f = some sp ∧ t σ H1 fun vs H2 => sp vs H2 Q (fun _ _ _ => False)
theorem pe_callF {k : Nat} {fe e : Expr} {es : List Expr} {pos : Pos} {S : Addr → Option Sp} {tf : TE} {t : TA} (A : ∀ f sp, S f = some sp → L2.Held X.prog X.w X.K X.mg X.base k f sp) (hr : Room k X.A) (hf : PE X fe tf) (ha : PA X (e :: es) t)
    (ht : eval (.Call fe (e :: es) [] pos) X.env = (do callWith pos (← eval fe X.env) [] (backTo pos (starEach (e :: es) X.env)) (backToKw pos (keywordEach [] X.env))) := by rfl)
    (he : starEach (e :: es) X.env = (false, eval e X.env) :: starEach es X.env := by rfl) (hpl : (backTo pos (starEach es X.env)).any (·.1) = false := by rfl) : PE X (.Call fe (e :: es) [] pos) (tCallF S tf t) := by
  refine ⟨fun pins s σ H Q I h => ?_⟩
  refine Call_ (thn (hf.run pins s σ H _ I h) fun u s1 ⟨y, H1, I1, ry, f, sp, ey, hS, q⟩ => ?_) ht
  subst ey
  obtain rfl : u = Value.ref f := ry
  obtain ⟨fd, ps, F, hk, hb⟩ := (A f sp hS).ex
  refine PySem.W.callWith_K (h₀ := X.base) I1.ok.mod.kin hk (thn (ha.run pos pins s1 σ _ _ I1 q) fun us s2 ⟨vs, H2, I2, r, q2⟩ => ⟨I2.kIn, ?_⟩) he hpl
  have q3 : sp (vs ++ []) H2 Q (fun _ _ _ => False) := by
    rw [List.append_nil]
    exact q2
  exact run_fn (dvs := []) (ds := []) F hr hb .nil (fun _ _ _ _ _ _ _ z => z.elim) I2 r q3
end
end XP
end

section
set_option Elab.async false
set_option linter.all false
set_option maxRecDepth 100000
set_option maxHeartbeats 4000000
/-! sorted(x), x a list of data; also of tuples of which the first one is (). -/
namespace XT
open PySem PySem.Spec PySem.W PySem.Calls PyProof.Rows PySem.SeqAt
section
variable {prog : Program} {w : World} {A : Around} {E : Value → Shared → Prop} {s : Shared}
/-- tuples, the first one is empty -/
def Tup0 (ds : List PyData) : Prop := (∃ r, ds = .tuple [] :: r) ∧ ∀ d ∈ ds, ∃ xs, d = .tuple xs
theorem tup_lt {Q : Value → Shared → Prop} {l b : Addr} {us vs : Array Value} {e r : Nat → Bool} (hl : s.heap.IsTuple l us) (hb : s.heap.IsTuple b vs)
    (he : ∀ j (h1 : j < us.size) (h2 : j < vs.size), EqAt A.in1 s us[j] vs[j] (e j)) (hr : ∀ j (h1 : j < us.size) (h2 : j < vs.size), e j = false → RcLt A.in1 s us[j] vs[j] (r j))
    (h : Q (.bool (firstLt e r (decide (us.size < vs.size)) (List.range (min us.size vs.size)))) s) : wpAny (model prog w) A (call (.builtin "tuple.__lt__") [.ref l, .ref b]) Q E s := by
  obtain ⟨⟨c1, d1, dat1, s1⟩, o1, k1, n1, q1⟩ := id hl
  obtain ⟨⟨c2, d2, dat2, s2⟩, o2, k2, n2, q2⟩ := id hb
  simp only at k1 q1 k2 q2
  subst k1 q1 k2 q2
  exact call_meets F.slot_tuple_lt ⟨_, o1, rfl⟩ F.entry_tuple_lt (F.args_tuple_lt_2 _ _) (SeqAt.tuple_ltAt l b us vs n1 n2 d1 d2 s1 s2 e r) ⟨o1, o2, he, hr, h⟩
theorem one_tup {xs : List PyData} {db : PyData} {a b : Value} {as bs : List Addr} {Q : Bool → Shared → Prop} (ra : Reads s.heap a (.tuple xs) as) (rb : Reads s.heap b db bs) (h : alike (.tuple xs) db = true)
    (hu : A.units + min (PyData.tuple xs).depth db.depth < cLine) (hq : Q (dataLt (.tuple xs) db) s) : wpAny (model prog w) A (oneLt' true a b) Q E s := by
  cases db with
  | tuple ys =>
    have hal : alikeAll xs ys = true := by simpa [alike] using h
    cases ra with
    | @tuple l o us n _ a1 h1 h2 h3 h4 =>
      cases rb with
      | @tuple l' o' vs n' _ b1 k1 k2 k3 k4 =>
        have n1 : us.size = xs.length := by simpa using SeqAt.ReadsAll.length _ _ _ h4
        have n2 : vs.size = ys.length := by simpa using SeqAt.ReadsAll.length _ _ _ k4
        rw [dataLt_tuple, ← firstLt_toks xs ys hal, ← n1, ← n2] at hq
        rw [oneLt'_eq]
        simp only [if_true]
        have hm := SeqAt.room_in hu
        refine wpAny_bind (wpAny_cRoomFor (SeqAt.room_here hu) ?_)
        refine wpAny_bind (wpAny_callSpecialIfBound?_slot (T := "tuple") ⟨_, h1, h2⟩ F.slot_tuple_lt (tup_lt (e := pairEq xs ys) (r := fun j => dataLt (xs.getD j .none) (ys.getD j .none)) ⟨_, h1, h2, _, h3⟩ ⟨_, k1, k2, _, k3⟩ (fun j j1 j2 => ?_) (fun j j1 j2 hj => ?_) ?_))
        · have z := eqAt_alikeAll xs ys A.in1 s us.toList vs.toList _ _ h4 k4 hal hm j (by simpa using j1) (by simpa using j2)
          simpa using z
        · have z := rcLt_alikeAll xs ys A.in1 s us.toList vs.toList _ _ h4 k4 hal hm j (by simpa using j1) (by simpa using j2) hj
          simpa using z
        · exact wpAny_truthy_bool hq
  | _ => exact absurd h (by simp [alike])
theorem mapM_each {α β : Type} {f : α → Sem β} {g : α → β} : ∀ (l : List α) {Q : List β → Shared → Prop}, (∀ v ∈ l, ∀ (Q' : β → Shared → Prop), Q' (g v) s → wpAny (model prog w) A (f v) Q' E s) → Q (l.map g) s → wpAny (model prog w) A (l.mapM f) Q E s
  | [], _, _, h => by
    rw [List.mapM_nil]
    exact wpAny_pure h
  | x :: l, Q, hf, h => by
    rw [List.mapM_cons]
    exact wpAny_bind (hf x List.mem_cons_self _ (wpAny_bind (mapM_each l (Q := fun bs s' => wpAny (model prog w) A (pure (g x :: bs)) Q E s') (fun v hv => hf v (List.mem_cons_of_mem _ hv)) (wpAny_pure h))))
theorem first_tup {v : Value} {xs : List PyData} {as : List Addr} (r : Reads s.heap v (.tuple xs) as) : ∃ o : Option Value, (xs = [] → o = none) ∧ ∀ Q' : Option Value → Shared → Prop, Q' o s → wpAny (model prog w) A (firstOfTuple' v) Q' E s := by
  cases r with
  | @tuple a o us n _ a1 h1 h2 h3 h4 =>
    refine ⟨us[0]?, fun e => ?_, fun Q' hq => ?_⟩
    · subst e
      have z : us.toList = [] := List.length_eq_zero_iff.mp (by simpa using SeqAt.ReadsAll.length _ _ _ h4)
      rw [← Array.getElem?_toList, z]
      rfl
    · rw [kas_first_eq]
      refine wpAny_bind ((looks_reads (Reads.tuple h1 h2 h3 h4)).here ?_)
      show wpAny (model prog w) A (if (Value.type "tuple" != Value.type "tuple") = true then _ else _) Q' E s
      rw [if_neg (by simp)]
      exact wpAny_bind (listItems_at h1 h3 (wpAny_pure hq))
theorem kind_tup {vs : List Value} {ds : List PyData} (e : EachIs (fun v d => ∃ as, Reads s.heap v d as) vs ds) (ht : Tup0 ds) (h2 : 2 ≤ vs.length) {Q : SortKind → Shared → Prop} (h : Q oneType' s) : wpAny (model prog w) A (keyKind' vs.toArray) Q E s := by
  classical
  obtain ⟨⟨r, rfl⟩, hall⟩ := ht
  have fst : ∀ v ∈ vs, ∃ o : Option Value, ∀ Q' : Option Value → Shared → Prop, Q' o s → wpAny (model prog w) A (firstOfTuple' v) Q' E s := fun v hv => by
    obtain ⟨d, hd, as, q⟩ := e.left v hv
    obtain ⟨xs, rfl⟩ := hall d hd
    obtain ⟨o, _, ho⟩ := first_tup (prog := prog) (w := w) (A := A) (E := E) q
    exact ⟨o, ho⟩
  cases e with
  | @cons v0 _ vs' _ hr er =>
    obtain ⟨as, hr⟩ := hr
    obtain ⟨o0, e0, h0⟩ := first_tup (prog := prog) (w := w) (A := A) (E := E) hr
    have e0 := e0 rfl
    subst e0
    let g : Value → Option Value := fun v => if v = v0 then none else if hv : v ∈ v0 :: vs' then (fst v hv).choose else none
    have hg : ∀ v ∈ v0 :: vs', ∀ Q' : Option Value → Shared → Prop, Q' (g v) s → wpAny (model prog w) A (firstOfTuple' v) Q' E s := fun v hv Q' hq => by
      by_cases hv0 : v = v0
      · subst hv0
        have : g v = none := if_pos rfl
        rw [this] at hq
        exact h0 Q' hq
      · have : g v = (fst v hv).choose := by
          show (if v = v0 then none else if hv : v ∈ v0 :: vs' then (fst v hv).choose else none) = _
          rw [if_neg hv0, dif_pos hv]
        rw [this] at hq
        exact (fst v hv).choose_spec Q' hq
    have g0 : g v0 = none := if_pos rfl
    rw [keyKind'_eq, List.mapM_toArray, map_eq_pure_bind]
    refine wpAny_bind (wpAny_bind (mapM_each (g := g) _ hg (wpAny_pure ?_)))
    rw [List.map_cons, g0]
    rw [if_neg (by simp), if_neg (by simp)]
    rw [oneTypeOnly'_eq, List.mapM_toArray, map_eq_pure_bind]
    have ty : ∀ v ∈ v0 :: vs', ∀ (Q' : Value → Shared → Prop), Q' (Value.type "tuple") s → wpAny (model prog w) A (typeOf v) Q' E s := fun v hv Q' hq => by
      rcases List.mem_cons.mp hv with rfl | hv
      · exact (looks_reads hr).here hq
      · obtain ⟨d, hd, as, q⟩ := er.left v hv
        obtain ⟨xs, rfl⟩ := hall d (List.mem_cons_of_mem _ hd)
        exact (looks_reads q).here hq
    refine wpAny_bind (wpAny_bind (wpAny_bind (mapM_each (g := fun _ => Value.type "tuple") _ ty (wpAny_pure ?_))))
    have a1 : ((List.map (fun _ => Value.type "tuple") (v0 :: vs')).toArray.all fun x => x == Value.type "tuple") = true := by simp
    have a2 : (List.map (fun _ => Value.type "tuple") (v0 :: vs')).toArray[0]? = some (Value.type "tuple") := by simp
    rw [a2]
    simp only [a1, if_true]
    exact wpAny_pure (wpAny_pure h)
theorem sorts_tup {vs : List Value} {ds : List PyData} (e : EachIs (fun v d => ∃ as, Reads s.heap v d as) vs ds) (hal : AllAlike ds) (ht : Tup0 ds) (hu : ∀ d, d ∈ ds → A.units + d.depth < cLine) : SortsAt prog w A s (dataKind s.heap ds) vs := by
  refine ⟨fun v hv => ?_, oneType', fun E x y a b Q ha hb hq => ?_, fun h2 E Q hq => kind_tup e ht h2 hq⟩
  · obtain ⟨d, hd, as, r⟩ := e.left v hv
    exact ⟨_, dataKind_some hal hd r⟩
  · obtain ⟨d, as, hd, ra, rfl⟩ := dataKind_inv ha
    obtain ⟨d', as', hd', rb, rfl⟩ := dataKind_inv hb
    rw [keyLt'_oneType]
    obtain ⟨xs, rfl⟩ := ht.2 d hd
    exact one_tup ra rb (hal _ hd d' hd') (Nat.lt_of_le_of_lt (Nat.add_le_add_left (Nat.min_le_left _ _) _) (hu _ hd)) hq
/-- sorted(x): what SortsAt holds of -/
theorem sorted_any {β : Type} {R : Value → β → Prop} {enc : β → PyData} {bs : List β} {l : Addr} {vs : List Value} {Q : Value → Shared → Prop} (hl : s.heap.IsList l vs.toArray) (e : EachIs R vs bs) (er : EachIs (fun v b => ∃ as, Reads s.heap v (enc b) as) vs bs) (hal : AllAlike (bs.map enc)) (hk : Sortable (bs.map enc) ∨ Tup0 (bs.map enc)) (hL : bs.length ≤ sizeLine)
    (hu : ∀ b, b ∈ bs → A.units + 2 + (enc b).depth < cLine) (h : ∀ out, out.length = bs.length → EachIs R out (bs.mergeSort (dataLe false enc)) → Q (.ref (s.heap.objs.size + 1)) { s with heap := sortedAll s.heap vs (List.toArray out) }) :
    wpAny (model prog w) A (call (.builtin "sorted") [.ref l]) Q E s := by
  rcases hk with hk | hk
  · exact sorted_data hl e er hal hk hL hu h
  · have er2 : EachIs (fun v b => ∃ as, Reads (sortingHeap (copyHeap s.heap vs) (s.heap.objs.size + 1) vs) v (enc b) as) vs bs := er.mono fun _ _ ⟨as, r⟩ => ⟨as, PyProof.Rows.Reads.keeps (fun _ _ => sorting_copy_old) r⟩
    have er3 := each_map (R := fun v d => ∃ as, Reads (sortingHeap (copyHeap s.heap vs) (s.heap.objs.size + 1) vs) v d as) enc er2
    refine sorted_vals hl (sorts_tup (s := { s with heap := sortingHeap (copyHeap s.heap vs) (s.heap.objs.size + 1) vs }) er3 hal hk (bound_map hu)) (by rw [e.length]; exact hL) ?_
    exact h _ (by rw [sortVals_length false rfl]; exact e.length) (sortVals_data false e er2 hal)
end
end XT
namespace XT
open PySem PySem.Spec PyProof.Rows L2
open PySem.W (EachIs)
section
variable {X : Cx}
/-- sorted(x), x a list of data: the items in Python's order -/
def rSortD (K : PySem.W.Frag) (units : Nat) : List V → Hp → VK → Prop := fun vs H Q => ∃ (a : Addr) (xs : List V) (ds : List PyData), vs = [.ref a] ∧ SqL K H a xs ∧ DpAll K H xs ds ∧ PySem.W.AllAlike ds ∧ (PySem.W.Sortable ds ∨ Tup0 ds) ∧ (∀ d ∈ ds, units + 2 + d.depth < cLine) ∧
  ∀ p, H p = none → Q (.ref p) (upd H p (.lst (((xs.zip ds).mergeSort (PySem.W.dataLe false Prod.snd)).map Prod.fst)))
theorem dpAll_len {K : PySem.W.Frag} {H : Hp} : ∀ {xs : List V} {ds : List PyData}, DpAll K H xs ds → xs.length = ds.length
  | _, _, .nil => rfl
  | _, _, .cons _ t => by rw [List.length_cons, List.length_cons, dpAll_len t]
theorem vals_each {xs : List V} {its : List Value} (r : Vals xs its) : ∀ ds : List PyData, xs.length = ds.length → EachIs (fun u (p : V × PyData) => RelV p.1 u) its (xs.zip ds) := by
  induction r with
  | nil =>
    intro ds h
    cases ds with
    | nil => exact .nil
    | cons => cases h
  | cons r rs ih =>
    intro ds h
    cases ds with
    | nil => cases h
    | cons d ds => exact .cons r (ih ds (Nat.succ.inj h))
theorem each_vals : ∀ {its : List Value} {ps : List (V × PyData)}, EachIs (fun u (p : V × PyData) => RelV p.1 u) its ps → Vals (ps.map Prod.fst) its
  | _, _, .nil => .nil
  | _, _, .cons h t => .cons h (each_vals t)
theorem reads_each {h : Heap} : ∀ {xs : List V} {its : List Value} {ds : List PyData}, xs.length = ds.length → EachIs (fun v d => ∃ as, Reads h v d as) its ds → EachIs (fun v (p : V × PyData) => ∃ as, Reads h v p.2 as) its (xs.zip ds)
  | [], _, _, hl, .nil => .nil
  | x :: xs, _, _, hl, .cons h1 t => .cons h1 (reads_each (Nat.succ.inj hl) t)
theorem call_sortD (hc : X.calm = true) : CallR X (.builtin "sorted") (rSortD X.K X.A.units) := by
  intro pins s σ H xs us Q I r h
  obtain ⟨a, xs, ds, rfl, hq, hd, hal, hk, hu, q⟩ := h
  obtain ⟨u, rfl, ru⟩ := vals1 r
  obtain rfl : u = Value.ref a := ru
  obtain ⟨its, r, pl, hz⟩ := I.list hq
  have hl := dpAll_len hd
  obtain ⟨as, rd⟩ := Dp.readsAll I ds xs its hd r
  have er : EachIs (fun v d => ∃ as, Reads s.heap v d as) its ds := PySem.W.readsAll_each id (by rw [List.map_id]; exact rd)
  have ez : (xs.zip ds).map Prod.snd = ds := List.map_snd_zip (by omega)
  have lz : (xs.zip ds).length = xs.length := by rw [List.length_zip]; omega
  refine sorted_any (enc := Prod.snd) (bs := xs.zip ds) pl.isList (vals_each r ds hl) (reads_each hl er) (by rw [ez]; exact hal) (by rw [ez]; exact hk) (by rw [lz]; exact hz) (fun b hb => hu _ (by obtain ⟨b1, b2⟩ := b; exact (List.of_mem_zip hb).2)) fun out ho he => ?_
  obtain ⟨c, hcell⟩ := sortedAll_at s.heap its out.toArray
  have k : ∀ b o, s.heap.get? b = some o → (sortedAll s.heap its out.toArray).get? b = some o := fun b o e => sortedAll_old e
  have hp : s.heap.objs.size ≤ s.heap.objs.size + 1 := Nat.le_succ _
  have hn : H (s.heap.objs.size + 1) = none := I.hok.fresh hp
  have hlen : (((xs.zip ds).mergeSort (PySem.W.dataLe false Prod.snd)).map Prod.fst).length ≤ sizeLine := by
    rw [List.length_map, List.length_mergeSort, lz]
    exact hz
  have J : Inv X pins σ (upd H (s.heap.objs.size + 1) (.lst (((xs.zip ds).mergeSort (PySem.W.dataLe false Prod.snd)).map Prod.fst))) { s with heap := sortedAll s.heap its out.toArray } :=
    I.call (ch := []) (Un.laid k hp hn) (I.hok.laid k hp ⟨hlen, out, c, each_vals he, hcell⟩) I.bare (fun _ z => nomatch z)
  exact ⟨.ref _, _, J, rfl, q _ hn⟩
end
end XT
end

section
set_option Elab.async false
set_option linter.all false
set_option maxRecDepth 100000
set_option maxHeartbeats 4000000
/-! k92: rows of names in order. -/
namespace N
open PySem PySem.Spec PyProof.Rows M
theorem rising_pw : ∀ (l : List Str) (p : Str), risingS p l = true → (p :: l).Pairwise (fun a b => a.cps.toList ≤ b.cps.toList)
  | [], p, _ => List.pairwise_singleton _ _
  | x :: r, p, h => by
    have h' : (!ltCps x.cps.toList p.cps.toList && risingS x r) = true := h
    rw [Bool.and_eq_true, ltCps_eq] at h'
    have hx : p.cps.toList ≤ x.cps.toList := by
      have z : ¬ x.cps.toList < p.cps.toList := by simpa using h'.1
      exact List.not_lt.mp z
    have ih := rising_pw r x h'.2
    refine List.pairwise_cons.mpr ⟨fun y hy => ?_, ih⟩
    rcases List.mem_cons.mp hy with e | hy
    · rw [e]
      exact hx
    · exact List.le_trans hx ((List.pairwise_cons.mp ih).1 y hy)
theorem sorted_pw {l : List Str} (h : sortedS l = true) : l.Pairwise (fun a b => a.cps.toList ≤ b.cps.toList) := by
  cases l with
  | nil => exact List.Pairwise.nil
  | cons x r => exact rising_pw r x h
theorem str_ext {a b : Str} (h : a.cps.toList = b.cps.toList) : a = b := by
  cases a
  cases b
  congr
  exact Array.toList_inj.mp h
theorem perm_nodup : ∀ (l m : List Str), l.Nodup → m.Nodup → (∀ k, k ∈ l ↔ k ∈ m) → l.Perm m := fun l m h1 h2 h => (List.perm_ext_iff_of_nodup h1 h2).mpr h
theorem sort_one {l m : List Str} (h1 : l.Nodup) (h2 : m.Nodup) (h : ∀ k, k ∈ l ↔ k ∈ m) (s1 : sortedS l = true) (s2 : sortedS m = true) : l = m :=
  List.Perm.eq_of_pairwise (fun a b _ _ x y => str_ext (List.le_antisymm x y)) (sorted_pw s1) (sorted_pw s2) (perm_nodup l m h1 h2 h)
/-- in order, none twice -/
def Ord (l : List Str) : Prop := l.Nodup ∧ sortedS l = true
instance (l : List Str) : Decidable (Ord l) := inferInstanceAs (Decidable (_ ∧ _))
theorem ord_iff {l ys : List Str} (h1 : ys.Nodup) (h2 : ∀ k, k ∈ ys ↔ k ∈ l) (h3 : sortedS ys = true) : l = ys ↔ Ord l := by
  constructor
  · intro e
    rw [e]
    exact ⟨h1, h3⟩
  · intro z
    exact sort_one z.1 h1 (fun k => (h2 k).symm) z.2 h3
end N
end

section
set_option Elab.async false
set_option linter.all false
set_option maxRecDepth 100000
set_option maxHeartbeats 4000000
/-! k92: answers, facts, traces and addresses, read and shown, as plain functions on signs. -/
namespace M
open L2 TL
abbrev St (l : Cs) : PySem.Str := ⟨l.toArray⟩
def nmB (n : Cs) : Bool := decide (0 < n.length ∧ n.length ≤ 8) && n.all isLet
theorem nmB_iff {n : Cs} : nmB n = true ↔ Nm n := by
  unfold nmB
  rw [Bool.and_eq_true, decide_eq_true_iff, List.all_eq_true]
  exact ⟨fun h => ⟨h.1.1, h.1.2, h.2⟩, fun h => ⟨⟨h.pos, h.most⟩, h.all⟩⟩
def ANs (ns : List Cs) : Prop := ns.all nmB = true ∧ N.Ord (ns.map St)
instance (ns : List Cs) : Decidable (ANs ns) := inferInstanceAs (Decidable (_ ∧ _))
theorem ANs.nm {ns : List Cs} (h : ANs ns) : ∀ n ∈ ns, Nm n := fun n hn => nmB_iff.mp (List.all_eq_true.mp h.1 n hn)
/-- l cut at each c -/
def sp (c : Nat) : Cs → List Cs
  | [] => [[]]
  | x :: r => if x = c then [] :: sp c r else match sp c r with
    | [] => [[x]]
    | h :: t => (x :: h) :: t
theorem sp_ne (c : Nat) : ∀ l, sp c l ≠ []
  | [] => by simp [sp]
  | x :: r => by
    unfold sp
    by_cases h : x = c
    · rw [if_pos h]
      simp
    · rw [if_neg h]
      split <;> simp
theorem sp_hit {c : Nat} {r : Cs} : sp c (c :: r) = [] :: sp c r := by
  conv => lhs; unfold sp
  rw [if_pos rfl]
theorem sp_miss {c x : Nat} {r h : Cs} {t : List Cs} (n : x ≠ c) (e : sp c r = h :: t) : sp c (x :: r) = (x :: h) :: t := by
  conv => lhs; unfold sp
  rw [if_neg n, e]
theorem spl_sp (c : Nat) : ∀ (l acc h : Cs) (t : List Cs), sp c l = h :: t → spl [c] 0 acc l = (acc ++ h) :: t
  | [], acc, h, t, e => by
    injection e with e1 e2
    subst e1 e2
    rw [spl_nil, List.append_nil]
  | x :: r, acc, h, t, e => by
    obtain ⟨h', t', e'⟩ := List.exists_cons_of_ne_nil (sp_ne c r)
    by_cases n : x = c
    · subst n
      rw [sp_hit] at e
      injection e with e1 e2
      subst e1 e2
      rw [spl_hit (show pre [x] (x :: r) = true from pre_self [x] r), show ([x] : Cs).length - 1 = 0 from rfl, spl_sp x r [] h' t' e', e', List.append_nil, List.nil_append]
    · rw [sp_miss n e'] at e
      injection e with e1 e2
      subst e1 e2
      rw [spl_miss (pre_of_head [] r n), spl_sp c r _ h' _ e', List.append_assoc]
      rfl
theorem spl_eq (c : Nat) (l : Cs) : spl [c] 0 [] l = sp c l := by
  obtain ⟨h, t, e⟩ := List.exists_cons_of_ne_nil (sp_ne c l)
  rw [spl_sp c l [] h t e, e, List.nil_append]
theorem join_two (b x y : Cs) (r : List Cs) : joinL b (x :: y :: r) = x ++ (b ++ joinL b (y :: r)) := rfl
theorem join_hd (b : Cs) (x : Nat) (h : Cs) (t : List Cs) : joinL b ((x :: h) :: t) = x :: joinL b (h :: t) := by
  cases t with
  | nil => rfl
  | cons y t => rfl
theorem join_sp (c : Nat) : ∀ l, joinL [c] (sp c l) = l
  | [] => rfl
  | x :: r => by
    obtain ⟨h', t', e'⟩ := List.exists_cons_of_ne_nil (sp_ne c r)
    have ih := join_sp c r
    by_cases n : x = c
    · subst n
      rw [sp_hit, e', join_two, ← e', ih]
      rfl
    · rw [sp_miss n e', join_hd, ← e', ih]
theorem sp_free (c : Nat) : ∀ l, ∀ p ∈ sp c l, c ∉ p
  | [], p, hp => by
    have : p = [] := by simpa [sp] using hp
    rw [this]
    simp
  | x :: r, p, hp => by
    obtain ⟨h', t', e'⟩ := List.exists_cons_of_ne_nil (sp_ne c r)
    have ih := sp_free c r
    by_cases n : x = c
    · subst n
      rw [sp_hit] at hp
      rcases List.mem_cons.mp hp with e | hp
      · rw [e]
        simp
      · exact ih p hp
    · rw [sp_miss n e'] at hp
      rw [e'] at ih
      rcases List.mem_cons.mp hp with e | hp
      · rw [e]
        intro z
        rcases List.mem_cons.mp z with z | z
        · exact n z.symm
        · exact ih h' (List.mem_cons_self ..) z
      · exact ih p (List.mem_cons_of_mem _ hp)
theorem sp_cons {c : Nat} : ∀ {a : Cs} (r : Cs), c ∉ a → sp c (a ++ c :: r) = a :: sp c r
  | [], r, _ => sp_hit
  | x :: a, r, h => by
    have ih := sp_cons (a := a) r fun z => h (List.mem_cons_of_mem _ z)
    exact sp_miss (fun z => h (by rw [z]; exact List.mem_cons_self ..)) ih
theorem sp_one {c : Nat} : ∀ {a : Cs}, c ∉ a → sp c a = [a]
  | [], _ => rfl
  | x :: a, h => sp_miss (fun z => h (by rw [z]; exact List.mem_cons_self ..)) (sp_one fun z => h (List.mem_cons_of_mem _ z))
theorem sp_len (c : Nat) : ∀ l, (sp c l).length = l.count c + 1
  | [] => rfl
  | x :: r => by
    obtain ⟨h', t', e'⟩ := List.exists_cons_of_ne_nil (sp_ne c r)
    have ih := sp_len c r
    by_cases n : x = c
    · subst n
      rw [sp_hit, List.length_cons, ih, List.count_cons_self]
    · rw [sp_miss n e', List.count_cons_of_ne n, ← ih, e']
      rfl
/-! ### answers -/
def rdA (s : Cs) : Option (List Cs) := if ANs (if s = q "-" then [] else sp 43 s) then some (if s = q "-" then [] else sp 43 s) else none
def shA (ns : List Cs) : Cs := if ns = [] then q "-" else joinL [43] ns
theorem rdA_sh {s : Cs} {ns : List Cs} (h : rdA s = some ns) : shA ns = s ∧ ANs ns := by
  unfold rdA at h
  by_cases hA : ANs (if s = q "-" then [] else sp 43 s)
  · rw [if_pos hA] at h
    injection h with h
    subst h
    refine ⟨?_, hA⟩
    by_cases hs : s = q "-"
    · rw [if_pos hs, hs]
      rfl
    · rw [if_neg hs]
      unfold shA
      rw [if_neg (sp_ne 43 s), join_sp]
  · rw [if_neg hA] at h
    cases h
/-! ### facts -/
inductive Fact where
  | alw (c : Cond)
  | mk (a b : Cs) (c : Cond)
def Fact.wf : Fact → Prop
  | .alw c => c.wf
  | .mk a b c => Nm a ∧ Nm b ∧ c.wf
def mkS (a b r : Cs) : Cs := q "makes" ++ (q " " ++ (a ++ (q " " ++ (b ++ (q " " ++ r)))))
def alS (r : Cs) : Cs := q "always" ++ (q " " ++ r)
def Fact.sh : Fact → Cs
  | .alw c => alS c.sh
  | .mk a b c => mkS a b c.sh
def fact (n : Nat) (s : Cs) : Option (Fact × Cs) := match word s with
  | none => none
  | some (w, r1) => match takes (q " ") r1 with
    | none => none
    | some r2 => if w = q "always" then (match cond n r2 with
        | none => none
        | some (c, r) => some (.alw c, r))
      else if w = q "makes" then (match word r2 with
        | none => none
        | some (a, r3) => match takes (q " ") r3 with
          | none => none
          | some r4 => match word r4 with
            | none => none
            | some (b, r5) => match takes (q " ") r5 with
              | none => none
              | some r6 => match cond n r6 with
                | none => none
                | some (c, r) => some (.mk a b c, r))
      else none
def readF (n : Nat) (s : Cs) : Option Fact := match fact n s with
  | none => none
  | some (f, _) => if f.sh = s then some f else none
def lawF (n m : Nat) (s : Cs) : Option Fact :=
  if s.take 7 = q "always " then (match lawC n m (s.drop 7) with
    | none => none
    | some c => some (.alw c))
  else match sp 32 s with
  | w0 :: w1 :: w2 :: _ :: _ => if w0 = q "makes" ∧ nmB w1 = true ∧ nmB w2 = true then (match lawC n m (s.drop (8 + w1.length + w2.length)) with
    | none => none
    | some c => some (.mk w1 w2 c)) else none
  | _ => none
theorem nl_sp {r : Cs} : nl (q " " ++ r) := nl_q (s := " ") (by decide)
theorem nm_sp {a : Cs} (h : Nm a) : (32 : Nat) ∉ a := fun z => by
  have := h.all 32 z
  revert this
  decide
theorem nm_always : Nm (q "always") := nm_q (by decide)
theorem nm_makes : Nm (q "makes") := nm_q (by decide)
theorem word_sp {w r : Cs} (h : Nm w) : word (w ++ (q " " ++ r)) = some (w, q " " ++ r) := word_app h nl_sp
theorem alS_inj {a b : Cs} (h : alS a = alS b) : a = b := List.append_cancel_left (List.append_cancel_left h)
theorem mkS_inj {a b x y : Cs} (h : mkS a b x = mkS a b y) : x = y := by
  unfold mkS at h
  exact List.append_cancel_left (List.append_cancel_left (List.append_cancel_left (List.append_cancel_left (List.append_cancel_left (List.append_cancel_left h)))))
theorem fact_alw {n : Nat} {r : Cs} : fact n (alS r) = (match cond n r with
    | none => none
    | some (c, r) => some (.alw c, r)) := by
  unfold fact alS
  rw [word_sp nm_always]
  dsimp only
  rw [takes_self]
  dsimp only
  rw [if_pos rfl]
theorem fact_mk {n : Nat} {a b r : Cs} (ha : Nm a) (hb : Nm b) : fact n (mkS a b r) = (match cond n r with
    | none => none
    | some (c, r) => some (.mk a b c, r)) := by
  unfold fact mkS
  rw [word_sp nm_makes]
  dsimp only
  rw [takes_self]
  dsimp only
  rw [if_neg (by decide), if_pos rfl, word_sp ha]
  dsimp only
  rw [takes_self]
  dsimp only
  rw [word_sp hb]
  dsimp only
  rw [takes_self]
/-- what stands ahead of a fact's condition -/
theorem fact_head {n : Nat} {s r : Cs} {f : Fact} (h : fact n s = some (f, r)) : (∃ c s2, f = .alw c ∧ s = alS s2) ∨ ∃ a b c s2, f = .mk a b c ∧ Nm a ∧ Nm b ∧ s = mkS a b s2 := by
  unfold fact at h
  cases h1 : word s with
  | none =>
    rw [h1] at h
    cases h
  | some z =>
    obtain ⟨w, r1⟩ := z
    rw [h1] at h
    dsimp only at h
    obtain ⟨e1, n1, _⟩ := word_some h1
    cases h2 : takes (q " ") r1 with
    | none =>
      rw [h2] at h
      cases h
    | some r2 =>
      rw [h2] at h
      dsimp only at h
      have e2 := takes_some.mp h2
      by_cases c1 : w = q "always"
      · rw [if_pos c1] at h
        left
        cases h3 : cond n r2 with
        | none =>
          rw [h3] at h
          cases h
        | some z =>
          obtain ⟨c, r'⟩ := z
          rw [h3] at h
          injection h with h
          injection h with h _
          exact ⟨c, r2, h.symm, by rw [e1, e2, c1]; rfl⟩
      · rw [if_neg c1] at h
        by_cases c2 : w = q "makes"
        · rw [if_pos c2] at h
          right
          cases h3 : word r2 with
          | none =>
            rw [h3] at h
            cases h
          | some z =>
            obtain ⟨a, r3⟩ := z
            rw [h3] at h
            dsimp only at h
            obtain ⟨e3, n3, _⟩ := word_some h3
            cases h4 : takes (q " ") r3 with
            | none =>
              rw [h4] at h
              cases h
            | some r4 =>
              rw [h4] at h
              dsimp only at h
              have e4 := takes_some.mp h4
              cases h5 : word r4 with
              | none =>
                rw [h5] at h
                cases h
              | some z =>
                obtain ⟨b, r5⟩ := z
                rw [h5] at h
                dsimp only at h
                obtain ⟨e5, n5, _⟩ := word_some h5
                cases h6 : takes (q " ") r5 with
                | none =>
                  rw [h6] at h
                  cases h
                | some r6 =>
                  rw [h6] at h
                  dsimp only at h
                  have e6 := takes_some.mp h6
                  cases h7 : cond n r6 with
                  | none =>
                    rw [h7] at h
                    cases h
                  | some z =>
                    obtain ⟨c, r'⟩ := z
                    rw [h7] at h
                    injection h with h
                    injection h with h _
                    exact ⟨a, b, c, r6, h.symm, n3, n5, by rw [e1, e2, c2, e3, e4, e5, e6]; rfl⟩
        · rw [if_neg c2] at h
          cases h
theorem readF_iff {n : Nat} {s : Cs} {f : Fact} : readF n s = some f ↔ (∃ c s2, f = .alw c ∧ s = alS s2 ∧ readC n s2 = some c) ∨ ∃ a b c s2, f = .mk a b c ∧ Nm a ∧ Nm b ∧ s = mkS a b s2 ∧ readC n s2 = some c := by
  constructor
  · intro h
    unfold readF at h
    cases hf : fact n s with
    | none =>
      rw [hf] at h
      cases h
    | some z =>
      obtain ⟨g, r⟩ := z
      rw [hf] at h
      dsimp only at h
      by_cases hs : g.sh = s
      · rw [if_pos hs] at h
        injection h with h
        subst h
        rcases fact_head hf with ⟨c, s2, rfl, rfl⟩ | ⟨a, b, c, s2, rfl, na, nb, rfl⟩
        · left
          refine ⟨c, s2, rfl, rfl, ?_⟩
          rw [fact_alw] at hf
          unfold readC
          cases hc : cond n s2 with
          | none =>
            rw [hc] at hf
            cases hf
          | some z =>
            obtain ⟨c', r'⟩ := z
            rw [hc] at hf
            injection hf with hf
            injection hf with e1 e2
            injection e1 with e1
            subst e1
            dsimp only
            rw [if_pos (alS_inj hs)]
        · right
          refine ⟨a, b, c, s2, rfl, na, nb, rfl, ?_⟩
          rw [fact_mk na nb] at hf
          unfold readC
          cases hc : cond n s2 with
          | none =>
            rw [hc] at hf
            cases hf
          | some z =>
            obtain ⟨c', r'⟩ := z
            rw [hc] at hf
            injection hf with hf
            injection hf with e1 e2
            injection e1 with _ _ e1
            subst e1
            dsimp only
            rw [if_pos (mkS_inj hs)]
      · rw [if_neg hs] at h
        cases h
  · have rc : ∀ {s2 : Cs} {c : Cond}, readC n s2 = some c → ∃ r, cond n s2 = some (c, r) ∧ c.sh = s2 := fun {s2 c} h => by
      unfold readC at h
      cases hc : cond n s2 with
      | none =>
        rw [hc] at h
        cases h
      | some z =>
        obtain ⟨c', r'⟩ := z
        rw [hc] at h
        dsimp only at h
        by_cases e : c'.sh = s2
        · rw [if_pos e] at h
          injection h with h
          subst h
          exact ⟨r', rfl, e⟩
        · rw [if_neg e] at h
          cases h
    rintro (⟨c, s2, rfl, rfl, h⟩ | ⟨a, b, c, s2, rfl, na, nb, rfl, h⟩)
    · obtain ⟨r, h1, h2⟩ := rc h
      unfold readF
      rw [fact_alw, h1]
      dsimp only
      rw [if_pos (show (Fact.alw c).sh = alS s2 by show alS c.sh = _; rw [h2])]
    · obtain ⟨r, h1, h2⟩ := rc h
      unfold readF
      rw [fact_mk na nb, h1]
      dsimp only
      rw [if_pos (show (Fact.mk a b c).sh = mkS a b s2 by show mkS a b c.sh = _; rw [h2])]
theorem sp_al (r : Cs) : (alS r).take 7 = q "always " ∧ (alS r).drop 7 = r := by
  have e : alS r = q "always " ++ r := by
    unfold alS
    rw [q_split "always" " " "always " (by decide)]
  rw [e]
  exact ⟨List.take_left' (by decide), List.drop_left' (by decide)⟩
theorem al_of {s : Cs} (h : s.take 7 = q "always ") : s = alS (s.drop 7) := by
  have e := List.take_append_drop 7 s
  rw [h] at e
  unfold alS
  rw [← q_split "always" " " "always " (by decide)]
  exact e.symm
theorem mk_no (a b r : Cs) : (mkS a b r).take 7 ≠ q "always " := fun h => by
  have := congrArg (fun l : Cs => l.head?) h
  have e : mkS a b r = 109 :: (mkS a b r).drop 1 := by
    unfold mkS
    have : q "makes" = [109, 97, 107, 101, 115] := by decide
    rw [this]
    rfl
  rw [e] at this
  have e2 : q "always " = [97, 108, 119, 97, 121, 115, 32] := by decide
  rw [e2] at this
  simp at this
theorem sp_mk {a b : Cs} (na : Nm a) (nb : Nm b) (r : Cs) : sp 32 (mkS a b r) = q "makes" :: a :: b :: sp 32 r := by
  have e : q " " = [32] := by decide
  unfold mkS
  rw [e]
  show sp 32 (q "makes" ++ 32 :: (a ++ 32 :: (b ++ 32 :: r))) = _
  rw [sp_cons _ (by decide), sp_cons _ (nm_sp na), sp_cons _ (nm_sp nb)]
theorem drop_mk (a b r : Cs) : (mkS a b r).drop (8 + a.length + b.length) = r := by
  have e : mkS a b r = (q "makes" ++ (q " " ++ (a ++ (q " " ++ (b ++ q " "))))) ++ r := by
    unfold mkS
    simp only [List.append_assoc]
  have l1 : (q "makes").length = 5 := by decide
  have l2 : (q " ").length = 1 := by decide
  rw [e]
  exact List.drop_left' (by simp only [List.length_append, l1, l2]; omega)
theorem lawF_iff {n m : Nat} {s : Cs} {f : Fact} : lawF n m s = some f ↔ (∃ c s2, f = .alw c ∧ s = alS s2 ∧ lawC n m s2 = some c) ∨ ∃ a b c s2, f = .mk a b c ∧ Nm a ∧ Nm b ∧ s = mkS a b s2 ∧ lawC n m s2 = some c := by
  constructor
  · intro h
    unfold lawF at h
    by_cases h7 : s.take 7 = q "always "
    · rw [if_pos h7] at h
      left
      cases hc : lawC n m (s.drop 7) with
      | none =>
        rw [hc] at h
        cases h
      | some c =>
        rw [hc] at h
        injection h with h
        exact ⟨c, s.drop 7, h.symm, al_of h7, hc⟩
    · rw [if_neg h7] at h
      right
      split at h
      · rename_i w0 w1 w2 w3 ws e
        by_cases hw : w0 = q "makes" ∧ nmB w1 = true ∧ nmB w2 = true
        · rw [if_pos hw] at h
          obtain ⟨rfl, n1, n2⟩ := hw
          have es : s = mkS w1 w2 (joinL [32] (w3 :: ws)) := by
            have j := join_sp 32 s
            rw [e] at j
            exact j.symm
          cases hc : lawC n m (s.drop (8 + w1.length + w2.length)) with
          | none =>
            rw [hc] at h
            cases h
          | some c =>
            rw [hc] at h
            injection h with h
            refine ⟨w1, w2, c, joinL [32] (w3 :: ws), h.symm, nmB_iff.mp n1, nmB_iff.mp n2, es, ?_⟩
            rw [es, drop_mk] at hc
            exact hc
        · rw [if_neg hw] at h
          cases h
      · cases h
  · rintro (⟨c, s2, rfl, rfl, h⟩ | ⟨a, b, c, s2, rfl, na, nb, rfl, h⟩)
    · unfold lawF
      rw [if_pos (sp_al s2).1, (sp_al s2).2, h]
    · unfold lawF
      obtain ⟨w3, ws, e⟩ := List.exists_cons_of_ne_nil (sp_ne 32 s2)
      rw [if_neg (mk_no a b s2), sp_mk na nb, e]
      dsimp only
      rw [if_pos ⟨rfl, nmB_iff.mpr na, nmB_iff.mpr nb⟩, drop_mk, h]
theorem om_alS (r : Cs) : om r ≤ om (alS r) ∧ r.length ≤ (alS r).length := by
  unfold alS
  simp only [om_app, List.length_append]
  omega
theorem om_mkS (a b r : Cs) : om r ≤ om (mkS a b r) ∧ r.length ≤ (mkS a b r).length := by
  unfold mkS
  simp only [om_app, List.length_append]
  omega
theorem opt_ext {α : Type} {a b : Option α} (h : ∀ x, a = some x ↔ b = some x) : a = b := by
  cases a with
  | none =>
    cases b with
    | none => rfl
    | some y => exact absurd ((h y).mpr rfl) (by simp)
  | some x => exact ((h x).mp rfl).symm
theorem readF_eq {n n' m : Nat} {s : Cs} (h1 : om s < n) (h2 : om s < n') (hm : s.length ≤ m) : readF n s = lawF n' m s := by
  refine opt_ext fun f => ?_
  rw [readF_iff, lawF_iff]
  constructor
  · rintro (⟨c, s2, rfl, rfl, h⟩ | ⟨a, b, c, s2, rfl, na, nb, rfl, h⟩)
    · have := om_alS s2
      exact .inl ⟨c, s2, rfl, rfl, by rw [← readC_eq (n := n) (by omega) (by omega) (by omega)]; exact h⟩
    · have := om_mkS a b s2
      exact .inr ⟨a, b, c, s2, rfl, na, nb, rfl, by rw [← readC_eq (n := n) (by omega) (by omega) (by omega)]; exact h⟩
  · rintro (⟨c, s2, rfl, rfl, h⟩ | ⟨a, b, c, s2, rfl, na, nb, rfl, h⟩)
    · have := om_alS s2
      exact .inl ⟨c, s2, rfl, rfl, by rw [readC_eq (n' := n') (m := m) (by omega) (by omega) (by omega)]; exact h⟩
    · have := om_mkS a b s2
      exact .inr ⟨a, b, c, s2, rfl, na, nb, rfl, by rw [readC_eq (n' := n') (m := m) (by omega) (by omega) (by omega)]; exact h⟩
theorem lawF_sh {n m : Nat} {s : Cs} {f : Fact} (h : lawF n m s = some f) : f.sh = s ∧ f.wf := by
  rcases lawF_iff.mp h with ⟨c, s2, rfl, rfl, h9⟩ | ⟨a, b, c, s2, rfl, na, nb, rfl, h9⟩
  · obtain ⟨e1, e2⟩ := lawC_sh h9
    exact ⟨by show alS c.sh = _; rw [e1], e2⟩
  · obtain ⟨e1, e2⟩ := lawC_sh h9
    exact ⟨by show mkS a b c.sh = _; rw [e1], na, nb, e2⟩
theorem lawF_short {n m : Nat} {s : Cs} (h7 : s.take 7 ≠ q "always ") (h : (sp 32 s).length < 4) : lawF n m s = none := by
  unfold lawF
  rw [if_neg h7]
  split
  · rename_i w0 w1 w2 w3 ws e
    rw [e] at h
    simp at h
    omega
  · rfl
theorem lawF_words {n m : Nat} {s w0 w1 w2 w3 : Cs} {ws : List Cs} (h7 : s.take 7 ≠ q "always ") (e : sp 32 s = w0 :: w1 :: w2 :: w3 :: ws) : lawF n m s = if w0 = q "makes" ∧ nmB w1 = true ∧ nmB w2 = true then (lawC n m (s.drop (8 + w1.length + w2.length))).map (Fact.mk w1 w2) else none := by
  unfold lawF
  rw [if_neg h7, e]
  dsimp only
  split
  · cases lawC n m (s.drop (8 + w1.length + w2.length)) <;> rfl
  · rfl
theorem sp_four {s w0 w1 w2 w3 : Cs} {ws : List Cs} (e : sp 32 s = w0 :: w1 :: w2 :: w3 :: ws) : s = w0 ++ (32 :: (w1 ++ (32 :: (w2 ++ (32 :: joinL [32] (w3 :: ws)))))) := by
  have j := join_sp 32 s
  rw [e] at j
  exact j.symm
/-! ### traces -/
abbrev Trace := List Cs × List (Cs × List Cs)
def stp (w : Cs) : Option Cs := if w.drop (w.length - 1) = q ">" ∧ nmB (w.take (w.length - 1)) = true then some (w.take (w.length - 1)) else none
def trW : List Cs → Option (List (Cs × List Cs))
  | [] => some []
  | [_] => none
  | st :: an :: r => match stp st with
    | none => none
    | some a => match rdA an with
      | none => none
      | some ns => match trW r with
        | none => none
        | some t => some ((a, ns) :: t)
def rdT (s : Cs) : Option Trace := match sp 32 s with
  | [] => none
  | w0 :: ws => match rdA w0 with
    | none => none
    | some a => match trW ws with
      | none => none
      | some t => some (a, t)
def turnS (t : Cs × List Cs) : Cs := t.1 ++ (q "> " ++ shA t.2)
def shT (t : Trace) : Cs := joinL (q " ") (shA t.1 :: t.2.map turnS)
theorem stp_some {w a : Cs} (h : stp w = some a) : w = a ++ q ">" ∧ Nm a := by
  unfold stp at h
  by_cases e : w.drop (w.length - 1) = q ">" ∧ nmB (w.take (w.length - 1)) = true
  · rw [if_pos e] at h
    injection h with h
    subst h
    refine ⟨?_, nmB_iff.mp e.2⟩
    rw [← e.1, List.take_append_drop]
  · rw [if_neg e] at h
    cases h
def TrOk (t : Trace) : Prop := ANs t.1 ∧ ∀ x ∈ t.2, Nm x.1 ∧ ANs x.2
theorem trW_sh : ∀ (ws : List Cs) (t : List (Cs × List Cs)), trW ws = some t → tailL [32] ws = tailL [32] (t.map turnS) ∧ (∀ x ∈ t, Nm x.1 ∧ ANs x.2) ∧ ws.length = 2 * t.length
  | [], t, h => by
    injection h with h
    subst h
    exact ⟨rfl, fun _ h => (nomatch h), rfl⟩
  | [_], t, h => by cases h
  | st :: an :: r, t, h => by
    unfold trW at h
    cases h1 : stp st with
    | none =>
      rw [h1] at h
      cases h
    | some a =>
      rw [h1] at h
      dsimp only at h
      cases h2 : rdA an with
      | none =>
        rw [h2] at h
        cases h
      | some ns =>
        rw [h2] at h
        dsimp only at h
        cases h3 : trW r with
        | none =>
          rw [h3] at h
          cases h
        | some t' =>
          rw [h3] at h
          injection h with h
          subst h
          obtain ⟨i1, i2, i3⟩ := trW_sh r t' h3
          obtain ⟨e1, n1⟩ := stp_some h1
          obtain ⟨e2, n2⟩ := rdA_sh h2
          refine ⟨?_, fun x hx => ?_, ?_⟩
          · have c1 : ∀ (x : Cs) (xs : List Cs), tailL [32] (x :: xs) = [32] ++ (x ++ tailL [32] xs) := fun x xs => by
              unfold tailL
              rw [List.map_cons, List.flatten_cons, List.append_assoc]
            rw [c1, c1, i1, List.map_cons, c1, e1]
            have q2 : q "> " = q ">" ++ [32] := by decide
            have t1 : turnS (a, ns) = a ++ (q ">" ++ [32] ++ an) := by
              unfold turnS
              dsimp only
              rw [e2, q2]
            rw [t1]
            simp only [List.append_assoc]
          · rcases List.mem_cons.mp hx with e | hx
            · rw [e]
              exact ⟨n1, n2⟩
            · exact i2 x hx
          · simp only [List.length_cons, i3]
            omega
theorem rdT_sh {s : Cs} {t : Trace} (h : rdT s = some t) : shT t = s ∧ TrOk t := by
  unfold rdT at h
  cases hs : sp 32 s with
  | nil => exact absurd hs (sp_ne 32 s)
  | cons w0 ws =>
    rw [hs] at h
    dsimp only at h
    cases h1 : rdA w0 with
    | none =>
      rw [h1] at h
      cases h
    | some a =>
      rw [h1] at h
      dsimp only at h
      cases h2 : trW ws with
      | none =>
        rw [h2] at h
        cases h
      | some t' =>
        rw [h2] at h
        injection h with h
        subst h
        obtain ⟨e1, n1⟩ := rdA_sh h1
        obtain ⟨e2, n2, _⟩ := trW_sh ws t' h2
        refine ⟨?_, n1, n2⟩
        have j := join_sp 32 s
        rw [hs, join_tail, e2] at j
        unfold shT
        have e : q " " = [32] := by decide
        rw [e, join_tail, e1]
        exact j
/-! ### addresses -/
abbrev Addr' := Cs × List Nat
def rdN (w : Cs) : Option Nat := match number w with
  | some (k, []) => some k
  | _ => none
def mapO {α β : Type} (f : α → Option β) : List α → Option (List β)
  | [] => some []
  | x :: r => match f x with
    | none => none
    | some y => match mapO f r with
      | none => none
      | some ys => some (y :: ys)
def rdX (s : Cs) : Option Addr' := match par [58] [] s with
  | none => none
  | some (nm, rest) => if nm = [] ∨ nmB nm = true then (match mapO rdN (if rest = [] then [] else sp 46 rest) with
    | none => none
    | some ks => some (nm, ks)) else none
def shX (x : Addr') : Cs := x.1 ++ (q ":" ++ joinL (q ".") (x.2.map numL))
theorem par_some (c : Nat) : ∀ (l acc p r : Cs), par [c] acc l = some (p, r) → acc ++ l = p ++ c :: r
  | [], acc, p, r, h => by cases h
  | x :: l, acc, p, r, h => by
    by_cases n : x = c
    · subst n
      rw [par_hit (show pre [x] (x :: l) = true from pre_self [x] l)] at h
      injection h with h
      injection h with e1 e2
      subst e1 e2
      rfl
    · rw [par_miss (pre_of_head [] l n)] at h
      have := par_some c l _ p r h
      rw [← this, List.append_assoc]
      rfl
theorem par_none (c : Nat) : ∀ (l acc : Cs), par [c] acc l = none → c ∉ l
  | [], acc, h => by simp
  | x :: l, acc, h => by
    by_cases n : x = c
    · subst n
      rw [par_hit (show pre [x] (x :: l) = true from pre_self [x] l)] at h
      cases h
    · rw [par_miss (pre_of_head [] l n)] at h
      have := par_none c l _ h
      intro z
      rcases List.mem_cons.mp z with z | z
      · exact n z.symm
      · exact this z
theorem rdN_some {w : Cs} {k : Nat} (h : rdN w = some k) : numL k = w ∧ k < 1000000000 := by
  unfold rdN at h
  split at h
  · rename_i k' e
    injection h with h
    subst h
    obtain ⟨e1, _, e3⟩ := number_some e
    exact ⟨by rw [e1, List.append_nil], e3⟩
  · cases h
theorem mapO_some {α β : Type} {f : α → Option β} : ∀ {l : List α} {ys : List β}, mapO f l = some ys → ∀ (g : β → α) (P : β → Prop), (∀ x y, f x = some y → g y = x ∧ P y) → ys.map g = l ∧ ∀ y ∈ ys, P y
  | [], ys, h, g, P, hg => by
    injection h with h
    subst h
    exact ⟨rfl, fun _ h => (nomatch h)⟩
  | x :: r, ys, h, g, P, hg => by
    unfold mapO at h
    cases h1 : f x with
    | none =>
      rw [h1] at h
      cases h
    | some y =>
      rw [h1] at h
      dsimp only at h
      cases h2 : mapO f r with
      | none =>
        rw [h2] at h
        cases h
      | some ys' =>
        rw [h2] at h
        injection h with h
        subst h
        obtain ⟨i1, i2⟩ := mapO_some h2 g P hg
        obtain ⟨j1, j2⟩ := hg x y h1
        exact ⟨by rw [List.map_cons, i1, j1], fun z hz => by
          rcases List.mem_cons.mp hz with e | hz
          · rw [e]
            exact j2
          · exact i2 z hz⟩
theorem shX_of {nm rest : Cs} {ks : List Nat} (h : mapO rdN (if rest = [] then [] else sp 46 rest) = some ks) : joinL (q ".") (ks.map numL) = rest ∧ ∀ k ∈ ks, k < 1000000000 := by
  obtain ⟨e1, e2⟩ := mapO_some h numL (fun k => k < 1000000000) fun x y h => rdN_some h
  refine ⟨?_, e2⟩
  rw [e1]
  have e : q "." = [46] := by decide
  rw [e]
  by_cases hr : rest = []
  · rw [if_pos hr, hr]
    rfl
  · rw [if_neg hr, join_sp]
theorem rdX_sh {s : Cs} {x : Addr'} (h : rdX s = some x) : shX x = s ∧ (x.1 = [] ∨ Nm x.1) ∧ ∀ k ∈ x.2, k < 1000000000 := by
  unfold rdX at h
  cases hp : par [58] [] s with
  | none =>
    rw [hp] at h
    cases h
  | some z =>
    obtain ⟨nm, rest⟩ := z
    rw [hp] at h
    dsimp only at h
    by_cases hn : nm = [] ∨ nmB nm = true
    · rw [if_pos hn] at h
      cases hm : mapO rdN (if rest = [] then [] else sp 46 rest) with
      | none =>
        rw [hm] at h
        cases h
      | some ks =>
        rw [hm] at h
        injection h with h
        subst h
        obtain ⟨e1, e2⟩ := shX_of (nm := nm) hm
        have e3 := par_some 58 s [] nm rest hp
        refine ⟨?_, hn.imp id nmB_iff.mp, e2⟩
        unfold shX
        dsimp only
        rw [e1]
        exact e3.symm
    · rw [if_neg hn] at h
      cases h
end M
end

section
set_option Elab.async false
set_option linter.all false
set_option maxRecDepth 100000
set_option maxHeartbeats 4000000
/-! Comprehensions with a test, by what they give. -/
namespace HL
open PySem PySem.Spec PyProof.Rows L2 He
section
variable {K : PySem.W.Frag} {a : Addr} {te : TE} {tt : TT} {i : Nat} {σ : L2.St} {H1 : Hp} {D : Addr} {Qd : Hp → Prop} {α : Type} {as : List α} {g : α → V} {f : α → Bool}
theorem filt_succ {l : List α} {k : Nat} {x : α} (h : l[k]? = some x) : ((l.take (k + 1)).filter f).map g = if f x = true then ((l.take k).filter f).map g ++ [g x] else ((l.take k).filter f).map g := by
  rw [take_succ' h, List.filter_append, List.map_append]
  by_cases hf : f x = true
  · rw [if_pos hf, List.filter_cons_of_pos hf]
    rfl
  · rw [if_neg hf, List.filter_cons_of_neg hf, List.filter_nil, List.map_nil, List.append_nil]
theorem turnF {k : Nat} {x : α} {H : Hp} (hD : H1 D = none) (hx : as[k]? = some x) (hsz : as.length ≤ sizeLine) (e : Same H1 H) (hl : H D = some (.lst (((as.take k).filter f).map g)))
    (ht : ∀ H R, Same H1 H → (∀ H', Same H H' → R (f x) H') → tt ((wipe σ [i]).set i (some (g x))) H R) (he : ∀ H Q, f x = true → Same H1 H → (∀ H', Same H H' → Q (g x) H') → te ((wipe σ [i]).set i (some (g x))) H Q) :
    wipe ((wipe σ [i]).set i (some (g x))) [i] = wipe σ [i] ∧ tt ((wipe σ [i]).set i (some (g x))) H fun b H3 => if b = true then te ((wipe σ [i]).set i (some (g x))) H3 fun y H4 => ∃ acc, H4 D = some (.lst acc) ∧ acc.length < sizeLine ∧
      (Same H1 (upd H4 D (.lst (acc ++ [y]))) ∧ upd H4 D (.lst (acc ++ [y])) D = some (.lst (((as.take (k + 1)).filter f).map g))) else (Same H1 H3 ∧ H3 D = some (.lst (((as.take (k + 1)).filter f).map g))) := by
  refine ⟨wipe1, ht H _ e fun H3 e3 => ?_⟩
  have hk := (List.getElem?_eq_some_iff.mp hx).1
  rw [filt_succ hx]
  by_cases hf : f x = true
  · rw [if_pos hf, if_pos hf]
    refine he H3 _ hf (e.trans e3) fun H4 e4 => ⟨_, e4 _ _ (e3 _ _ hl), ?_, fun b u z => ?_, by rw [upd_same]⟩
    · have h1 := (List.filter_sublist (p := f) (l := as.take k)).length_le
      rw [List.length_map]
      rw [List.length_take] at h1
      omega
    · rw [upd_ne (ne_of_none z hD)]
      exact e4 _ _ (e3 _ _ (e _ _ z))
  · rw [if_neg hf, if_neg hf]
    exact ⟨e.trans e3, e3 _ _ hl⟩
/-- [e for x in xs if t], a list, e the item itself -/
theorem lcLF (hD : H1 D = none) (hxs : SqL K H1 a (as.map g)) (hsz : as.length ≤ sizeLine)
    (ht : ∀ (k : Nat) x H R, as[k]? = some x → Same H1 H → (∀ H', Same H H' → R (f x) H') → tt ((wipe σ [i]).set i (some (g x))) H R)
    (he : ∀ (k : Nat) x H Q, as[k]? = some x → f x = true → Same H1 H → (∀ H', Same H H' → Q (g x) H') → te ((wipe σ [i]).set i (some (g x))) H Q) (hd : ∀ H, Same H1 H → H D = some (.lst ((as.filter f).map g)) → Qd H) :
    ∃ W : Nat → Nat → Hp → Prop, (∃ m, W 0 m (upd H1 D (.lst []))) ∧ ∀ j m H, W j m H →
      ((Itl K a).stop j H ∧ Qd H) ∨ ((Itl K a).go j H ∧ ∃ Nx : Hp → Prop, (∀ H', Nx H' → ∃ m', m' < m ∧ W (j + 1) m' H') ∧ ∀ x H', (Itl K a).yld j H x H' → gName i x (wipe σ [i]) H' fun σ2 H2 => wipe σ2 [i] = wipe σ [i] ∧ tt σ2 H2 fun b H3 =>
        if b = true then te σ2 H3 fun y H4 => ∃ acc, H4 D = some (.lst acc) ∧ acc.length < sizeLine ∧ Nx (upd H4 D (.lst (acc ++ [y]))) else Nx H3) := by
  refine lc_list (xs := as.map g) (fun k H => Same H1 H ∧ H D = some (.lst (((as.take k).filter f).map g))) ⟨same_new hD, by rw [upd_same] <;> rfl⟩ (fun k H _ ⟨e, _⟩ => e.seq hxs) (fun k v H hv ⟨e, hl⟩ => ?_) (fun H ⟨e, hl⟩ => hd H e (by rw [hl, List.length_map, List.take_length]))
  rw [List.getElem?_map] at hv
  cases hx : as[k]? with
  | none =>
    rw [hx] at hv
    cases hv
  | some x =>
    rw [hx] at hv
    have hv : some (g x) = some v := hv
    cases hv
    exact turnF hD hx hsz e hl (fun H R e h => ht k x H R hx e h) fun H Q h1 e h => he k x H Q hx h1 e h
/-- .. a tuple -/
theorem lcTF (hD : H1 D = none) (hxs : SqT K H1 a (as.map g)) (hsz : as.length ≤ sizeLine)
    (ht : ∀ (k : Nat) x H R, as[k]? = some x → Same H1 H → (∀ H', Same H H' → R (f x) H') → tt ((wipe σ [i]).set i (some (g x))) H R)
    (he : ∀ (k : Nat) x H Q, as[k]? = some x → f x = true → Same H1 H → (∀ H', Same H H' → Q (g x) H') → te ((wipe σ [i]).set i (some (g x))) H Q) (hd : ∀ H, Same H1 H → H D = some (.lst ((as.filter f).map g)) → Qd H) :
    ∃ W : Nat → Nat → Hp → Prop, (∃ m, W 0 m (upd H1 D (.lst []))) ∧ ∀ j m H, W j m H →
      ((Itt K a).stop j H ∧ Qd H) ∨ ((Itt K a).go j H ∧ ∃ Nx : Hp → Prop, (∀ H', Nx H' → ∃ m', m' < m ∧ W (j + 1) m' H') ∧ ∀ x H', (Itt K a).yld j H x H' → gName i x (wipe σ [i]) H' fun σ2 H2 => wipe σ2 [i] = wipe σ [i] ∧ tt σ2 H2 fun b H3 =>
        if b = true then te σ2 H3 fun y H4 => ∃ acc, H4 D = some (.lst acc) ∧ acc.length < sizeLine ∧ Nx (upd H4 D (.lst (acc ++ [y]))) else Nx H3) := by
  refine lc_tup (xs := as.map g) (fun k H => Same H1 H ∧ H D = some (.lst (((as.take k).filter f).map g))) ⟨same_new hD, by rw [upd_same] <;> rfl⟩ (fun k H _ ⟨e, _⟩ => tseq e hxs) (fun k v H hv ⟨e, hl⟩ => ?_) (fun H ⟨e, hl⟩ => hd H e (by rw [hl, List.length_map, List.take_length]))
  rw [List.getElem?_map] at hv
  cases hx : as[k]? with
  | none =>
    rw [hx] at hv
    cases hv
  | some x =>
    rw [hx] at hv
    have hv : some (g x) = some v := hv
    cases hv
    exact turnF hD hx hsz e hl (fun H R e h => ht k x H R hx e h) fun H Q h1 e h => he k x H Q hx h1 e h
/-- .. a text, sign by sign -/
theorem lcSF {x : Str} {f : Nat → Bool} (hD : H1 D = none) (hsz : x.cps.size ≤ sizeLine)
    (ht : ∀ (k : Nat) c H R, x.cps[k]? = some c → Same H1 H → (∀ H', Same H H' → R (f c) H') → tt ((wipe σ [i]).set i (some (.str ⟨#[c]⟩))) H R)
    (he : ∀ (k : Nat) c H Q, x.cps[k]? = some c → f c = true → Same H1 H → (∀ H', Same H H' → Q (.str ⟨#[c]⟩) H') → te ((wipe σ [i]).set i (some (.str ⟨#[c]⟩))) H Q) (hd : ∀ H, Same H1 H → H D = some (.lst ((x.cps.toList.filter f).map fun c => V.str ⟨#[c]⟩)) → Qd H) :
    ∃ W : Nat → Nat → Hp → Prop, (∃ m, W 0 m (upd H1 D (.lst []))) ∧ ∀ j m H, W j m H →
      ((Its x).stop j H ∧ Qd H) ∨ ((Its x).go j H ∧ ∃ Nx : Hp → Prop, (∀ H', Nx H' → ∃ m', m' < m ∧ W (j + 1) m' H') ∧ ∀ v H', (Its x).yld j H v H' → gName i v (wipe σ [i]) H' fun σ2 H2 => wipe σ2 [i] = wipe σ [i] ∧ tt σ2 H2 fun b H3 =>
        if b = true then te σ2 H3 fun y H4 => ∃ acc, H4 D = some (.lst acc) ∧ acc.length < sizeLine ∧ Nx (upd H4 D (.lst (acc ++ [y]))) else Nx H3) := by
  have hlen : x.cps.toList.length = x.cps.size := by simp
  refine ⟨fun k m H => m = x.cps.size - k ∧ k ≤ x.cps.size ∧ Same H1 H ∧ H D = some (.lst (((x.cps.toList.take k).filter f).map fun c => V.str ⟨#[c]⟩)), ⟨_, rfl, Nat.zero_le _, same_new hD, by rw [upd_same] <;> rfl⟩, ?_⟩
  rintro k m H ⟨rfl, hk, e, hl⟩
  by_cases hlt : k < x.cps.size
  · refine .inr ⟨hlt, fun H' => Same H1 H' ∧ H' D = some (.lst (((x.cps.toList.take (k + 1)).filter f).map fun c => V.str ⟨#[c]⟩)), fun H' h' => ⟨x.cps.size - (k + 1), by omega, rfl, hlt, h'⟩, fun v H' y => ?_⟩
    obtain ⟨e0, c, hc, ev⟩ := y
    subst e0 ev
    have hc' : x.cps.toList[k]? = some c := by rw [Array.getElem?_toList]; exact hc
    exact turnF (as := x.cps.toList) (g := fun c => V.str ⟨#[c]⟩) hD hc' (by rw [hlen]; exact hsz) e hl (fun H R e h => ht k c H R hc e h) fun H Q h1 e h => he k c H Q hc h1 e h
  · have ek : k = x.cps.size := by omega
    subst ek
    exact .inl ⟨Nat.le_refl _, hd H e (by rw [hl, ← hlen, List.take_length])⟩
end
end HL
end

section
set_option Elab.async false
set_option linter.all false
set_option maxRecDepth 100000
set_option maxHeartbeats 4000000
/-! k93: rows of names, answers. -/
namespace K93
open PySem PySem.Spec PyProof.Rows L2 He HL
theorem isEmpty_filt {α : Type} (p : α → Bool) : ∀ l : List α, (l.filter fun x => !p x).isEmpty = l.all p
  | [] => rfl
  | x :: l => by
    cases h : p x with
    | true =>
      rw [List.filter_cons_of_neg (by simp [h]), isEmpty_filt p l, List.all_cons, h]
      rfl
    | false =>
      rw [List.filter_cons_of_pos (by simp [h]), List.all_cons, h]
      rfl
section
variable {w : World} {K : PySem.W.Frag} {mg : Str → Option Value} {base : Heap}
abbrev sV (ns : List (List Nat)) : List V := ns.map fun n => V.str (S n)
def sD (ns : List (List Nat)) : List PyData := ns.map fun n => PyData.str (S n)
theorem sV_str (ns : List (List Nat)) : sV ns = (ns.map S).map V.str := by rw [List.map_map]; rfl
theorem map_S_inj : ∀ {a b : List (List Nat)}, a.map S = b.map S → a = b
  | [], [], _ => rfl
  | x :: a, y :: b, h => by
    injection h with h1 h2
    rw [S_inj h1, map_S_inj h2]
theorem strL_dp {H : Hp} : ∀ ys : List Str, DpAll K H (ys.map V.str) (ys.map PyData.str)
  | [] => .nil
  | y :: ys => .cons (.str _) (strL_dp ys)
theorem strL_eqv : ∀ xs ys : List Str, PyData.eqvAll (xs.map PyData.str) (ys.map PyData.str) = decide (xs = ys)
  | [], [] => rfl
  | [], y :: ys => by simp [PyData.eqvAll]
  | x :: xs, [] => by simp [PyData.eqvAll]
  | x :: xs, y :: ys => by
    have ih := strL_eqv xs ys
    simp only [List.map_cons, PyData.eqvAll, ih, PyData.eqv]
    by_cases h : x = y
    · subst h
      simp
    · simp [h]
theorem strL_lay : ∀ ys : List Str, (∀ y ∈ ys, PyData.strOk y = true) → PyData.canLayAll0 (ys.map PyData.str) = true
  | [], _ => by simp [PyData.canLayAll0]
  | y :: ys, h => by
    simp only [List.map_cons, PyData.canLayAll0, PyData.canLay0, h y List.mem_cons_self, strL_lay ys fun z hz => h z (List.mem_cons_of_mem _ hz), Bool.and_true]
theorem strL_depth : ∀ ys : List Str, PyData.depthAll (ys.map PyData.str) = 0
  | [] => by simp [PyData.depthAll]
  | y :: ys => by simp [PyData.depthAll, PyData.depth, strL_depth ys]
theorem eqv_names {K : PySem.W.Frag} {H : Hp} {l p : Addr} {ns : List (List Nat)} {ys : List Str} {units : Nat} {Q : VK} (h1 : H l = some (.lst (sV ns))) (h2 : H p = some (.lst (ys.map V.str))) (hok : ∀ n ∈ ns, PyData.strOk (S n) = true) (hy : ∀ k, k ∈ ys ↔ k ∈ ns.map S) (nd : ys.Nodup) (so : sortedS ys = true) (hu : units + 10 < cLine)
    (h : Q (.bl (decide (N.Ord (ns.map S)))) H) : XP.rEqE K units (.ref l) (.ref p) H Q := by
  have ok1 : ∀ y ∈ ns.map S, PyData.strOk y = true := fun y hy => by
    obtain ⟨n, hn, rfl⟩ := List.mem_map.mp hy
    exact hok n hn
  refine ⟨.list ((ns.map S).map PyData.str), .list (ys.map PyData.str), .lst (sql (by rw [h1, sV_str])) (strL_dp _), .lst (sql h2) (strL_dp _), ?_, ?_, ?_, ?_⟩
  · simp only [PyData.canLay0]
    exact strL_lay _ ok1
  · simp only [PyData.canLay0]
    exact strL_lay _ fun y z => ok1 y ((hy y).mp z)
  · simp only [PyData.depth, strL_depth]
    omega
  · have e : PyData.eqv (.list ((ns.map S).map PyData.str)) (.list (ys.map PyData.str)) = decide (N.Ord (ns.map S)) := by
      simp only [PyData.eqv, strL_eqv]
      exact decide_eq_decide.mpr (N.ord_iff nd hy so)
    rw [e]
    exact h
theorem ok_nm {n : List Nat} (h : M.nmB n = true) : PyData.strOk (S n) = true := nm_ok (M.nmB_iff.mp h)
def spAre : Sp := fun vs H Q _ => ∃ t ns, vs = [.ref t] ∧ H t = some (.tup (sV ns)) ∧ ns.length ≤ 10000 ∧ (∀ n ∈ ns, n.length ≤ 10000) ∧ (ns.all M.nmB = true → ns.length < 64) ∧ ∀ H', Same H H' → Q (.bl (decide (M.ANs ns))) H'
abbrev n_law_is_name : List Str := ["_law_thing", "_law_letters", "_law_sign"]
theorem sc_law_is_name : FnScope n_law_is_name ["_law_thing"] (defScope s_law_is_name) := ⟨rfl, rfl, rfl, by decide +kernel, rfl, by decide +kernel, by decide +kernel⟩
theorem bi_law_is_name : ∀ (kV doc pm : Value) (an : Option Addr) (cdv ct : Value) (us : List Value), us.length = 1 → bindArgs (PySem.W.fnOf d_law_is_name.name d_law_is_name.qual d_law_is_name.params d_law_is_name.body d_law_is_name.scope .none kV doc pm an cdv ct) ⟨us, []⟩ = pure ([("_law_thing" : Str)].zip us) := fun kV doc pm an cdv ct us hu => by
  match us, hu with
  | [u0], _ => rfl
def spLIs : Sp := fun vs H Q _ => ∃ n, vs = [.str (S n)] ∧ n.length ≤ 10000 ∧ ∀ H', Same H H' → Q (.bl (M.nmB n)) H'
theorem o_lis_name (W : Wl K mg) : OkD w K mg base CX0 1 d_law_is_name ["_law_thing"] spLIs := by
  refine HL.ok_of0 W.D_law_is_name sc_law_is_name (fun vs H Q E ⟨_, h, _⟩ => by rw [h]; rfl) bi_law_is_name fun cdv A outer s H vs Q E hr h => ?_
  have nd := sc_law_is_name.nd
  refine ⟨_, (pss_cons (ps_set (i := 1) nd rfl (Or.inr rfl) pe_str)
    (pss_one (ps_ret (pe_and (pe_callB call_isi (by rfl) W.f_isinstance (by decide +kernel) (pa_cons (pv 0) (pa_cons (pe_bltn (v := .ty "str") (by rfl) W.f_str (by decide +kernel) rfl) pa_nil))) (pe_and (pe_chain op_lt op_lt pe_int (pe_callB call_len_str (by rfl) W.f_len (by decide +kernel) (pa_cons (pv 0) pa_nil)) pe_int) (pe_one (pe_cmpR XP.op_eqNil (pe_lc (own := [("_law_sign", 2)]) (g := gName 2) (by rfl) nd (pi_str (pv 0)) (blkOk_by (own := [("_law_sign", 2)]) (N := n_law_is_name) (sc := defScope s_law_is_name) (by decide +kernel)) (fun _ _ _ _ _ => pg_name (i := 2) nd rfl (Or.inl rfl)) (fun _ _ _ _ _ => pts_one (pt_cmpR op_notIn_sign (pv 2) (pv 1) (by rfl))) (fun _ _ _ _ _ => (pv 2))) (pe_lst pa_nil) (nomark _)))))))), ?_⟩
  obtain ⟨n, rfl, hn, hq⟩ := h
  have nl : (S n).length ≤ sizeLine := by rw [S_len]; exact small (by omega)
  have b1 : decide ((0 : Int) < ((S n).length : Nat)) = decide (0 < n.length) := by
    rw [S_len]
    exact decide_eq_decide.mpr (by omega)
  have b2 : decide ((((S n).length : Nat) : Int) < 9) = decide (n.length ≤ 8) := by
    rw [S_len]
    exact decide_eq_decide.mpr (by omega)
  dsimp only [gName]
  refine ⟨_, rfl, _, _, _, _, true, rfl, .ty _, .base (.str _), kit_ty (by decide +kernel), _, rfl, iteT ?_⟩
  have e : M.nmB n = (decide (0 < n.length) && (decide (n.length ≤ 8) && n.all M.isLet)) := by
    unfold M.nmB
    rw [← Bool.and_assoc]
    congr 1
    rw [← Bool.decide_and]
  rw [e] at hq
  refine ⟨_, rfl, _, rfl, nl, _, _, rfl, rfl, _, rfl, ?_⟩
  rw [b1]
  cases h1 : decide (0 < n.length) with
  | false =>
    rw [h1] at hq
    exact iteF ⟨_, rfl, iteF (hq _ (Same.refl _))⟩
  | true =>
    rw [h1] at hq
    refine iteT ⟨_, _, rfl, rfl, _, rfl, ?_⟩
    rw [b2]
    cases h2 : decide (n.length ≤ 8) with
    | false =>
      rw [h2] at hq
      exact iteF (hq _ (Same.refl _))
    | true =>
      rw [h2] at hq
      refine iteT ⟨_, rfl, _, rfl, fun D hD => HL.lcSF (f := fun c => !M.isLet c) hD (by simpa [S] using small (by omega)) (fun k c H1 R hc e h => ?_) (fun k c H1 Q1 hc h1 e h => ?_) fun H1 e1 hl1 => ?_⟩
      · refine ⟨_, rfl, _, rfl, _, _, rfl, rfl, _, rfl, ?_⟩
        rw [isLet_in]
        exact h _ (Same.refl _)
      · exact ⟨_, rfl, h _ (Same.refl _)⟩
      · refine ⟨by decide, fun l hl => ⟨hr.units0, D, l, _, rfl, rfl, .inl ⟨sql (same_new hl _ _ hl1), sql upd_same⟩, ?_⟩⟩
        have z : (((S n).cps.toList.filter fun c => !M.isLet c).map fun c => V.str ⟨#[c]⟩).isEmpty = n.all M.isLet := by
          rw [List.isEmpty_map]
          have : (S n).cps.toList = n := rfl
          rw [this, isEmpty_filt]
        rw [z]
        exact hq _ (e1.trans (same_new hl))
abbrev n_law_are_names : List Str := ["_law_thing", "_law_part"]
theorem sc_law_are_names : FnScope n_law_are_names ["_law_thing"] (defScope s_law_are_names) := ⟨rfl, rfl, rfl, by decide +kernel, rfl, by decide +kernel, by decide +kernel⟩
theorem bi_law_are_names : ∀ (kV doc pm : Value) (an : Option Addr) (cdv ct : Value) (us : List Value), us.length = 1 → bindArgs (PySem.W.fnOf d_law_are_names.name d_law_are_names.qual d_law_are_names.params d_law_are_names.body d_law_are_names.scope .none kV doc pm an cdv ct) ⟨us, []⟩ = pure ([("_law_thing" : Str)].zip us) := fun kV doc pm an cdv ct us hu => by
  match us, hu with
  | [u0], _ => rfl
theorem o_lare_names (W : Wl K mg) : OkD w K mg base CX0 2 d_law_are_names ["_law_thing"] spAre := by
  have O__law_is_name := o_lis_name (w := w) (base := base) W
  refine HL.ok_of0 W.D_law_are_names sc_law_are_names (fun vs H Q E ⟨_, _, h, _⟩ => by rw [h]; rfl) bi_law_are_names fun cdv A outer s H vs Q E hr h => ?_
  have nd := sc_law_are_names.nd
  refine ⟨_, (pss_cons (ps_if (PW.pt (pw_or (pt_not (pt_val (pe_callB call_isi (by rfl) W.f_isinstance (by decide +kernel) (pa_cons (pv 0) (pa_cons (pe_bltn (v := .ty "tuple") (by rfl) W.f_tuple (by decide +kernel) rfl) pa_nil))))) (pw_or1 (pt_cmpR XP.op_neNil (pe_lc (own := [("_law_part", 1)]) (g := gName 1) (by rfl) nd (pi_tup (pv 0)) (blkOk_by (own := [("_law_part", 1)]) (N := n_law_are_names) (sc := defScope s_law_are_names) (by decide +kernel)) (fun _ _ _ _ _ => pg_name (i := 1) nd rfl (Or.inl rfl)) (fun _ _ _ _ _ => pts_one (pt_not (pt_val (pe_cal O__law_is_name (hr.mono (by omega)) W.g__law_is_name pass0 (pa_cons (pv 1) pa_nil))))) (fun _ _ _ _ _ => (pv 1))) (pe_lst pa_nil) (nomark _))))) (pss_one (ps_ret pe_bl)) pss_nil)
    (pss_one (ps_ret (pe_cmpR XP.op_eqE (pe_callTy call_list_of (by rfl) W.f_list (by decide +kernel) (pa_cons (pv 0) pa_nil)) (XS.pe_sortSet rfl (by rfl) W.f_sorted (by rfl) W.f_set (pv 0)) (nomark _))))), ?_⟩
  obtain ⟨t, ns, rfl, ht, hl, hn, h64, hq⟩ := h
  refine ⟨_, rfl, _, _, _, _, true, rfl, .ty _, ty_tup ht, kit_ty (by decide +kernel), _, rfl, iteF ?_⟩
  refine ⟨_, rfl, _, rfl, ⟨_, sqt ht⟩, fun D hD => HL.lcTF (as := ns) (g := fun n => V.str (S n)) (f := fun n => !M.nmB n) hD (sqt ht) (small (by omega)) (fun k n H1 R hk e h => ?_) (fun k n H1 Q1 hk h1 e h => ?_) fun H1 e1 hl1 => ?_⟩
  · exact ⟨_, rfl, n, rfl, hn n (List.mem_of_getElem? hk), fun H' e' => ⟨_, rfl, h H' e'⟩⟩
  · exact ⟨_, rfl, h _ (Same.refl _)⟩
  · refine ⟨by decide, fun l hl2 => ⟨hr.units0, D, l, _, rfl, rfl, .inl ⟨sql (same_new hl2 _ _ hl1), sql upd_same⟩, ?_⟩⟩
    have z : ((ns.filter fun n => !M.nmB n).map fun n => V.str (S n)).isEmpty = ns.all M.nmB := by
      rw [List.isEmpty_map, isEmpty_filt]
    rw [z]
    have e2 := e1.trans (same_new (o := .lst []) hl2)
    generalize upd H1 l (.lst []) = H2 at e2 ⊢
    refine ⟨_, rfl, ?_⟩
    by_cases ha : ns.all M.nmB = true
    · rw [ha]
      refine iteF ?_
      refine ⟨_, rfl, t, sV ns, rfl, .inr (sqt (e2 _ _ ht)), fun l hl2 => ?_⟩
      have s2 := e2.trans (same_new (o := .lst (sV ns)) hl2)
      have hl3 : upd H2 l (.lst (sV ns)) l = some (.lst (sV ns)) := upd_same
      refine ⟨_, rfl, t, ns.map S, rfl, by rw [← sV_str]; exact sqt (s2 _ _ ht), by simpa using h64 ha, fun ys p nd hy so hp => ?_⟩
      have s3 := s2.trans (same_new (o := .lst (ys.map V.str)) hp)
      refine eqv_names (same_new hp _ _ hl3) upd_same (fun n hn => ok_nm (List.all_eq_true.mp ha n hn)) hy nd so ?_ ?_
      · exact Nat.lt_of_le_of_lt (Nat.add_le_add_left (by decide) _) hr.units
      · have e : decide (M.ANs ns) = decide (N.Ord (ns.map S)) := decide_eq_decide.mpr ⟨fun z => z.2, fun z => ⟨ha, z⟩⟩
        rw [← e]
        exact hq _ s3
    · have hf : ns.all M.nmB = false := by simpa using ha
      rw [hf]
      refine iteT ?_
      have e : decide (M.ANs ns) = false := decide_eq_false fun z => ha z.1
      rw [e] at hq
      exact hq _ e2
end
end K93
end

section
set_option Elab.async false
set_option linter.all false
set_option maxRecDepth 100000
set_option maxHeartbeats 4000000
/-! k93: answers, shown and read. -/
namespace K93
open PySem PySem.Spec PyProof.Rows L2 He HL
theorem split_one {c : Nat} {s : String} (h : M.q s = [c]) (hc : c < 256) (l : List Nat) : Txt.split (S l) (Str.ofString s) = (M.sp c l).map S := by
  have e : Str.ofString s = S [c] := by
    rw [ofq]
    exact congrArg S h
  rw [e]
  have z := SX.split_S (a := l) (b := [c]) (by simp) (by simpa using hc)
  exact z.trans (by rw [M.spl_eq])
theorem len_one {c : Nat} {s : String} (h : M.q s = [c]) : ((Str.ofString s).length == 0) = false := by
  have e : Str.ofString s = S [c] := by
    rw [ofq]
    exact congrArg S h
  rw [e, S_len]
  rfl
theorem sp_each {c : Nat} {l p : List Nat} (h : p ∈ M.sp c l) : p.length ≤ l.length := by
  have z := len_j (b := [c]) h
  rw [M.join_sp] at z
  exact z
theorem sp_count {c d : Nat} {l p : List Nat} (h : p ∈ M.sp c l) : p.count d ≤ l.count d := by
  have key : ∀ (ys : List (List Nat)), p ∈ ys → p.count d ≤ (TL.joinL [c] ys).count d := by
    intro ys
    induction ys with
    | nil => intro h; cases h
    | cons x ys ih =>
      intro h
      cases ys with
      | nil =>
        rcases List.mem_cons.mp h with rfl | h
        · exact Nat.le_refl _
        · cases h
      | cons y r =>
        rw [M.join_two, List.count_append, List.count_append]
        rcases List.mem_cons.mp h with rfl | h
        · omega
        · have := ih h
          omega
  have z := key _ h
  rw [M.join_sp] at z
  exact z
section
variable {w : World} {K : PySem.W.Frag} {mg : Str → Option Value} {base : Heap}
theorem join_ok {c : Nat} {s : String} (h : M.q s = [c]) {ys : List (List Nat)} (hl : (TL.joinL [c] ys).length ≤ 1000000) : ((ys.map S).map (·.length)).sum + (ys.map S).length * (Str.ofString s).length ≤ 16777216 := by
  have e : Str.ofString s = S [c] := by
    rw [ofq]
    exact congrArg S h
  have z := joinL_len [c] ys
  rw [SX.lens, e, S_len, List.length_map]
  simp only [List.length_singleton] at z ⊢
  omega
theorem join_one {c : Nat} {s : String} (h : M.q s = [c]) (ys : List (List Nat)) : Txt.join (Str.ofString s) (ys.map S) = S (TL.joinL [c] ys) := by
  have e : Str.ofString s = S [c] := by
    rw [ofq]
    exact congrArg S h
  rw [e]
  exact SX.join_S _ _
/-- what is told: ('told', v), or ('none', None) -/
def Due {α : Type} (At : Hp → α → V → Prop) (H : Hp) (u : Addr) : Option α → Prop
  | none => H u = some (.tup [.str (S (M.q "none")), .non])
  | some c => ∃ v, H u = some (.tup [.str (S (M.q "told")), v]) ∧ At H c v
def AAt (H : Hp) (ns : List (List Nat)) (v : V) : Prop := ∃ t, v = .ref t ∧ H t = some (.tup (sV ns))
theorem AAt.keep {H H' : Hp} {ns : List (List Nat)} {v : V} (h : AAt H ns v) (e : TupK H H') : AAt H' ns v := let ⟨t, r, h⟩ := h; ⟨t, r, e _ _ h⟩
theorem due_none {α : Type} {At : Hp → α → V → Prop} {H : Hp} {p : Addr} : Due At (upd H p (.tup [.str (Str.ofString "none"), .non])) p none := by
  unfold Due
  rw [upd_same, sq "none"]
theorem due_some {α : Type} {At : Hp → α → V → Prop} {H : Hp} {p : Addr} {v : V} {c : α} (h : At (upd H p (.tup [.str (Str.ofString "told"), v])) c v) : Due At (upd H p (.tup [.str (Str.ofString "told"), v])) p (some c) := by
  unfold Due
  exact ⟨v, by rw [upd_same, sq "told"], h⟩
end
end K93
end

section
set_option Elab.async false
set_option linter.all false
set_option maxRecDepth 100000
set_option maxHeartbeats 4000000
/-! k93: facts, shown and read. -/
namespace K93
open PySem PySem.Spec PyProof.Rows L2 He HL
section
variable {w : World} {K : PySem.W.Frag} {mg : Str → Option Value} {base : Heap}
def FAt (H : Hp) : M.Fact → V → Prop
  | .alw c, v => ∃ a u, v = .ref a ∧ H a = some (.tup [.str (S (M.q "always")), u]) ∧ CAt H c u
  | .mk x y c, v => ∃ a u, v = .ref a ∧ H a = some (.tup [.str (S (M.q "makes")), .str (S x), .str (S y), u]) ∧ CAt H c u
theorem FAt.keep {H H' : Hp} {f : M.Fact} {v : V} (h : FAt H f v) (e : TupK H H') : FAt H' f v := by
  cases f with
  | alw c => obtain ⟨a, u, r, h1, h2⟩ := h; exact ⟨a, u, r, e _ _ h1, h2.keep e⟩
  | mk x y c => obtain ⟨a, u, r, h1, h2⟩ := h; exact ⟨a, u, r, e _ _ h1, h2.keep e⟩
theorem cat_q2 (s : String) (b : List Nat) : Str.ofString s ++ S b = S (M.q s ++ b) := cat_q s b
theorem alS_sh (c : M.Cond) : (M.Fact.alw c).sh = M.q "always " ++ c.sh := by
  show M.alS c.sh = _
  unfold M.alS
  exact (M.q_split "always" " " "always " (by decide) _).symm
theorem mkS_join (a b r : List Nat) : TL.joinL [32] [M.q "makes", a, b, r] = M.mkS a b r := rfl
abbrev n_show_fact : List Str := ["fact"]
theorem sc_show_fact : FnScope n_show_fact ["fact"] (defScope s_show_fact) := ⟨rfl, rfl, rfl, by decide +kernel, rfl, by decide +kernel, by decide +kernel⟩
theorem bi_show_fact : ∀ (kV doc pm : Value) (an : Option Addr) (cdv ct : Value) (us : List Value), us.length = 1 → bindArgs (PySem.W.fnOf d_show_fact.name d_show_fact.qual d_show_fact.params d_show_fact.body d_show_fact.scope .none kV doc pm an cdv ct) ⟨us, []⟩ = pure ([("fact" : Str)].zip us) := fun kV doc pm an cdv ct us hu => by
  match us, hu with
  | [u0], _ => rfl
def spShF (n : Nat) : Sp := fun vs H Q _ => ∃ v f, vs = [v] ∧ FAt H f v ∧ M.om f.sh < n ∧ f.sh.length ≤ 100000 ∧ ∀ H', Same H H' → Q (.str (S f.sh)) H'
theorem sh_alw {c : M.Cond} : M.om c.sh ≤ M.om (M.Fact.alw c).sh ∧ c.sh.length ≤ (M.Fact.alw c).sh.length := M.om_alS c.sh
theorem sh_mk {a b : List Nat} {c : M.Cond} : M.om c.sh ≤ M.om (M.Fact.mk a b c).sh ∧ c.sh.length ≤ (M.Fact.mk a b c).sh.length := M.om_mkS a b c.sh
theorem o_show_fact (W : Wl K mg) (n : Nat) (hn : 0 < n) : OkD w K mg base CX0 (n + 2) d_show_fact ["fact"] (spShF n) := by
  have O_show_condition := o_show_cond (w := w) (base := base) W n (n + 1) (fun _ => by omega) (fun _ => by omega)
  refine HL.ok_of0 W.D_show_fact sc_show_fact (fun vs H Q E ⟨_, _, h, _⟩ => by rw [h]; rfl) bi_show_fact fun cdv A outer s H vs Q E hr h => ?_
  have nd := sc_show_fact.nd
  refine ⟨_, (pss_cons (ps_if (pt_cmpR op_eq (pe_ix ix_tup (pv 0) pe_int (fun _ _ => rfl)) pe_str (nomark _)) (pss_one (ps_ret (pe_op op_add_str pe_str (pe_cal O_show_condition (hr.mono (by omega)) W.g_show_condition pass0 (pa_cons (pe_ix ix_tup (pv 0) pe_int (fun _ _ => rfl)) pa_nil))))) pss_nil)
    (pss_one (ps_ret (pe_join pe_str (pe_lst (pa_cons pe_str (pa_cons (pe_ix ix_tup (pv 0) pe_int (fun _ _ => rfl)) (pa_cons (pe_ix ix_tup (pv 0) pe_int (fun _ _ => rfl)) (pa_cons (pe_cal O_show_condition (hr.mono (by omega)) W.g_show_condition pass0 (pa_cons (pe_ix ix_tup (pv 0) pe_int (fun _ _ => rfl)) pa_nil)) pa_nil))))))))), ?_⟩
  obtain ⟨v, f, rfl, hf, hom, hl, hq⟩ := h
  cases f with
  | alw c =>
    obtain ⟨a, u, rfl, ha, hc⟩ := hf
    have h2 := sh_alw (c := c)
    refine ⟨_, rfl, a, _, _, _, rfl, rfl, sqt ha, at0, rfl, _, rfl, iteE true (by rw [sq "always"]; exact decide_eq_true rfl) (iteT ?_)⟩
    refine ⟨_, rfl, a, _, _, _, rfl, rfl, sqt ha, at1, u, c, rfl, hc, by omega, by omega, fun H1 e1 => ⟨_, _, rfl, rfl, ?_, ?_⟩⟩
    · rw [ofq, S_len, S_len]
      refine small ?_
      have : ("always ".toList.map Char.toNat).length = 7 := by decide
      omega
    · rw [cat_q2, ← alS_sh]
      exact hq _ e1
  | mk x y c =>
    obtain ⟨a, u, rfl, ha, hc⟩ := hf
    have h2 := sh_mk (a := x) (b := y) (c := c)
    refine ⟨_, rfl, a, _, _, _, rfl, rfl, sqt ha, at0, rfl, _, rfl, iteE false (by rw [sq "always", dec_S]; decide) (iteF ?_)⟩
    refine ⟨⟨_, rfl⟩, _, rfl, a, _, _, _, rfl, rfl, sqt ha, at1, _, rfl, a, _, _, _, rfl, rfl, sqt ha, at2, _, rfl, a, _, _, _, rfl, rfl, sqt ha, at3, u, c, rfl, hc, by omega, by omega, fun H1 e1 => ⟨by show 4 ≤ sizeLine; decide, fun l hl2 => ?_⟩⟩
    refine ⟨_, l, [M.q "makes", x, y, c.sh].map S, rfl, rfl, .inl (sql ?_), ?_, ?_⟩
    · rw [upd_same, sq "makes"]
      rfl
    · refine join_ok (c := 32) (by decide) ?_
      rw [mkS_join]
      have : (M.Fact.mk x y c).sh = M.mkS x y c.sh := rfl
      rw [← this]
      omega
    · rw [join_one (c := 32) (by decide), mkS_join]
      exact hq _ (HL.Same.new e1 hl2)
abbrev n_Reader_fact_here : List Str := ["self", "word", "step", "ask"]
theorem sc_Reader_fact_here : FnScope n_Reader_fact_here ["self"] (defScope s_Reader_fact_here) := ⟨rfl, rfl, rfl, by decide +kernel, rfl, by decide +kernel, by decide +kernel⟩
theorem bi_Reader_fact_here : ∀ (kV doc pm : Value) (an : Option Addr) (cdv ct : Value) (us : List Value), us.length = 1 → bindArgs (PySem.W.fnOf d_Reader_fact_here.name d_Reader_fact_here.qual d_Reader_fact_here.params d_Reader_fact_here.body d_Reader_fact_here.scope .none kV doc pm an cdv ct) ⟨us, []⟩ = pure ([("self" : Str)].zip us) := fun kV doc pm an cdv ct us hu => by
  match us, hu with
  | [u0], _ => rfl
def spFactH (K : PySem.W.Frag) (n : Nat) : Sp := fun vs H Q E => ∃ p s r, vs = [.ref p] ∧ RdR K H p s r ∧ s.length ≤ 1000000 ∧ M.om r < n ∧ LamX.Tabs (TK K) H ∧
  (M.fact n r = none → ∀ H', Kp p H H' → LamX.Tabs (TK K) H' → E (.ref (CN K)) none H') ∧
  (∀ c r', M.fact n r = some (c, r') → ∀ v H', Kp p H H' → LamX.Tabs (TK K) H' → RdR K H' p s r' → FAt H' c v → Q v H')
theorem o_fact_here (W : Wl K mg) (B : Tb K mg base) (n : Nat) (hn : 0 < n) : OkD w K mg base (CXN w) (n + 6) d_Reader_fact_here ["self"] (spFactH K n) := by
  have O_condition_here := o_cond (w := w) W B n (n + 5) (fun _ => by omega) (fun z => by omega)
  refine HL.ok_of W.D_Reader_fact_here sc_Reader_fact_here (fun vs H Q E ⟨_, _, _, h, _⟩ => by rw [h]; rfl) bi_Reader_fact_here fun cdv A outer s H vs Q E hr h => ?_
  have tk := takes_of (X := cxOf (CXN w) P0 w K mg base n_Reader_fact_here d_Reader_fact_here.qual d_Reader_fact_here.scope (fAd K d_Reader_fact_here.at_) cdv A outer s H E) rfl rfl rfl rfl
  have nd := sc_Reader_fact_here.nd
  have O_needs := o_needsR (w := w) (base := base) W
  have O_need := o_need (w := w) (base := base) W
  have O_word_here := o_wordR (w := w) (base := base) W
  refine ⟨_, (pss_cons (ps_set (i := 1) nd rfl (Or.inl rfl) (pe_cam0 O_word_here W.k_Reader W.m_Reader_word_here (hr.mono (by omega)) (passes_call tk (fun _ _ _ _ h => h)) (pv 0)))
    (pss_cons (ps_expr (pe_cam O_needs W.k_Reader W.m_Reader_needs (hr.mono (by omega)) (passes_call tk (fun _ _ _ _ h => h)) (pv 0) (pa_cons pe_str pa_nil)))
    (pss_cons (ps_if (pt_cmpR op_eq (pv 1) pe_str (nomark _)) (pss_one (ps_ret (pe_tup (pa_cons pe_str (pa_cons (pe_cam0 O_condition_here W.k_Reader W.m_Reader_condition_here (hr.mono (by omega)) (passes_call tk (fun _ _ _ _ h => h)) (pv 0)) pa_nil))))) pss_nil)
    (pss_cons (ps_expr (pe_cal O_need (hr.mono (by omega)) W.g_need (passes_call tk (fun _ _ _ _ h => h)) (pa_cons (pe_cmpR op_eq (pv 1) pe_str (nomark _)) pa_nil)))
    (pss_cons (ps_set (i := 2) nd rfl (Or.inl rfl) (pe_cam0 O_word_here W.k_Reader W.m_Reader_word_here (hr.mono (by omega)) (passes_call tk (fun _ _ _ _ h => h)) (pv 0)))
    (pss_cons (ps_expr (pe_cam O_needs W.k_Reader W.m_Reader_needs (hr.mono (by omega)) (passes_call tk (fun _ _ _ _ h => h)) (pv 0) (pa_cons pe_str pa_nil)))
    (pss_cons (ps_set (i := 3) nd rfl (Or.inl rfl) (pe_cam0 O_word_here W.k_Reader W.m_Reader_word_here (hr.mono (by omega)) (passes_call tk (fun _ _ _ _ h => h)) (pv 0)))
    (pss_cons (ps_expr (pe_cam O_needs W.k_Reader W.m_Reader_needs (hr.mono (by omega)) (passes_call tk (fun _ _ _ _ h => h)) (pv 0) (pa_cons pe_str pa_nil)))
    (pss_one (ps_ret (pe_tup (pa_cons pe_str (pa_cons (pv 2) (pa_cons (pv 3) (pa_cons (pe_cam0 O_condition_here W.k_Reader W.m_Reader_condition_here (hr.mono (by omega)) (passes_call tk (fun _ _ _ _ h => h)) (pv 0)) pa_nil))))))))))))))), ?_⟩
  obtain ⟨p, s, r, rfl, hR, hs, hom, hT, hF, hQ⟩ := h
  obtain ⟨i0, ⟨dx, hp⟩, _⟩ := id hR
  refine ⟨_, rfl, p, dx, _, rfl, hp, rfl, p, s, r, rfl, hR, hs, fun h1 H1 e1 => ?_, fun x r1 h1 H1 e1 hR1 => ?_⟩
  · exact hF (by unfold M.fact; rw [h1]) _ (kpB e1) (tabB hT e1 hR)
  have hT1 := tabB hT e1 hR
  have k1 := kpB e1
  obtain ⟨i1, ⟨dx1, hp1⟩, _⟩ := id hR1
  dsimp only [gName]
  refine ⟨_, rfl, p, dx1, _, rfl, hp1, rfl, p, s, r1, M.q " ", congrArg (fun z => [V.ref p, z]) (sq " "), hR1, hs, by decide, fun h2 => ?_, fun r2 h2 H2 e2 hR2 => ?_⟩
  · exact hF (by unfold M.fact; simp only [h1, h2]) _ k1 hT1
  have hT2 := tabB hT1 e2 hR1
  have k2 := k1.trans (kpB e2)
  obtain ⟨i2, ⟨dx2, hp2⟩, _⟩ := id hR2
  have om2 : M.om r2 ≤ M.om r := by
    have a1 := (M.word_some h1).1
    have a2 := M.takes_some.mp h2
    rw [a1, a2]
    simp only [M.om_app]
    omega
  refine ⟨_, rfl, rfl, ?_⟩
  rw [sq "always", dec_S]
  refine ⟨_, rfl, ?_⟩
  by_cases ha : x = M.q "always"
  · rw [decide_eq_true ha]
    have fe : M.fact n r = (match M.cond n r2 with
        | none => none
        | some (c, r) => some (M.Fact.alw c, r)) := by
      unfold M.fact
      simp only [h1, h2, if_pos ha] <;> rfl
    refine iteT ⟨_, rfl, p, dx2, _, rfl, hp2, rfl, p, s, r2, rfl, hR2, hs, by omega, hT2, fun h3 H3 k3 hT3 => ?_, fun c r3 h3 u H3 k3 hT3 hR3 hAt => ⟨by show 2 ≤ sizeLine; decide, fun t ht => ?_⟩⟩
    · exact hF (by rw [fe, h3]) _ (k2.trans k3) hT3
    · refine hQ (.alw c) r3 (by rw [fe, h3]) _ _ ((k2.trans k3).new ht) (hT3.ext (same_new ht)) (hR3.keep fun o h _ => same_new ht _ _ h) ⟨t, u, rfl, by rw [upd_same], hAt.keep (.of (same_new ht))⟩
  rw [decide_eq_false ha]
  refine iteF ⟨_, rfl, rfl, ?_⟩
  rw [sq "makes", dec_S]
  refine ⟨_, rfl, fun hm => ?_, fun hm => ?_⟩
  rotate_left
  · have hm : ¬ x = M.q "makes" := of_decide_eq_false hm
    exact hF (by unfold M.fact; simp only [h1, h2, if_neg ha, if_neg hm]) _ k2 hT2
  have hm : x = M.q "makes" := of_decide_eq_true hm
  have fe0 : M.fact n r = (match M.word r2 with
        | none => none
        | some (a, r3) => match M.takes (M.q " ") r3 with
          | none => none
          | some r4 => match M.word r4 with
            | none => none
            | some (b, r5) => match M.takes (M.q " ") r5 with
              | none => none
              | some r6 => match M.cond n r6 with
                | none => none
                | some (c, r) => some (M.Fact.mk a b c, r)) := by
    unfold M.fact
    simp only [h1, h2, if_neg ha, if_pos hm] <;> rfl
  rw [fe0] at hF
  have hQ : ∀ c r', _ = some (c, r') → ∀ v H', Kp p H H' → LamX.Tabs (TK K) H' → RdR K H' p s r' → FAt H' c v → Q v H' := fun c r' z => hQ c r' (fe0.trans z)
  refine ⟨_, rfl, p, dx2, _, rfl, hp2, rfl, p, s, r2, rfl, hR2, hs, fun h3 H3 e3 => ?_, fun a r3 h3 H3 e3 hR3 => ?_⟩
  · exact hF (by rw [h3]) _ (k2.trans (kpB e3)) (tabB hT2 e3 hR2)
  have hT3 := tabB hT2 e3 hR2
  have k3 := k2.trans (kpB e3)
  obtain ⟨i3, ⟨dx3, hp3⟩, _⟩ := id hR3
  simp only [h3] at hF hQ
  dsimp only [gName]
  refine ⟨_, rfl, p, dx3, _, rfl, hp3, rfl, p, s, r3, M.q " ", congrArg (fun z => [V.ref p, z]) (sq " "), hR3, hs, by decide, fun h4 => ?_, fun r4 h4 H4 e4 hR4 => ?_⟩
  · exact hF (by rw [h4]) _ k3 hT3
  have hT4 := tabB hT3 e4 hR3
  have k4 := k3.trans (kpB e4)
  obtain ⟨i4, ⟨dx4, hp4⟩, _⟩ := id hR4
  simp only [h4] at hF hQ
  refine ⟨_, rfl, p, dx4, _, rfl, hp4, rfl, p, s, r4, rfl, hR4, hs, fun h5 H5 e5 => ?_, fun b r5 h5 H5 e5 hR5 => ?_⟩
  · exact hF (by rw [h5]) _ (k4.trans (kpB e5)) (tabB hT4 e5 hR4)
  have hT5 := tabB hT4 e5 hR4
  have k5 := k4.trans (kpB e5)
  obtain ⟨i5, ⟨dx5, hp5⟩, _⟩ := id hR5
  simp only [h5] at hF hQ
  dsimp only [gName]
  refine ⟨_, rfl, p, dx5, _, rfl, hp5, rfl, p, s, r5, M.q " ", congrArg (fun z => [V.ref p, z]) (sq " "), hR5, hs, by decide, fun h6 => ?_, fun r6 h6 H6 e6 hR6 => ?_⟩
  · exact hF (by rw [h6]) _ k5 hT5
  have hT6 := tabB hT5 e6 hR5
  have k6 := k5.trans (kpB e6)
  obtain ⟨i6, ⟨dx6, hp6⟩, _⟩ := id hR6
  simp only [h6] at hF hQ
  have om6 : M.om r6 ≤ M.om r2 := by
    rw [(M.word_some h3).1, M.takes_some.mp h4, (M.word_some h5).1, M.takes_some.mp h6]
    simp only [M.om_app]
    omega
  refine ⟨_, rfl, _, rfl, _, rfl, p, dx6, _, rfl, hp6, rfl, p, s, r6, rfl, hR6, hs, by omega, hT6, fun h7 H7 k7 hT7 => ?_, fun c r7 h7 u H7 k7 hT7 hR7 hAt => ⟨by show 4 ≤ sizeLine; decide, fun t ht => ?_⟩⟩
  · exact hF (by rw [h7]) _ (k6.trans k7) hT7
  · refine hQ (.mk a b c) r7 (by rw [h7]) _ _ ((k6.trans k7).new ht) (hT7.ext (same_new ht)) (hR7.keep fun o h _ => same_new ht _ _ h) ⟨t, u, rfl, by rw [upd_same], hAt.keep (.of (same_new ht))⟩
/-! ### a new reader -/
theorem reader_ext {H H2 H3 : Hp} {p dx : Addr} (h1 : H p = none) (h2 : H dx = none) (h3 : dx ≠ p) {C : Addr} (e1 : SameB p (upd (upd H dx (.own p)) p (.ins C dx [])) H2) (e2 : Kp p H2 H3) : LamX.ExtN H H3 := fun b o z n => by
  have nb : b ≠ p := ne_of_none z h1
  have nd : b ≠ dx := ne_of_none z h2
  exact e2 _ _ (e1 _ _ (by rw [upd_ne nb, upd_ne nd]; exact z) nb) ⟨nb, n⟩
theorem tab_new2 {T : List (Addr × Str)} {H : Hp} {p dx : Addr} (t : LamX.Tabs T H) (h1 : H p = none) (h2 : H dx = none) (h3 : dx ≠ p) {C : Addr} : LamX.Tabs T (upd (upd H dx (.own p)) p (.ins C dx [])) :=
  (t.ext (same_new h2)).ext (same_new (by rw [upd_ne h3.symm]; exact h1))
theorem tabI {T : List (Addr × Str)} {p : Addr} {H H' : Hp} {C dx : Addr} {fs : List (Str × V)} (t : LamX.Tabs T H) (e : SameB p H H') (h : H p = some (.ins C dx fs)) : LamX.Tabs T H' := fun x hx => by
  obtain ⟨ps, h1, h2, h3⟩ := t x hx
  refine ⟨ps, e _ _ h1 (fun z => by rw [z, h] at h1; cases h1), h2, fun pos cv hc => ?_⟩
  obtain ⟨c, e1, e2⟩ := h3 pos cv hc
  exact ⟨c, e1, e _ _ e2 (fun z => by rw [z, h] at e2; exact codeO_ins (Option.some.inj e2).symm)⟩
abbrev n_read_fact : List Str := ["text", "found"]
theorem sc_read_fact : FnScope n_read_fact ["text"] (defScope s_read_fact) := ⟨rfl, rfl, rfl, by decide +kernel, rfl, by decide +kernel, by decide +kernel⟩
theorem bi_read_fact : ∀ (kV doc pm : Value) (an : Option Addr) (cdv ct : Value) (us : List Value), us.length = 1 → bindArgs (PySem.W.fnOf d_read_fact.name d_read_fact.qual d_read_fact.params d_read_fact.body d_read_fact.scope .none kV doc pm an cdv ct) ⟨us, []⟩ = pure ([("text" : Str)].zip us) := fun kV doc pm an cdv ct us hu => by
  match us, hu with
  | [u0], _ => rfl
def spRdF (K : PySem.W.Frag) (n : Nat) : Sp := fun vs H Q E => ∃ v, vs = [v] ∧ LamX.Tabs (TK K) H ∧
  ((∃ s, v = .str (S s) ∧ s.length ≤ 10000 ∧ M.om s < n ∧ (M.readF n s = none → ∀ H', LamX.ExtN H H' → LamX.Tabs (TK K) H' → E (.ref (CN K)) none H') ∧
    (∀ c, M.readF n s = some c → ∀ u H', LamX.ExtN H H' → LamX.Tabs (TK K) H' → FAt H' c u → Q u H')) ∨ (NoStr K H v ∧ E (.ref (CN K)) none H))
theorem fact_sh {n : Nat} {s r : List Nat} {f : M.Fact} (h : M.fact n s = some (f, r)) : s = f.sh ++ r := by
  rcases M.fact_head h with ⟨c, s2, rfl, rfl⟩ | ⟨a, b, c, s2, rfl, na, nb, rfl⟩
  · rw [M.fact_alw] at h
    cases hc : M.cond n s2 with
    | none =>
      rw [hc] at h
      cases h
    | some z =>
      obtain ⟨c', r'⟩ := z
      rw [hc] at h
      injection h with h
      injection h with h1 h2
      injection h1 with h1
      subst h1 h2
      have := (M.cond_sound n s2 _ _ hc).1
      show M.alS s2 = M.alS c'.sh ++ r'
      rw [this]
      simp only [M.alS, List.append_assoc]
  · rw [M.fact_mk na nb] at h
    cases hc : M.cond n s2 with
    | none =>
      rw [hc] at h
      cases h
    | some z =>
      obtain ⟨c', r'⟩ := z
      rw [hc] at h
      injection h with h
      injection h with h1 h2
      injection h1 with _ _ h1
      subst h1 h2
      have := (M.cond_sound n s2 _ _ hc).1
      show M.mkS a b s2 = M.mkS a b c'.sh ++ r'
      rw [this]
      simp only [M.mkS, List.append_assoc]
theorem o_read_fact (W : Wl K mg) (B : Tb K mg base) (n : Nat) (hn : 0 < n) : OkD w K mg base (CXN w) (n + 7) d_read_fact ["text"] (spRdF K n) := by
  refine HL.ok_of W.D_read_fact sc_read_fact (fun vs H Q E ⟨_, h, _⟩ => by rw [h]; rfl) bi_read_fact fun cdv A outer s H vs Q E hr h => ?_
  have tk := takes_of (X := cxOf (CXN w) P0 w K mg base n_read_fact d_read_fact.qual d_read_fact.scope (fAd K d_read_fact.at_) cdv A outer s H E) rfl rfl rfl rfl
  have nd := sc_read_fact.nd
  have O_need := o_need (w := w) (base := base) W
  have O_need_text := o_need_text (w := w) (base := base) W
  have O_Reader_init := o_init (w := w) (base := base) W
  have O_fact_here := o_fact_here (w := w) W B n hn
  have O_show_fact := o_show_fact (w := w) (base := base) W n hn
  refine ⟨_, (pss_cons (ps_expr (pe_cal O_need_text (hr.mono (by omega)) W.g_need_text (passes_call tk (fun _ _ _ _ h => h)) (pa_cons (pv 0) pa_nil)))
    (pss_cons (ps_set (i := 1) nd rfl (Or.inl rfl) (pe_cam0 O_fact_here W.k_Reader W.m_Reader_fact_here (hr.mono (by omega)) (passes_call tk (fun _ _ _ _ h => h)) (pe_cak O_Reader_init W.mk_Reader (hr.mono (by omega)) W.g_Reader pass0 (pa_cons (pv 0) pa_nil))))
    (pss_cons (ps_expr (pe_cal O_need (hr.mono (by omega)) W.g_need (passes_call tk (fun _ _ _ _ h => h)) (pa_cons (pe_cmpR op_eq (pe_cal O_show_fact (hr.mono (by omega)) W.g_show_fact pass0 (pa_cons (pv 1) pa_nil)) (pv 0) (nomark _)) pa_nil)))
    (pss_one (ps_ret (pv 1)))))), ?_⟩
  obtain ⟨v, rfl, hT, ⟨s, rfl, hs, hom, hF, hQ⟩ | ⟨hno, hE⟩⟩ := h
  · refine ⟨_, rfl, _, rfl, .inl ⟨_, rfl, ?_⟩⟩
    refine ⟨_, rfl, fun p dx h1 h2 h3 => ⟨p, dx, s, rfl, upd_same, fun H1 e1 hR => ⟨rfl, ?_⟩⟩⟩
    have hT1 := tabI (tab_new2 (C := ga K "Reader") hT h1 h2 h3) e1 upd_same
    have hRR : RdR K H1 p s s := ⟨0, hR, rfl⟩
    obtain ⟨dx1, hp1⟩ := id hR
    refine ⟨p, dx1, _, rfl, hp1, rfl, p, s, s, rfl, hRR, by omega, hom, hT1, fun hc H2 k2 hT2 => ?_, fun c r hc u H2 k2 hT2 hR2 hAt => ?_⟩
    · refine hF ?_ H2 (reader_ext h1 h2 h3 e1 k2) hT2
      unfold M.readF
      rw [hc]
    · have e5 := fact_sh hc
      have hl : c.sh.length ≤ 10000 := by
        have := congrArg List.length e5
        rw [List.length_append] at this
        omega
      have ho : M.om c.sh < n := by
        have := congrArg M.om e5
        rw [M.om_app] at this
        omega
      refine ⟨_, rfl, u, c, rfl, hAt, ho, by omega, fun H3 e3 => ?_⟩
      refine ⟨_, rfl, rfl, ?_⟩
      rw [dec_S]
      have ext3 : LamX.ExtN H H3 := (reader_ext h1 h2 h3 e1 k2).trans (.of e3)
      have hrc : M.readF n s = if c.sh = s then some c else none := by
        unfold M.readF
        rw [hc]
      refine ⟨_, rfl, fun hk => ?_, fun hk => ?_⟩
      · refine ⟨_, rfl, hQ c (by rw [hrc, if_pos (of_decide_eq_true hk)]) u H3 ext3 (hT2.ext e3) (hAt.keep (.of e3))⟩
      · exact hF (by rw [hrc, if_neg (of_decide_eq_false hk)]) H3 ext3 (hT2.ext e3)
  · exact ⟨_, rfl, _, rfl, .inr ⟨hno, hE⟩⟩
end
end K93
end

section
set_option Elab.async false
set_option linter.all false
set_option maxRecDepth 100000
set_option maxHeartbeats 4000000
/-! k93: the law's facts. -/
namespace K93
open PySem PySem.Spec PyProof.Rows L2 He HL
section
variable {w : World} {K : PySem.W.Frag} {mg : Str → Option Value} {base : Heap}
abbrev n_law_fact_text : List Str := ["_law_fact"]
theorem sc_law_fact_text : FnScope n_law_fact_text ["_law_fact"] (defScope s_law_fact_text) := ⟨rfl, rfl, rfl, by decide +kernel, rfl, by decide +kernel, by decide +kernel⟩
theorem bi_law_fact_text : ∀ (kV doc pm : Value) (an : Option Addr) (cdv ct : Value) (us : List Value), us.length = 1 → bindArgs (PySem.W.fnOf d_law_fact_text.name d_law_fact_text.qual d_law_fact_text.params d_law_fact_text.body d_law_fact_text.scope .none kV doc pm an cdv ct) ⟨us, []⟩ = pure ([("_law_fact" : Str)].zip us) := fun kV doc pm an cdv ct us hu => by
  match us, hu with
  | [u0], _ => rfl
theorem o_lftext (W : Wl K mg) (n : Nat) (hn : 0 < n) : OkD w K mg base CX0 (n + 2) d_law_fact_text ["_law_fact"] (spShF n) := by
  have O__law_condition_text := o_ctext (w := w) (base := base) W n (n + 1) (fun _ => by omega) (fun _ => by omega)
  refine HL.ok_of0 W.D_law_fact_text sc_law_fact_text (fun vs H Q E ⟨_, _, h, _⟩ => by rw [h]; rfl) bi_law_fact_text fun cdv A outer s H vs Q E hr h => ?_
  have nd := sc_law_fact_text.nd
  refine ⟨_, (pss_one (ps_ret (pe_join pe_str (pe_op op_cat (pe_callTy call_list_of (by rfl) W.f_list (by decide +kernel) (pa_cons (pe_slice sl_tup (pv 0) po_none (po_some (pe_un un_neg pe_int))) pa_nil)) (pe_lst (pa_cons (pe_cal O__law_condition_text (hr.mono (by omega)) W.g__law_condition_text pass0 (pa_cons (pe_ix ix_tup (pv 0) (pe_un un_neg pe_int) (fun _ _ => rfl)) pa_nil)) pa_nil)))))), ?_⟩
  obtain ⟨v, f, rfl, hf, hom, hl, hq⟩ := h
  cases f with
  | alw c =>
    obtain ⟨a, u, rfl, ha, hc⟩ := hf
    have h2 := sh_alw (c := c)
    refine ⟨⟨_, rfl⟩, _, rfl, 1, rfl, -1, rfl, a, _, rfl, sqt ha, by show ¬ (HT.sIx 2 0 none = 0 ∧ HT.sIx 2 2 (some (-1)) = 2); decide, fun p hp => ⟨p, [.str (S (M.q "always"))], rfl, .inr (sqt upd_same), fun l hl2 => ?_⟩⟩
    have s2 := (same_new (o := .tup [V.str (S (M.q "always"))]) hp).trans (same_new (o := .lst [V.str (S (M.q "always"))]) hl2)
    have hl3 : upd (upd H p (.tup [V.str (S (M.q "always"))])) l (.lst [V.str (S (M.q "always"))]) l = some (.lst [V.str (S (M.q "always"))]) := upd_same
    refine ⟨_, rfl, 1, rfl, a, _, -1, u, rfl, rfl, sqt (s2 _ _ ha), rfl, u, c, rfl, hc.keep (.of s2), by omega, by omega, fun H1 e1 => ⟨by show 1 ≤ sizeLine; decide, fun k hk => ?_⟩⟩
    refine ⟨l, k, _, _, rfl, rfl, same_new hk _ _ (e1 _ _ hl3), upd_same, by show 2 ≤ sizeLine; decide, fun m hm => ?_⟩
    refine ⟨_, m, [M.q "always", c.sh].map S, rfl, rfl, .inl (sql upd_same), ?_, ?_⟩
    · refine join_ok (c := 32) (by decide) ?_
      have : TL.joinL [32] [M.q "always", c.sh] = (M.Fact.alw c).sh := rfl
      rw [this]
      omega
    · rw [join_one (c := 32) (by decide)]
      exact hq _ (HL.Same.new (HL.Same.new (s2.trans e1) hk) hm)
  | mk x y c =>
    obtain ⟨a, u, rfl, ha, hc⟩ := hf
    have h2 := sh_mk (a := x) (b := y) (c := c)
    refine ⟨⟨_, rfl⟩, _, rfl, 1, rfl, -1, rfl, a, _, rfl, sqt ha, by show ¬ (HT.sIx 4 0 none = 0 ∧ HT.sIx 4 4 (some (-1)) = 4); decide, fun p hp => ⟨p, [.str (S (M.q "makes")), .str (S x), .str (S y)], rfl, .inr (sqt upd_same), fun l hl2 => ?_⟩⟩
    have s2 := (same_new (o := .tup [V.str (S (M.q "makes")), .str (S x), .str (S y)]) hp).trans (same_new (o := .lst [V.str (S (M.q "makes")), .str (S x), .str (S y)]) hl2)
    have hl3 : upd (upd H p (.tup [V.str (S (M.q "makes")), .str (S x), .str (S y)])) l (.lst [V.str (S (M.q "makes")), .str (S x), .str (S y)]) l = some (.lst [V.str (S (M.q "makes")), .str (S x), .str (S y)]) := upd_same
    refine ⟨_, rfl, 1, rfl, a, _, -1, u, rfl, rfl, sqt (s2 _ _ ha), rfl, u, c, rfl, hc.keep (.of s2), by omega, by omega, fun H1 e1 => ⟨by show 1 ≤ sizeLine; decide, fun k hk => ?_⟩⟩
    refine ⟨l, k, _, _, rfl, rfl, same_new hk _ _ (e1 _ _ hl3), upd_same, by show 4 ≤ sizeLine; decide, fun m hm => ?_⟩
    refine ⟨_, m, [M.q "makes", x, y, c.sh].map S, rfl, rfl, .inl (sql upd_same), ?_, ?_⟩
    · refine join_ok (c := 32) (by decide) ?_
      have : TL.joinL [32] [M.q "makes", x, y, c.sh] = (M.Fact.mk x y c).sh := rfl
      rw [this]
      omega
    · rw [join_one (c := 32) (by decide)]
      exact hq _ (HL.Same.new (HL.Same.new (s2.trans e1) hk) hm)
theorem ntold : decide (V.str (S (M.q "none")) = V.str (Str.ofString "told")) = false := by
  rw [sq "told", dec_S]
  decide
theorem ytold : decide (V.str (S (M.q "told")) = V.str (Str.ofString "told")) = true := by
  rw [sq "told", dec_S]
  decide
end
end K93
end

section
set_option Elab.async false
set_option linter.all false
set_option maxRecDepth 100000
set_option maxHeartbeats 4000000
/-! k92: traces word by word. -/
namespace M
open L2 TL
theorem trW_cons (st an : Cs) (r : List Cs) : trW (st :: an :: r) = (stp st).bind fun a => (rdA an).bind fun ns => (trW r).map fun t => (a, ns) :: t := by
  conv => lhs; unfold trW
  cases stp st with
  | none => rfl
  | some a =>
    cases rdA an with
    | none => rfl
    | some ns =>
      cases trW r with
      | none => rfl
      | some t => rfl
theorem trW_app : ∀ (l r : List Cs), l.length % 2 = 0 → trW (l ++ r) = (trW l).bind fun a => (trW r).map fun b => a ++ b
  | [], r, _ => by
    show trW r = (trW r).map fun b => [] ++ b
    cases trW r <;> rfl
  | [x], r, h => by simp at h
  | st :: an :: l, r, h => by
    have ih := trW_app l r (by simp only [List.length_cons] at h; omega)
    show trW (st :: an :: (l ++ r)) = _
    rw [trW_cons, trW_cons, ih]
    cases stp st with
    | none => rfl
    | some a =>
      cases rdA an with
      | none => rfl
      | some ns =>
        cases trW l with
        | none => rfl
        | some t =>
          cases trW r with
          | none => rfl
          | some t' => rfl
theorem trW_odd : ∀ (l : List Cs), l.length % 2 = 1 → trW l = none
  | [], h => by simp at h
  | [x], _ => rfl
  | st :: an :: l, h => by
    have ih := trW_odd l (by simp only [List.length_cons] at h; omega)
    rw [trW_cons, ih]
    cases stp st with
    | none => rfl
    | some a => cases rdA an <;> rfl
theorem trW_fail {l r : List Cs} {st an : Cs} (hl : l.length % 2 = 0) (h : stp st = none ∨ rdA an = none) : trW (l ++ st :: an :: r) = none := by
  rw [trW_app l _ hl, trW_cons]
  cases trW l with
  | none => rfl
  | some t =>
    rcases h with h | h
    · rw [h]
      rfl
    · rw [h]
      cases stp st <;> rfl
theorem trW_snoc {l : List Cs} {st an a : Cs} {ns : List Cs} {t : List (Cs × List Cs)} (h : trW l = some t) (h1 : stp st = some a) (h2 : rdA an = some ns) (hl : l.length % 2 = 0) : trW (l ++ [st, an]) = some (t ++ [(a, ns)]) := by
  rw [trW_app l _ hl, h, trW_cons, h1, h2]
  rfl
theorem rdT_cons {s w0 : Cs} {ws : List Cs} (h : sp 32 s = w0 :: ws) : rdT s = (rdA w0).bind fun a => (trW ws).map fun t => (a, t) := by
  unfold rdT
  rw [h]
  dsimp only
  cases rdA w0 with
  | none => rfl
  | some a => cases trW ws <;> rfl
/-! ### the law's way: every second word -/
open XP (alt)
theorem alt_cons2 {α : Type} (x y : α) (r : List α) : alt (x :: y :: r) = x :: alt r := rfl
theorem trW_alt : ∀ (ws : List Cs), ws.length % 2 = 0 → trW ws = (mapO stp (alt ws)).bind fun as => (mapO rdA (alt (ws.drop 1))).map fun bs => as.zip bs
  | [], _ => rfl
  | [x], h => by simp at h
  | st :: an :: r, h => by
    have ih := trW_alt r (by simp only [List.length_cons] at h; omega)
    rw [trW_cons, ih, alt_cons2]
    have e : alt ((st :: an :: r).drop 1) = an :: alt (r.drop 1) := by
      cases r with
      | nil => rfl
      | cons x r => rfl
    rw [e]
    have m : ∀ {α β : Type} (f : α → Option β) (x : α) (l : List α), mapO f (x :: l) = (f x).bind fun y => (mapO f l).map fun ys => y :: ys := fun f x l => by
      conv => lhs; unfold mapO
      cases f x with
      | none => rfl
      | some y => cases mapO f l <;> rfl
    rw [m, m]
    cases stp st with
    | none => rfl
    | some a =>
      cases rdA an with
      | none =>
        cases mapO stp (alt r) <;> rfl
      | some ns =>
        cases mapO stp (alt r) with
        | none => rfl
        | some as =>
          cases mapO rdA (alt (r.drop 1)) with
          | none => rfl
          | some bs => rfl
theorem mapO_none {α β : Type} {f : α → Option β} : ∀ {l : List α} {x : α}, x ∈ l → f x = none → mapO f l = none
  | [], x, h, _ => by cases h
  | y :: l, x, h, hf => by
    unfold mapO
    rcases List.mem_cons.mp h with rfl | h
    · rw [hf]
    · rw [mapO_none h hf]
      cases f y <;> rfl
theorem mapO_all {α β : Type} {f : α → Option β} : ∀ {l : List α}, (∀ x ∈ l, f x ≠ none) → ∃ ys, mapO f l = some ys
  | [], _ => ⟨[], rfl⟩
  | y :: l, h => by
    obtain ⟨ys, e⟩ := mapO_all (l := l) fun x hx => h x (List.mem_cons_of_mem _ hx)
    unfold mapO
    cases hy : f y with
    | none => exact absurd hy (h y List.mem_cons_self)
    | some z =>
      rw [e]
      exact ⟨z :: ys, rfl⟩
theorem mapO_get {α β : Type} {f : α → Option β} : ∀ {l : List α} {ys : List β} {k : Nat} {x : α}, mapO f l = some ys → l[k]? = some x → ∃ y, ys[k]? = some y ∧ f x = some y
  | [], ys, k, x, h, hx => by simp at hx
  | z :: l, ys, k, x, h, hx => by
    unfold mapO at h
    cases hz : f z with
    | none =>
      rw [hz] at h
      cases h
    | some y =>
      rw [hz] at h
      dsimp only at h
      cases hm : mapO f l with
      | none =>
        rw [hm] at h
        cases h
      | some ys' =>
        rw [hm] at h
        injection h with h
        subst h
        cases k with
        | zero =>
          have : z = x := by simpa using hx
          subst this
          exact ⟨y, rfl, hz⟩
        | succ k =>
          obtain ⟨y', e1, e2⟩ := mapO_get (k := k) hm (by simpa using hx)
          exact ⟨y', by simpa using e1, e2⟩
theorem mapO_len {α β : Type} {f : α → Option β} : ∀ {l : List α} {ys : List β}, mapO f l = some ys → ys.length = l.length
  | [], ys, h => by
    injection h with h
    subst h
    rfl
  | z :: l, ys, h => by
    unfold mapO at h
    cases hz : f z with
    | none =>
      rw [hz] at h
      cases h
    | some y =>
      rw [hz] at h
      dsimp only at h
      cases hm : mapO f l with
      | none =>
        rw [hm] at h
        cases h
      | some ys' =>
        rw [hm] at h
        injection h with h
        subst h
        rw [List.length_cons, List.length_cons, mapO_len hm]
theorem alt_len2 {α : Type} : ∀ l : List α, (alt l).length = (l.length + 1) / 2
  | [] => by simp [alt]
  | [_] => by simp [alt]
  | x :: y :: r => by
    have := alt_len2 r
    rw [alt_cons2, List.length_cons, this]
    simp only [List.length_cons]
    omega
theorem alt_mem {α : Type} : ∀ {l : List α} {x : α}, x ∈ alt l → x ∈ l
  | [], x, h => by cases h
  | [_], x, h => h
  | a :: b :: r, x, h => by
    rcases List.mem_cons.mp h with rfl | h
    · exact List.mem_cons_self
    · exact List.mem_cons_of_mem _ (List.mem_cons_of_mem _ (alt_mem h))
theorem join_nil : ∀ l : List Cs, joinL [] l = l.flatten
  | [] => rfl
  | [x] => by simp [joinL]
  | x :: y :: r => by
    rw [join_two, join_nil (y :: r)]
    rfl
theorem shT_eq (t : Trace) : shT t = shA t.1 ++ joinL [] (t.2.map fun x => q " " ++ turnS x) := by
  unfold shT
  rw [join_tail, join_nil]
  unfold tailL
  rw [List.map_map]
  rfl
theorem turn_mem {t : Trace} {x : Cs × List Cs} (h : x ∈ t.2) : turnS x ∈ shA t.1 :: t.2.map turnS := List.mem_cons_of_mem _ (List.mem_map.mpr ⟨x, h, rfl⟩)
theorem rdN_eq (w : Cs) : rdN w = if ((0 < w.length ∧ w.length ≤ 9) ∧ w.all isDig = true) ∧ (w = q "0" ∨ w.head? ≠ some 48) then some (PySem.NumText.digitsVal w) else none := by
  by_cases ha : w.all isDig = true
  · obtain ⟨e1, e2⟩ := span_app (p := isDig) (a := w) (r := []) (List.all_eq_true.mp ha) (fun _ h => by simp at h)
    rw [List.append_nil] at e1 e2
    unfold rdN number
    rw [e1, e2]
    by_cases h : (0 < w.length ∧ w.length ≤ 9) ∧ (w = q "0" ∨ w.head? ≠ some 48)
    · rw [if_pos h, if_pos ⟨⟨h.1, ha⟩, h.2⟩]
    · rw [if_neg h, if_neg (fun z => h ⟨z.1.1, z.2⟩)]
  · rw [if_neg (fun z => ha z.1.2)]
    unfold rdN
    split
    · rename_i k e
      obtain ⟨e1, _, _⟩ := number_some e
      exfalso
      apply ha
      unfold number at e
      split at e
      · injection e with e
        injection e with _ e
        rw [← List.takeWhile_append_dropWhile (p := isDig) (l := w), e, List.append_nil]
        exact List.all_eq_true.mpr (span_all w)
      · cases e
    · rfl
end M
end

section
set_option Elab.async false
set_option linter.all false
set_option maxRecDepth 100000
set_option maxHeartbeats 4000000
/-! k93: Facts, read and shown, as plain functions on signs. -/
namespace M
open L2 TL
mutual
def Cond.askL : Cond → List Cs
  | .word _ => []
  | .ask n => [n]
  | .neg c => c.askL
  | .many _ cs => askLs cs
def askLs : List Cond → List Cs
  | [] => []
  | c :: cs => c.askL ++ askLs cs
end
mutual
theorem askL_om : ∀ c : Cond, c.askL.length ≤ om c.sh + 1
  | .word b => by
    unfold Cond.askL
    exact Nat.zero_le _
  | .ask n => by
    unfold Cond.askL
    exact Nat.le_add_left 1 _
  | .neg c => by
    have ih := askL_om c
    unfold Cond.askL
    have e : om (Cond.neg c).sh = om c.sh + 3 := by
      show om (q "not" ++ (q "(" ++ (c.sh ++ q ")"))) = _
      rw [om_app, om_app, om_app, show om (q "not") = 0 from by decide, show om (q "(") = 3 from by decide, show om (q ")") = 0 from by decide]
      omega
    omega
  | .many b cs => by
    have ih := askLs_om cs
    unfold Cond.askL
    have e : om (joinL (q ", ") (shC cs)) + 3 ≤ om (Cond.many b cs).sh := by
      show _ ≤ om (nq b ++ (q "(" ++ (joinL (q ", ") (shC cs) ++ q ")")))
      rw [om_app, om_app, om_app, show om (q "(") = 3 from by decide]
      omega
    omega
theorem askLs_om : ∀ cs : List Cond, (askLs cs).length ≤ om (joinL (q ", ") (shC cs)) + 1
  | [] => by
    unfold askLs
    exact Nat.zero_le _
  | [c] => by
    have ih := askL_om c
    simp only [askLs, List.append_nil, shC, joinL]
    omega
  | c :: d :: cs => by
    have ih := askL_om c
    have ih2 := askLs_om (d :: cs)
    unfold askLs
    have e : joinL (q ", ") (shC (c :: d :: cs)) = c.sh ++ (q ", " ++ joinL (q ", ") (shC (d :: cs))) := rfl
    rw [e, om_app, om_app, List.length_append, show om (q ", ") = 1 from by decide]
    omega
end
mutual
theorem askL_nm : ∀ c : Cond, c.wf → ∀ n ∈ c.askL, Nm n
  | .word b, _, n, h => by
    unfold Cond.askL at h
    cases h
  | .ask m, hw, n, h => by
    unfold Cond.askL at h
    rw [List.mem_singleton.mp h]
    simpa [Cond.wf] using hw
  | .neg c, hw, n, h => by
    unfold Cond.askL at h
    exact askL_nm c (by simpa [Cond.wf] using hw) n h
  | .many b cs, hw, n, h => by
    unfold Cond.askL at h
    exact askLs_nm cs (by simpa [Cond.wf] using hw) n h
theorem askLs_nm : ∀ cs : List Cond, wfC cs → ∀ n ∈ askLs cs, Nm n
  | [], _, n, h => by
    unfold askLs at h
    cases h
  | c :: cs, hw, n, h => by
    unfold askLs at h
    have h1 : c.wf ∧ wfC cs := by simpa [wfC] using hw
    rcases List.mem_append.mp h with h | h
    · exact askL_nm c h1.1 n h
    · exact askLs_nm cs h1.2 n h
end
/-! ### no line feed in what is shown -/
def fr (k : Nat) (l : Cs) : Prop := k ∉ l
theorem fr_app {k : Nat} {a b : Cs} : fr k (a ++ b) ↔ fr k a ∧ fr k b := by
  unfold fr
  rw [List.mem_append, not_or]
theorem nm_fr {n : Cs} (h : Nm n) : fr 10 n := fun z => by
  have := h.all 10 z
  revert this
  decide
theorem fr_q {s : String} (h : (q s).all (fun c => decide (c ≠ 10)) = true) : fr 10 (q s) := fun z => by
  have := List.all_eq_true.mp h 10 z
  revert this
  decide
theorem fr_join {b : Cs} (hb : fr 10 b) : ∀ {ys : List Cs}, (∀ y ∈ ys, fr 10 y) → fr 10 (joinL b ys)
  | [], _ => fun z => nomatch z
  | [x], h => h x List.mem_cons_self
  | x :: y :: r, h => by
    rw [join_two]
    exact fr_app.mpr ⟨h x List.mem_cons_self, fr_app.mpr ⟨hb, fr_join hb fun z hz => h z (List.mem_cons_of_mem _ hz)⟩⟩
mutual
theorem cnd_fr : ∀ c : Cond, c.wf → fr 10 c.sh
  | .word true, _ => fr_q (s := "yes") (by decide)
  | .word false, _ => fr_q (s := "no") (by decide)
  | .ask n, h => fr_app.mpr ⟨fr_q (s := "?") (by decide), nm_fr h⟩
  | .neg c, h => fr_app.mpr ⟨fr_q (s := "not") (by decide), fr_app.mpr ⟨fr_q (s := "(") (by decide), fr_app.mpr ⟨cnd_fr c h, fr_q (s := ")") (by decide)⟩⟩⟩
  | .many b cs, h => fr_app.mpr ⟨by cases b <;> exact fr_q (by decide), fr_app.mpr ⟨fr_q (s := "(") (by decide), fr_app.mpr ⟨fr_join (fr_q (s := ", ") (by decide)) (cnds_fr cs h), fr_q (s := ")") (by decide)⟩⟩⟩
theorem cnds_fr : ∀ cs : List Cond, wfC cs → ∀ y ∈ shC cs, fr 10 y
  | [], _, y, hy => nomatch hy
  | c :: cs, h, y, hy => by
    have h' : c.wf ∧ wfC cs := h
    rcases List.mem_cons.mp (show y ∈ c.sh :: shC cs from hy) with rfl | hy
    · exact cnd_fr c h'.1
    · exact cnds_fr cs h'.2 y hy
end
theorem fact_fr : ∀ f : Fact, f.wf → fr 10 f.sh
  | .alw c, h => fr_app.mpr ⟨fr_q (s := "always") (by decide), fr_app.mpr ⟨fr_q (s := " ") (by decide), cnd_fr c h⟩⟩
  | .mk a b c, h => by
    have h' : Nm a ∧ Nm b ∧ c.wf := h
    exact fr_app.mpr ⟨fr_q (s := "makes") (by decide), fr_app.mpr ⟨fr_q (s := " ") (by decide), fr_app.mpr ⟨nm_fr h'.1, fr_app.mpr ⟨fr_q (s := " ") (by decide), fr_app.mpr ⟨nm_fr h'.2.1, fr_app.mpr ⟨fr_q (s := " ") (by decide), cnd_fr c h'.2.2⟩⟩⟩⟩⟩⟩
/-- cut behind joined -/
theorem sp_join {c : Nat} : ∀ {ys : List Cs}, ys ≠ [] → (∀ y ∈ ys, c ∉ y) → sp c (joinL [c] ys) = ys
  | [], h, _ => absurd rfl h
  | [x], _, h => sp_one (h x List.mem_cons_self)
  | x :: y :: r, _, h => by
    rw [join_two]
    show sp c (x ++ c :: joinL [c] (y :: r)) = _
    rw [sp_cons _ (h x List.mem_cons_self), sp_join (by simp) fun z hz => h z (List.mem_cons_of_mem _ hz)]
/-! ### Facts -/
def namesL (w : Cs) (most : Nat) (l : Cs) : Option (List Cs) := match sp 32 l with
  | [] => none
  | w0 :: ws => if w0 = w ∧ ANs ws ∧ ws.length ≤ most then some ws else none
def lineN (w : Cs) (ns : List Cs) : Cs := joinL (q " ") (w :: ns)
theorem namesL_some {w l : Cs} {most : Nat} {ns : List Cs} (h : namesL w most l = some ns) : sp 32 l = w :: ns ∧ l = lineN w ns ∧ ANs ns ∧ ns.length ≤ most := by
  unfold namesL at h
  cases e : sp 32 l with
  | nil => exact absurd e (sp_ne 32 l)
  | cons w0 ws =>
    rw [e] at h
    dsimp only at h
    by_cases c : w0 = w ∧ ANs ws ∧ ws.length ≤ most
    · rw [if_pos c] at h
      cases h
      obtain ⟨rfl, c2, c3⟩ := c
      have j := join_sp 32 l
      rw [e] at j
      exact ⟨rfl, j.symm, c2, c3⟩
    · rw [if_neg c] at h
      cases h
theorem namesL_of {w : Cs} {most : Nat} {ns : List Cs} (hw : 32 ∉ w) (h : ANs ns) (hl : ns.length ≤ most) : namesL w most (lineN w ns) = some ns := by
  have e : sp 32 (lineN w ns) = w :: ns := sp_join (by simp) fun y hy => by
    rcases List.mem_cons.mp hy with rfl | hy
    · exact hw
    · exact nm_sp (h.nm y hy)
  unfold namesL
  rw [e]
  dsimp only
  rw [if_pos ⟨rfl, h, hl⟩]
def okF (a st : List Cs) : Fact → Prop
  | .alw c => ∀ n ∈ c.askL, n ∈ a
  | .mk x y c => x ∈ st ∧ y ∈ a ∧ ∀ n ∈ c.askL, n ∈ a
instance (a st : List Cs) : DecidablePred (okF a st) := fun f => by
  cases f <;> unfold okF <;> infer_instance
abbrev FactsM := List Cs × List Cs × List Fact
def rdFs (n : Nat) (s : Cs) : Option FactsM := match sp 10 s with
  | l0 :: l1 :: fs => if fs.length ≤ 24 then (namesL (q "asks") 4 l0).bind fun a => (namesL (q "steps") 5 l1).bind fun st => (mapO (readF n) fs).bind fun ts => if ∀ t ∈ ts, okF a st t then some (a, st, ts) else none else none
  | _ => none
def shFs (f : FactsM) : Cs := joinL (q "\n") (lineN (q "asks") f.1 :: lineN (q "steps") f.2.1 :: f.2.2.map Fact.sh)
theorem readF_sh {n : Nat} {s : Cs} {f : Fact} (h : readF n s = some f) : f.sh = s := by
  unfold readF at h
  split at h
  · cases h
  · rename_i f' r e
    by_cases c : f'.sh = s
    · rw [if_pos c] at h
      cases h
      exact c
    · rw [if_neg c] at h
      cases h
theorem readF_wf {n : Nat} {s : Cs} {f : Fact} (hs : om s < n) (h : readF n s = some f) : f.wf := by
  rw [readF_eq (n' := n) (m := s.length) hs hs (Nat.le_refl _)] at h
  exact (lawF_sh h).2
theorem rdFs_some {n : Nat} {s : Cs} {f : FactsM} (h : rdFs n s = some f) : ∃ l0 l1 fs, sp 10 s = l0 :: l1 :: fs ∧ fs.length ≤ 24 ∧ namesL (q "asks") 4 l0 = some f.1 ∧ namesL (q "steps") 5 l1 = some f.2.1 ∧ mapO (readF n) fs = some f.2.2 ∧ ∀ t ∈ f.2.2, okF f.1 f.2.1 t := by
  unfold rdFs at h
  split at h
  · rename_i l0 l1 fs e
    by_cases c : fs.length ≤ 24
    · rw [if_pos c] at h
      cases h1 : namesL (q "asks") 4 l0 with
      | none => rw [h1] at h; cases h
      | some a =>
        cases h2 : namesL (q "steps") 5 l1 with
        | none => rw [h1, h2] at h; cases h
        | some st =>
          cases h3 : mapO (readF n) fs with
          | none => rw [h1, h2, h3] at h; cases h
          | some ts =>
            rw [h1, h2, h3] at h
            have h : (if ∀ t ∈ ts, okF a st t then some (a, st, ts) else none) = some f := h
            by_cases c2 : ∀ t ∈ ts, okF a st t
            · rw [if_pos c2] at h
              cases h
              exact ⟨l0, l1, fs, e, c, h1, h2, h3, c2⟩
            · rw [if_neg c2] at h
              cases h
    · rw [if_neg c] at h
      cases h
  · cases h
theorem rdFs_of {n : Nat} {s l0 l1 : Cs} {fs : List Cs} {a st : List Cs} {ts : List Fact} (e : sp 10 s = l0 :: l1 :: fs) (c : fs.length ≤ 24) (h1 : namesL (q "asks") 4 l0 = some a) (h2 : namesL (q "steps") 5 l1 = some st) (h3 : mapO (readF n) fs = some ts) (h4 : ∀ t ∈ ts, okF a st t) : rdFs n s = some (a, st, ts) := by
  unfold rdFs
  rw [e]
  dsimp only
  rw [if_pos c, h1, h2, h3]
  show (if ∀ t ∈ ts, okF a st t then some (a, st, ts) else none) = _
  rw [if_pos h4]
theorem mapO_sh {n : Nat} {fs : List Cs} {ts : List Fact} (h : mapO (readF n) fs = some ts) : ts.map Fact.sh = fs := (mapO_some h Fact.sh (fun _ => True) fun x y z => ⟨readF_sh z, trivial⟩).1
theorem mapO_wf {n : Nat} {fs : List Cs} {ts : List Fact} (hs : ∀ l ∈ fs, om l < n) (h : mapO (readF n) fs = some ts) : ∀ t ∈ ts, t.wf := fun t ht => by
  obtain ⟨k, hk⟩ := List.getElem?_of_mem ht
  have hl := mapO_len h
  have hk2 : k < fs.length := by
    have := (List.getElem?_eq_some_iff.mp hk).1
    omega
  obtain ⟨y, e1, e2⟩ := mapO_get h (List.getElem?_eq_getElem hk2)
  rw [hk] at e1
  cases e1
  exact readF_wf (hs _ (List.getElem_mem hk2)) e2
theorem rdFs_sh {n : Nat} {s : Cs} {f : FactsM} (h : rdFs n s = some f) : shFs f = s := by
  obtain ⟨l0, l1, fs, e, _, h1, h2, h3, _⟩ := rdFs_some h
  have j := join_sp 10 s
  rw [e, (namesL_some h1).2.1, (namesL_some h2).2.1, ← mapO_sh h3] at j
  unfold shFs
  exact j
/-- what is shown as s was read out of s -/
theorem rdFs_back {n : Nat} {s l0 l1 : Cs} {fs : List Cs} {a st : List Cs} {ts : List Fact} (e : sp 10 s = l0 :: l1 :: fs) (c : fs.length ≤ 24) (ha : ANs a) (hst : ANs st) (la : a.length ≤ 4) (ls : st.length ≤ 5) (hs : ∀ l ∈ fs, om l < n) (h3 : mapO (readF n) fs = some ts)
    (h4 : ∀ t ∈ ts, okF a st t) (he : shFs (a, st, ts) = s) : rdFs n s = some (a, st, ts) := by
  have hl : ∀ {w : String} {ns : List Cs}, ANs ns → (q w).all (fun c => decide (c ≠ 10)) = true → fr 10 (lineN (q w) ns) := fun h1 h2 => fr_join (fr_q (s := " ") (by decide)) fun y hy => by
    rcases List.mem_cons.mp hy with rfl | hy
    · exact fr_q h2
    · exact nm_fr (h1.nm y hy)
  have e2 : sp 10 (shFs (a, st, ts)) = lineN (q "asks") a :: lineN (q "steps") st :: ts.map Fact.sh := sp_join (by simp) fun y hy => by
    rcases List.mem_cons.mp hy with rfl | hy
    · exact hl ha (by decide)
    rcases List.mem_cons.mp hy with rfl | hy
    · exact hl hst (by decide)
    · obtain ⟨t, ht, rfl⟩ := List.mem_map.mp hy
      exact fact_fr t (mapO_wf hs h3 t ht)
  rw [he, e] at e2
  injection e2 with e3 e4
  injection e4 with e5 e6
  subst e3 e5
  exact rdFs_of e c (namesL_of (by decide) ha la) (namesL_of (by decide) hst ls) h3 h4
end M
end

section
set_option Elab.async false
set_option linter.all false
set_option maxRecDepth 100000
set_option maxHeartbeats 4000000
/-! sorted(set(x)), x a list of texts. -/
namespace XS
open PySem PySem.Spec PyProof.Rows L2
section
variable {P : Program} {w : World} {A : Around} {E : Value → Shared → Prop} {s : Shared} {a : Addr} {l : List Str}
set_option maxHeartbeats 8000000 in
/-- set(x), x a list of texts -/
theorem call_setL {q : Addr} {items : Array Value} {xs : List Str} {Q : Value → Shared → Prop} (hh : A.handled = none) (ht : s.heap.IsList q items) (hi : StrsAre items.toList xs) (hsm : xs.length < 1000)
    (h : ∀ (h2 : Heap) (tk : Nat) (l : List Str), TSet w h2 s.heap.objs.size l → Met xs l → (∀ b o, s.heap.get? b = some o → h2.get? b = some o) → Q (.ref s.heap.objs.size) { s with heap := h2, toks := tk }) : wpAny (model P w) A (call (.type "set") [.ref q]) Q E s := by
  obtain ⟨mc, mt, mq⟩ := F.called_set.mro
  have c1 := F.called_set.made
  have c2 := F.called_set.sub
  refine wpAny_call (codeAny_of_tree ?_)
  show wpAny _ _ (callAny (.type "set") _) _ _ _
  refine wpAny_pure ⟨Code.quiet_builtin _ (by decide +kernel), codeAny_builtin F.entry_type_call ?_⟩
  rw [Around.under_plain (weight_type_call_type "set" [.ref q] []) rfl]
  have c3 := F.called_set.notType
  have c4 := F.called_set.canCreate
  have c5 := F.typeCall_set_1 (.ref q)
  repeat (any_goals (first | assumption | wp_step))
  refine codeAny_mono (code_set_led1 (.ref q) (E := E) (Q₁ := fun v s1 => v = .ref s.heap.objs.size ∧ s1 = { s with heap := s.heap.push (Fresh w) }) ⟨rfl, rfl⟩) fun r0 s0 hr0 => ?_
  cases r0 with
  | error e => exact hr0
  | ok fl0 =>
    cases fl0 with
    | ret v0 =>
      obtain ⟨rfl, rfl⟩ := hr0
      have n0 : (s.heap.push (Fresh w)).get? s.heap.objs.size = some (Fresh w) := Heap.get?_push_size _ rfl
      have ty : Shared.TypeIs { s with heap := s.heap.push (Fresh w) } (.ref s.heap.objs.size) "set" := ⟨_, n0, rfl⟩
      have c6 := F.called_set.init.lookup
      have c7 := F.called_set.init.bind (.ref s.heap.objs.size)
      repeat (any_goals (first | assumption | wp_step))
      refine codeAny_mono (codeAny_call_builtin (R := wants (fun r s2 => r = .none ∧ ∃ h2 tk l, s2 = { s with heap := h2, toks := tk } ∧ TSet w h2 s.heap.objs.size l ∧ Met xs l ∧ (∀ b o, s.heap.get? b = some o → h2.get? b = some o)) E)
        F.called_set.init.plain F.entry_set_init (check_set_init_1 ty ?_)) fun r1 s1 hr1 => ?_
      · obtain ⟨oq, hoq, hcq, nq, hdq⟩ := ht
        obtain ⟨qc, qd, qx, qs⟩ := oq
        simp only at hcq hdq
        subst hcq hdq
        have at1 : (s.heap.push (Fresh w)).get? q = some { cls := .type "list", dict := qd, data := .seq items nq, slots := qs } := Heap.get?_push_of_some _ hoq
        have d1 := F.sub_list_set
        have d2 := F.sub_list_frozenset
        have d3 : (Value.type "list" == Value.type "dict") = false := by decide
        have it1 : (s.heap.push (Fresh w)).IsList q items := ⟨_, at1, rfl, nq, rfl⟩
        unfold Builtin.«set.__init__» noKeywords Builtin.Frozenset.updateFrom
        generalize hI : pyIter = I0
        wp_walk
        subst hI
        refine wpAny_pyIter_list it1 (wpAny_bind (wpAny_runValue ?_))
        have lq : q < s.heap.objs.size := Heap.lt_size hoq
        have hd3 : A.in1.in1.in1.handled = none := by simp [hh]
        have z1 : (s.heap.push (Fresh w)).objs.size = s.heap.objs.size + 1 := Heap.size_push ..
        have ne1 : q ≠ (s.heap.push (Fresh w)).objs.size := by
          rw [z1]
          exact Nat.ne_of_lt (Nat.lt_succ_of_lt lq)
        have ne2 : s.heap.objs.size ∉ [(s.heap.push (Fresh w)).objs.size, q] := by
          rw [z1, List.mem_cons, List.mem_singleton, not_or]
          exact ⟨Nat.ne_of_lt (Nat.lt_succ_self _), Nat.ne_of_gt lq⟩
        have zx : xs.length = items.size := by
          rw [← Array.length_toList, hi.len_eq]
        refine fill ((Walks.list hd3 _ q ne1 items).toS) ne2 xs zx (by omega) (fun i v hv => str_at hi i v (by rw [Array.getElem?_toList]; exact hv)) items.size 0 _ (by omega) ⟨⟨_, Heap.get?_push_size _ rfl, rfl, rfl⟩, it1.push _⟩
          ⟨[], fresh_set (Heap.get?_push_of_some _ n0), Met.nil⟩ fun s2 l mv T m => ?_
        obtain ⟨h2, g2, d2, tk2, os2⟩ := s2
        obtain rfl : g2 = s.gens := mv.gens
        obtain rfl : d2 = s.drawn := mv.drawn
        obtain rfl : os2 = s.os := mv.os
        show wpAny _ _ _ _ _ _
        refine wpAny_pure ?_
        show wpAny _ _ (ret Value.none) _ _ _
        refine wpAny_pure ⟨rfl, h2, tk2, l, rfl, T, m, fun b o e => ?_⟩
        have lb := Heap.lt_size e
        refine mv.heap b o (fun z => ?_) (Heap.get?_push_of_some _ (Heap.get?_push_of_some _ e))
        rw [z1] at z
        rcases List.mem_cons.mp z with z | z
        · exact absurd lb (by rw [z]; exact Nat.lt_irrefl _)
        · exact absurd lb (by rw [List.mem_singleton.mp z]; exact Nat.not_lt_of_le (Nat.le_succ _))
      · cases r1 with
        | error e => exact hr1
        | ok fl1 =>
          cases fl1 with
          | ret v1 =>
            obtain ⟨rfl, h2, tk, l, rfl, T, m, k⟩ := hr1
            repeat (any_goals (first | assumption | wp_step))
            exact h _ _ _ T m k
          | _ => exact hr1.elim
    | _ => exact hr0.elim
end
section
variable {X : Cx}
/-- sorted(set(x)), x a list of texts -/
def tSortSetL (K : PySem.W.Frag) (ta : TE) : TE := fun σ H Q => ta σ H fun x H1 => ∃ (t : Addr) (xs : List Str), x = .ref t ∧ SqL K H1 t (xs.map V.str) ∧ xs.length < 64 ∧
  ∀ (ys : List Str) (p : Addr), ys.Nodup → (∀ k, k ∈ ys ↔ k ∈ xs) → sortedS ys = true → H1 p = none → Q (.ref p) (upd H1 p (.lst (ys.map V.str)))
theorem pe_sortSetL {a : Expr} {ta : TE} {p p2 q pos : Pos} (hc : X.calm = true) (hg : Gl X "sorted") (hm : X.mg "sorted" = none) (hg2 : Gl X "set") (hm2 : X.mg "set" = none) (ha : PE X a ta)
    (na : starEach [a] X.env = (false, eval a X.env) :: starEach [] X.env := by rfl) : PE X (.Call (.Name "sorted" p) [.Call (.Name "set" p2) [a] [] q] [] pos) (tSortSetL X.K ta) := by
  refine ⟨fun pins s σ H Q I h => ?_⟩
  refine Call_ (ld_blt I hg hm boot_sorted ?_)
  refine PyProof.Rows.callWith_builtin1 (PyProof.Rows.args_cons ?_ rfl) rfl rfl
  refine Call_ (ld_blt I hg2 hm2 boot_set ?_)
  refine PyProof.Rows.callWith_type1 (PyProof.Rows.args_cons (thn (ha.run pins s σ H _ I h) fun v s1 ⟨x, H1, I1, r1, q1⟩ => PyProof.Rows.args_nil ?_) na) na rfl
  obtain ⟨t, xs, rfl, hq, h64, q1⟩ := q1
  cases r1
  obtain ⟨its, r, pl, hz⟩ := I1.list hq
  refine call_setL (I1.ok.hd hc) pl.isList (by simpa using strsAre_of r) (by omega) fun h2 tk l T m k2 => ?_
  refine PyProof.Rows.args_nil ?_
  have I2 : Inv X pins σ H1 { s1 with heap := h2, toks := tk } := I1.kept k2
  have T2 : TSet X.w ({ s1 with heap := h2, toks := tk } : Shared).heap s1.heap.objs.size l := T
  generalize ({ s1 with heap := h2, toks := tk } : Shared) = s2 at I2 T2 ⊢
  refine sorted_tset T2 (I2.ok.hd hc) (by have := m.len; omega) fun s3 b out c ys k g o hp hg hi pm so => ?_
  have nd : ys.Nodup := pm.nodup_iff.mpr m.1
  have hlen : (ys.map V.str).length ≤ sizeLine := by
    rw [List.length_map, pm.length_eq, sizeLine_eq]
    have := m.len
    omega
  have hn : H1 b = none := I2.hok.fresh hp
  have J : Inv X pins σ (upd H1 b (.lst (ys.map V.str))) { s2 with heap := s3.heap, gens := s3.gens, drawn := s3.drawn, toks := s3.toks } :=
    I2.call (ch := []) (Un.laid k hp hn) (I2.hok.laid k hp ⟨hlen, out.toList, c, vals_of_strs hi, hg⟩) (by rw [g]; exact I2.bare) (fun _ z => nomatch z)
  have e : s3 = { s2 with heap := s3.heap, gens := s3.gens, drawn := s3.drawn, toks := s3.toks } := by
    cases s3
    cases s2
    cases o
    rfl
  rw [e]
  exact ⟨.ref b, _, J, rfl, q1 ys b nd (fun j => (pm.mem_iff).trans (m.2 j)) so hn⟩
/-- len(set(x)), x a list of texts -/
def tLenSetL (K : PySem.W.Frag) (ta : TE) : TE := fun σ H Q => ta σ H fun x H1 => ∃ (t : Addr) (xs : List Str), x = .ref t ∧ SqL K H1 t (xs.map V.str) ∧ xs.length < 1000 ∧
  ∀ l : List Str, l.Nodup → (∀ k, k ∈ l ↔ k ∈ xs) → Q (.int l.length) H1
theorem pe_lenSetL {a : Expr} {ta : TE} {p p2 q pos : Pos} (hc : X.calm = true) (hg : Gl X "len") (hm : X.mg "len" = none) (hg2 : Gl X "set") (hm2 : X.mg "set" = none) (ha : PE X a ta)
    (na : starEach [a] X.env = (false, eval a X.env) :: starEach [] X.env := by rfl) : PE X (.Call (.Name "len" p) [.Call (.Name "set" p2) [a] [] q] [] pos) (tLenSetL X.K ta) := by
  refine ⟨fun pins s σ H Q I h => ?_⟩
  refine Call_ (ld_blt I hg hm boot_len ?_)
  refine PyProof.Rows.callWith_builtin1 (PyProof.Rows.args_cons ?_ rfl) rfl rfl
  refine Call_ (ld_blt I hg2 hm2 boot_set ?_)
  refine PyProof.Rows.callWith_type1 (PyProof.Rows.args_cons (thn (ha.run pins s σ H _ I h) fun v s1 ⟨x, H1, I1, r1, q1⟩ => PyProof.Rows.args_nil ?_) na) na rfl
  obtain ⟨t, xs, rfl, hq, h64, q1⟩ := q1
  cases r1
  obtain ⟨its, r, pl, hz⟩ := I1.list hq
  refine call_setL (I1.ok.hd hc) pl.isList (by simpa using strsAre_of r) h64 fun h2 tk l T m k2 => ?_
  refine PyProof.Rows.args_nil ?_
  have I2 : Inv X pins σ H1 { s1 with heap := h2, toks := tk } := I1.kept k2
  obtain ⟨o, es, ep, t', ho, hex, hd, F⟩ := T
  have hn : es.size = l.length := F.size
  have hl := m.len
  refine call_len_set ho hex hd F.fits (by rw [hn]; omega) ⟨.int l.length, H1, I2.tok _, ⟨_, by rw [hn]⟩, q1 l m.1 m.2⟩
end
end XS
end

section
set_option Elab.async false
set_option linter.all false
set_option maxRecDepth 100000
set_option maxHeartbeats 4000000
/-! k93: is_condition, is_part. -/
namespace K93
open PySem PySem.Spec PyProof.Rows L2 He HL
section
variable {w : World} {K : PySem.W.Frag} {mg : Str → Option Value} {base : Heap}
abbrev n_is_condition : List Str := ["thing", "word", "rest", "one"]
theorem sc_is_condition : FnScope n_is_condition ["thing"] (defScope s_is_condition) := ⟨rfl, rfl, rfl, by decide +kernel, rfl, by decide +kernel, by decide +kernel⟩
theorem bi_is_condition : ∀ (kV doc pm : Value) (an : Option Addr) (cdv ct : Value) (us : List Value), us.length = 1 → bindArgs (PySem.W.fnOf d_is_condition.name d_is_condition.qual d_is_condition.params d_is_condition.body d_is_condition.scope .none kV doc pm an cdv ct) ⟨us, []⟩ = pure ([("thing" : Str)].zip us) := fun kV doc pm an cdv ct us hu => by
  match us, hu with
  | [u0], _ => rfl
def spIsC (n : Nat) : Sp := fun vs H Q _ => ∃ v c, vs = [v] ∧ CAt H c v ∧ c.wf ∧ M.om c.sh < n ∧ c.sh.length ≤ 1000000 ∧ ∀ H', Same H H' → Q (.bl true) H'
theorem o_is_cond (W : Wl K mg) : ∀ (n L : Nat), (n = 0 → 1 ≤ L) → (0 < n → n + 1 ≤ L) → OkD w K mg base CX0 L d_is_condition ["thing"] (spIsC n) := by
  intro n
  induction n with
  | zero =>
    intro L h0 h1
    obtain ⟨k, rfl⟩ : ∃ k, L = k + 1 := ⟨L - 1, by have := h0 rfl; omega⟩
    exact o_vac W.D_is_condition sc_is_condition bi_is_condition fun vs H Q E ⟨v, c, _, _, _, z, _⟩ => by omega
  | succ n ih =>
  intro L h0 h1
  obtain ⟨k, rfl⟩ : ∃ k, L = k + 1 := ⟨L - 1, by have := h1 (by omega); omega⟩
  have hk : n + 1 ≤ k := by have := h1 (by omega); omega
  have O_is_condition := ih k (fun _ => by omega) (fun _ => by omega)
  have O_is_name := o_is_name (w := w) (base := base) W
  refine HL.ok_of0 W.D_is_condition sc_is_condition (fun vs H Q E ⟨_, _, h, _⟩ => by rw [h]; rfl) bi_is_condition fun cdv A outer s H vs Q E hr h => ?_
  have nd := sc_is_condition.nd
  refine ⟨_, (pss_cons (ps_if (PW.pt (pw_or (pt_not (pt_val (pe_callB call_isi (by rfl) W.f_isinstance (by decide +kernel) (pa_cons (pv 0) (pa_cons (pe_bltn (v := .ty "tuple") (by rfl) W.f_tuple (by decide +kernel) rfl) pa_nil))))) (pw_or1 (pt_cmpR op_notIn_seq (pe_callB call_len_seq (by rfl) W.f_len (by decide +kernel) (pa_cons (pv 0) pa_nil)) (pe_tup (pa_cons pe_int (pa_cons pe_int pa_nil))) (by rfl))))) (pss_one (ps_ret pe_bl)) pss_nil)
    (pss_cons (ps_if (pt_cmpR op_eq (pe_callB call_len_seq (by rfl) W.f_len (by decide +kernel) (pa_cons (pv 0) pa_nil)) pe_int (nomark _)) (pss_one (ps_ret (pe_cmpR XP.op_inT (pv 0) (pe_tup (pa_cons (pe_tup (pa_cons pe_str pa_nil)) (pa_cons (pe_tup (pa_cons pe_str pa_nil)) pa_nil))) (by rfl)))) pss_nil)
    (pss_cons (ps_asg (pv 0) (pg_tup (by rfl) (pgs_cons (pg_name (i := 1) nd rfl (Or.inl rfl)) (pgs_cons (pg_name (i := 2) nd rfl (Or.inl rfl)) pgs_nil))))
    (pss_cons (ps_if (pt_cmpR op_eq (pv 1) pe_str (nomark _)) (pss_one (ps_ret (pe_cal O_is_name (hr.mono (by omega)) W.g_is_name pass0 (pa_cons (pv 2) pa_nil)))) pss_nil)
    (pss_cons (ps_if (pt_cmpR op_eq (pv 1) pe_str (nomark _)) (pss_one (ps_ret (pe_cal O_is_condition (hr.mono (by omega)) W.g_is_condition pass0 (pa_cons (pv 2) pa_nil)))) pss_nil)
    (pss_one (ps_ret (pe_and (pe_cmpR op_in_seq (pv 1) (pe_tup (pa_cons pe_str (pa_cons pe_str pa_nil))) (by rfl)) (pe_and (pe_callB call_isi (by rfl) W.f_isinstance (by decide +kernel) (pa_cons (pv 2) (pa_cons (pe_bltn (v := .ty "tuple") (by rfl) W.f_tuple (by decide +kernel) rfl) pa_nil))) (pe_one (pe_callB (cr_all rfl) (by rfl) W.f_all (by decide +kernel) (pa_cons (pe_lc (own := [("one", 3)]) (g := gName 3) (tt := tYes) (by rfl) nd (pi_tup (pv 2)) (blkOk_by (own := [("one", 3)]) (N := n_is_condition) (sc := defScope s_is_condition) (by decide +kernel)) (fun _ _ _ _ _ => pg_name (i := 3) nd rfl (Or.inl rfl)) (fun _ _ _ _ _ => pts_nil) (fun _ _ _ _ _ => (pe_cal O_is_condition (hr.mono (by omega)) W.g_is_condition pass0 (pa_cons (pv 3) pa_nil)))) pa_nil)))))))))))), ?_⟩
  obtain ⟨v, c, rfl, hc, hwf, hom, hlen, hq⟩ := h
  have hun := hr.un
  cases c with
  | word b =>
    unfold CAt at hc
    obtain ⟨a, rfl, ha⟩ := hc
    refine ⟨_, rfl, _, _, _, _, true, rfl, .ty _, ty_tup ha, kit_ty (by decide +kernel), true, rfl, ?_⟩
    refine iteF ⟨_, rfl, a, _, rfl, .inr (sqt ha), by show 2 ≤ sizeLine; decide, fun t ht => ⟨t, _, rfl, .inr (sqt upd_same), rfl, rfl, _, rfl, ?_⟩⟩
    refine iteE false rfl (iteF ?_)
    have s1 : Same H (upd H t (.tup [V.int 1, V.int 2])) := same_new ht
    generalize upd H t (.tup [V.int 1, V.int 2]) = H1 at s1 ⊢
    have ha1 := s1 _ _ ha
    refine ⟨_, rfl, a, _, rfl, .inr (sqt ha1), rfl, _, rfl, ?_⟩
    refine iteE true rfl (iteT ⟨_, rfl, by show 1 ≤ sizeLine; decide, fun t1 ht1 => ⟨by show 1 ≤ sizeLine; decide, fun t2 ht2 => ⟨by show 2 ≤ sizeLine; decide, fun t3 ht3 => ?_⟩⟩⟩)
    have s2 := same_new (o := .tup [V.str "yes"]) ht1
    have s3 := same_new (o := .tup [V.str "no"]) ht2
    have s4 := same_new (o := .tup [V.ref t1, V.ref t2]) ht3
    have q1 := s4 _ _ (s3 _ _ (upd_same (H := H1) (a := t1) (o := .tup [V.str "yes"])))
    have q2 := s4 _ _ (upd_same (H := upd H1 t1 (.tup [V.str "yes"])) (a := t2) (o := .tup [V.str "no"]))
    have ha2 := s4 _ _ (s3 _ _ (s2 _ _ ha1))
    refine ⟨cd (.word b), [.tuple [.str (Str.ofString "yes")], .tuple [.str (Str.ofString "no")]], CAt.dp (.word b) _ ?_, .tup (sqt upd_same) (.cons (.tup (sqt q1) (.cons (.str _) .nil)) (.cons (.tup (sqt q2) (.cons (.str _) .nil)) .nil)), cd_lay _ trivial, ?_, ?_, ?_⟩
    · unfold CAt
      exact ⟨a, rfl, ha2⟩
    · rw [oq, oq]
      simp only [PyData.canLay0, PyData.canLayAll0, okS (M.q "yes") (by decide), okS (M.q "no") (by decide), Bool.and_true]
    · have : (cd (M.Cond.word b)).depth = 1 := by simp [cd, PyData.depth, PyData.depthAll]
      have := Nat.min_le_right (PyData.depthAll [.tuple [.str (Str.ofString "yes")], .tuple [.str (Str.ofString "no")]]) (cd (M.Cond.word b)).depth
      show A.units + 3 + 1 + _ < _
      have h9 : A.units + 3 + 16 * k + 200 < cLine := hun
      omega
    · have e : ([PyData.tuple [.str (Str.ofString "yes")], .tuple [.str (Str.ofString "no")]].any fun z => PyData.eqv z (cd (.word b))) = true := by
        rw [oq, oq]
        cases b <;> simp [cd, PyData.eqv, PyData.eqvAll, M.yq]
      rw [e]
      exact hq _ ((((s1.trans s2).trans s3)).trans s4)
  | ask x =>
    unfold CAt at hc
    obtain ⟨a, rfl, ha⟩ := hc
    have hwf : M.Nm x := by simpa [M.Cond.wf] using hwf
    refine ⟨_, rfl, _, _, _, _, true, rfl, .ty _, ty_tup ha, kit_ty (by decide +kernel), true, rfl, ?_⟩
    refine iteF ⟨_, rfl, a, _, rfl, .inr (sqt ha), by show 2 ≤ sizeLine; decide, fun t ht => ⟨t, _, rfl, .inr (sqt upd_same), rfl, rfl, _, rfl, ?_⟩⟩
    refine iteE false rfl (iteF ?_)
    have s1 : Same H (upd H t (.tup [V.int 1, V.int 2])) := same_new ht
    generalize upd H t (.tup [V.int 1, V.int 2]) = H1 at s1 ⊢
    have ha1 := s1 _ _ ha
    refine ⟨_, rfl, a, _, rfl, .inr (sqt ha1), rfl, _, rfl, ?_⟩
    refine iteE false rfl (iteF ⟨_, rfl, a, _, rfl, sqt ha1, rfl, _, _, rfl, _, _, rfl, rfl, _, rfl, rfl, ?_⟩)
    rw [sq "ask", dec_S, decide_eq_true rfl]
    refine ⟨_, rfl, iteT ⟨_, rfl, x, rfl, by have := hwf.most; omega, fun H2 e2 => ?_⟩⟩
    have e : (decide (0 < x.length ∧ x.length ≤ 8) && x.all M.isLet) = true := by
      rw [decide_eq_true ⟨hwf.pos, hwf.most⟩, List.all_eq_true.mpr hwf.all]
      rfl
    rw [e]
    exact hq _ (s1.trans e2)
  | neg c1 =>
    unfold CAt at hc
    obtain ⟨a, u, rfl, ha, hu⟩ := hc
    have hwf : c1.wf := by simpa [M.Cond.wf] using hwf
    have ho : M.om c1.sh + 3 ≤ M.om (M.Cond.neg c1).sh := by
      show _ ≤ M.om (M.q "not" ++ (M.q "(" ++ (c1.sh ++ M.q ")")))
      rw [M.om_app, M.om_app, M.om_app, show M.om (M.q "(") = 3 from by decide]
      omega
    have hl : c1.sh.length ≤ 1000000 := by
      have h2 : (M.q "not" ++ (M.q "(" ++ (c1.sh ++ M.q ")"))).length ≤ 1000000 := hlen
      simp only [List.length_append] at h2
      omega
    refine ⟨_, rfl, _, _, _, _, true, rfl, .ty _, ty_tup ha, kit_ty (by decide +kernel), true, rfl, ?_⟩
    refine iteF ⟨_, rfl, a, _, rfl, .inr (sqt ha), by show 2 ≤ sizeLine; decide, fun t ht => ⟨t, _, rfl, .inr (sqt upd_same), rfl, rfl, _, rfl, ?_⟩⟩
    refine iteE false rfl (iteF ?_)
    have s1 : Same H (upd H t (.tup [V.int 1, V.int 2])) := same_new ht
    generalize upd H t (.tup [V.int 1, V.int 2]) = H1 at s1 ⊢
    have ha1 := s1 _ _ ha
    refine ⟨_, rfl, a, _, rfl, .inr (sqt ha1), rfl, _, rfl, ?_⟩
    refine iteE false rfl (iteF ⟨_, rfl, a, _, rfl, sqt ha1, rfl, _, _, rfl, _, _, rfl, rfl, _, rfl, rfl, ?_⟩)
    rw [sq "ask", dec_S, decide_eq_false (by decide)]
    refine ⟨_, rfl, iteF ⟨_, rfl, rfl, ?_⟩⟩
    rw [sq "not", dec_S, decide_eq_true rfl]
    refine ⟨_, rfl, iteT ⟨_, rfl, u, c1, rfl, hu.keep (.of s1), hwf, by omega, hl, fun H2 e2 => hq _ (s1.trans e2)⟩⟩
  | many b cs =>
    unfold CAt at hc
    obtain ⟨a, t0, us, rfl, ha, ht0, hA⟩ := hc
    have hA := cAtL_iff.mp hA
    have hL := hA.length
    have hwf : ∀ c ∈ cs, c.wf := (M.wfC_iff cs).mp (by simpa [M.Cond.wf] using hwf)
    have hsz : (M.nq b).length + (1 + ((TL.joinL (M.q ", ") (M.shC cs)).length + 1)) ≤ 1000000 := by
      have h2 : (M.nq b ++ (M.q "(" ++ (TL.joinL (M.q ", ") (M.shC cs) ++ M.q ")"))).length ≤ 1000000 := hlen
      simpa [show (M.q "(").length = 1 from by decide, show (M.q ")").length = 1 from by decide] using h2
    have hus : us.length ≤ 1000000 := by
      have := joinL_len (M.q ", ") (M.shC cs)
      rw [M.shC_map, List.length_map, show (M.q ", ").length = 2 from by decide, ← M.shC_map] at this
      omega
    have ho : M.om (TL.joinL (M.q ", ") (M.shC cs)) + 3 ≤ M.om (M.Cond.many b cs).sh := by
      show _ ≤ M.om (M.nq b ++ (M.q "(" ++ (TL.joinL (M.q ", ") (M.shC cs) ++ M.q ")")))
      rw [M.om_app, M.om_app, M.om_app, show M.om (M.q "(") = 3 from by decide]
      omega
    refine ⟨_, rfl, _, _, _, _, true, rfl, .ty _, ty_tup ha, kit_ty (by decide +kernel), true, rfl, ?_⟩
    refine iteF ⟨_, rfl, a, _, rfl, .inr (sqt ha), by show 2 ≤ sizeLine; decide, fun t ht => ⟨t, _, rfl, .inr (sqt upd_same), rfl, rfl, _, rfl, ?_⟩⟩
    refine iteE false rfl (iteF ?_)
    have s1 : Same H (upd H t (.tup [V.int 1, V.int 2])) := same_new ht
    generalize upd H t (.tup [V.int 1, V.int 2]) = H1 at s1 ⊢
    have ha1 := s1 _ _ ha
    refine ⟨_, rfl, a, _, rfl, .inr (sqt ha1), rfl, _, rfl, ?_⟩
    refine iteE false rfl (iteF ⟨_, rfl, a, _, rfl, sqt ha1, rfl, _, _, rfl, _, _, rfl, rfl, _, rfl, rfl, ?_⟩)
    rw [sq "ask", dec_S, decide_eq_false (by cases b <;> decide)]
    refine ⟨_, rfl, iteF ⟨_, rfl, rfl, ?_⟩⟩
    rw [sq "not", dec_S, decide_eq_false (by cases b <;> decide)]
    refine ⟨_, rfl, iteF ⟨_, rfl, by show 2 ≤ sizeLine; decide, fun t2 ht2 => in_words ["all", "any"] upd_same ⟨_, rfl, ?_⟩⟩⟩
    rw [show (["all", "any"].any fun s => decide (M.nq b = M.q s)) = true by cases b <;> decide]
    have s2 : Same H1 (upd H1 t2 (.tup [V.str "all", V.str "any"])) := same_new ht2
    generalize upd H1 t2 (.tup [V.str "all", V.str "any"]) = H2 at s2 ⊢
    have s12 := s1.trans s2
    have ht02 := s12 _ _ ht0
    refine iteT ⟨_, rfl, _, _, _, _, true, rfl, .ty _, ty_tup ht02, kit_ty (by decide +kernel), true, rfl, ?_⟩
    refine iteT ⟨_, rfl, t0, rfl, ⟨us, sqt ht02⟩, fun D hD => ?_⟩
    refine HL.lcT (xs := us) (out := us.map fun _ => V.bl true) hD (sqt ht02) (by rw [List.length_map]) (small hus) (fun k1 x1 y H3 Q3 hx1 hy e3 _ hq3 => ?_) fun H3 e3 hD3 => ?_
    · obtain ⟨c1, hc1, hAt1⟩ := hA.get hx1
      have hmem : c1 ∈ cs := List.mem_of_getElem? hc1
      have hsm : c1.sh ∈ M.shC cs := by
        rw [M.shC_map]
        exact List.mem_map.mpr ⟨c1, hmem, rfl⟩
      have hy : y = V.bl true := by
        rw [List.getElem?_map, hx1] at hy
        exact (Option.some.inj hy).symm
      subst hy
      refine ⟨_, rfl, x1, c1, rfl, hAt1.keep (.of (s12.trans e3)), hwf c1 hmem, ?_, ?_, hq3⟩
      · have h5 := om_j (b := M.q ", ") hsm
        omega
      · have h5 := len_j (b := M.q ", ") hsm
        omega
    · refine ⟨_, us.map fun _ => true, rfl, .inl (.inl (by rw [hD3, List.map_map] <;> rfl)), ?_⟩
      rw [all_id, List.all_eq_true.mpr (fun _ _ => rfl)]
      exact hq _ (s12.trans e3)
end
end K93
end

section
set_option Elab.async false
set_option linter.all false
set_option maxRecDepth 100000
set_option maxHeartbeats 4000000
/-! Comprehensions over anything, the items told by a relation that tuples alone bear. -/
namespace HL
open PySem PySem.Spec PyProof.Rows L2 He
section
variable {α : Type} {R : V → α → Hp → Prop} {J : It} {g : TG} {ws : List Nat} {te : TE} {σ : L2.St} {H1 : Hp} {D : Addr} {Qd : Hp → Prop} {P : Nat → V → Hp → Prop}
theorem lcJ (cs : List α) (hD : H1 D = none) (hsz : cs.length ≤ sizeLine) (hstop : ∀ H, Same H1 H → J.stop cs.length H) (hgo : ∀ k H, k < cs.length → Same H1 H → J.go k H)
    (hy : ∀ k H x H', k < cs.length → Same H1 H → J.yld k H x H' → Same H H' ∧ P k x H') (hR : ∀ v c H H', R v c H → TupK H H' → R v c H')
    (hs : ∀ (k : Nat) x c H (Q : VK) (B : Hp → Prop), cs[k]? = some c → Same H1 H → P k x H → (∀ y H', Same H H' → R y c H' → Q y H') → g x (wipe σ ws) H fun σ2 H2 => wipe σ2 ws = wipe σ ws ∧ tYes σ2 H2 fun b H3 => if b = true then te σ2 H3 Q else B H3)
    (hd : ∀ H us, Same H1 H → H D = some (.lst us) → All2 (fun v c => R v c H) us cs → Qd H) :
    ∃ W : Nat → Nat → Hp → Prop, (∃ m, W 0 m (upd H1 D (.lst []))) ∧ ∀ j m H, W j m H →
      (J.stop j H ∧ Qd H) ∨ (J.go j H ∧ ∃ Nx : Hp → Prop, (∀ H', Nx H' → ∃ m', m' < m ∧ W (j + 1) m' H') ∧ ∀ x H', J.yld j H x H' → g x (wipe σ ws) H' fun σ2 H2 => wipe σ2 ws = wipe σ ws ∧ tYes σ2 H2 fun b H3 =>
        if b = true then te σ2 H3 fun y H4 => ∃ acc, H4 D = some (.lst acc) ∧ acc.length < sizeLine ∧ Nx (upd H4 D (.lst (acc ++ [y]))) else Nx H3) := by
  refine ⟨fun k m H => m = cs.length - k ∧ k ≤ cs.length ∧ Same H1 H ∧ ∃ us, H D = some (.lst us) ∧ All2 (fun v c => R v c H) us (cs.take k), ⟨_, rfl, Nat.zero_le _, same_new hD, [], upd_same, trivial⟩, ?_⟩
  rintro k m H ⟨rfl, hk, e, us, hl, hA⟩
  by_cases hlt : k < cs.length
  · refine .inr ⟨hgo k H hlt e, fun H' => Same H1 H' ∧ ∃ us, H' D = some (.lst us) ∧ All2 (fun v c => R v c H') us (cs.take (k + 1)), fun H' h' => ⟨cs.length - (k + 1), by omega, rfl, hlt, h'⟩, fun x H' y => ?_⟩
    obtain ⟨e1, hP⟩ := hy k H x H' hlt e y
    have hc : cs[k]? = some cs[k] := List.getElem?_eq_getElem hlt
    refine hs k x cs[k] H' _ _ hc (e.trans e1) hP fun y' H4 e4 r => ⟨us, e4 _ _ (e1 _ _ hl), ?_, ?_, us ++ [y'], upd_same, ?_⟩
    · have := hA.length
      rw [List.length_take] at this
      omega
    · exact fun b u z => by
        rw [upd_ne (ne_of_none z hD)]
        exact e4 _ _ (e1 _ _ (e _ _ z))
    · rw [take_succ' hc]
      have hl4 := e4 _ _ (e1 _ _ hl)
      have tk : TupK H4 (upd H4 D (.lst (us ++ [y']))) := (TupK.refl H4).mut hl4 (fun xs q => nomatch q)
      exact All2.snoc (R := fun v c => R v c (upd H4 D (.lst (us ++ [y'])))) (hR _ _ _ _ r tk) (hA.imp fun v c z => hR _ _ _ _ z ((TupK.of (e1.trans e4)).trans tk))
  · have ek : k = cs.length := by omega
    subst ek
    exact .inl ⟨hstop H e, hd H us e hl (by rw [List.take_length] at hA; exact hA)⟩
end
/-! ### what is walked -/
section
variable {K : PySem.W.Frag} {a : Addr} {xs : List V} {H1 : Hp}
theorem itl_stop {n : Nat} (h : SqL K H1 a xs) (hn : n = xs.length) : ∀ H, Same H1 H → (Itl K a).stop n H := fun H e => ⟨xs, e.seq h, by omega⟩
theorem itl_go {n : Nat} (h : SqL K H1 a xs) (hn : n = xs.length) : ∀ k H, k < n → Same H1 H → (Itl K a).go k H := fun k H hk e => ⟨xs, xs[k]'(by omega), e.seq h, List.getElem?_eq_getElem (by omega)⟩
theorem itl_yld {n : Nat} (h : SqL K H1 a xs) : ∀ k H x H', k < n → Same H1 H → (Itl K a).yld k H x H' → Same H H' ∧ xs[k]? = some x := fun k H x H' _ e ⟨h1, h2⟩ => ⟨h1 ▸ Same.refl _, h2 xs (e.seq h)⟩
theorem itt_stop {n : Nat} (h : SqT K H1 a xs) (hn : n = xs.length) : ∀ H, Same H1 H → (Itt K a).stop n H := fun H e => ⟨xs, tseq e h, by omega⟩
theorem itt_go {n : Nat} (h : SqT K H1 a xs) (hn : n = xs.length) : ∀ k H, k < n → Same H1 H → (Itt K a).go k H := fun k H hk e => ⟨xs, xs[k]'(by omega), tseq e h, List.getElem?_eq_getElem (by omega)⟩
theorem itt_yld {n : Nat} (h : SqT K H1 a xs) : ∀ k H x H', k < n → Same H1 H → (Itt K a).yld k H x H' → Same H H' ∧ xs[k]? = some x := fun k H x H' _ e ⟨h1, h2⟩ => ⟨h1 ▸ Same.refl _, h2 xs (tseq e h)⟩
theorem itz_stop {n : Nat} {b : Addr} {ys : List V} (h : SqL K H1 a xs) (h2 : SqL K H1 b ys) (hn : xs.length ≤ n ∨ ys.length ≤ n) : ∀ H, Same H1 H → (Itz K a b).stop n H := fun H e => ⟨xs, ys, e.seq h, e.seq h2, hn⟩
theorem itz_go {n : Nat} {b : Addr} {ys : List V} (h : SqL K H1 a xs) (h2 : SqL K H1 b ys) (hn : n ≤ xs.length ∧ n ≤ ys.length) : ∀ k H, k < n → Same H1 H → (Itz K a b).go k H := fun k H hk e => ⟨xs, ys, xs[k]'(by omega), ys[k]'(by omega), e.seq h, e.seq h2, List.getElem?_eq_getElem (by omega), List.getElem?_eq_getElem (by omega)⟩
theorem itz_yld {n : Nat} {b : Addr} {ys : List V} (h : SqL K H1 a xs) (h2 : SqL K H1 b ys) : ∀ k H x H', k < n → Same H1 H → (Itz K a b).yld k H x H' → Same H H' ∧ ∃ T u v, x = .ref T ∧ H' T = some (.tup [u, v]) ∧ xs[k]? = some u ∧ ys[k]? = some v := fun k H x H' _ e ⟨T, u, v, r, hT, hH, q1, q2⟩ => by
  subst hH
  exact ⟨same_new hT, T, u, v, r, upd_same, q1 xs (e.seq h), q2 ys (e.seq h2)⟩
/-- for i, j in ..: a pair -/
theorem pair_in {te : TE} {σ : L2.St} {H : Hp} {B : Hp → Prop} {Q : VK} {i j : Nat} {T : Addr} {x y : V} (hT : H T = some (.tup [x, y])) (h : te (((wipe σ [i, j]).set i (some x)).set j (some y)) H Q) :
    gTup K 2 (gCons (gName i) (gCons (gName j) gNil)) (.ref T) (wipe σ [i, j]) H fun σ2 H2 => wipe σ2 [i, j] = wipe σ [i, j] ∧ tYes σ2 H2 fun b H3 => if b = true then te σ2 H3 Q else B H3 := by
  refine ⟨T, [x, y], rfl, .inl (.inl hT), rfl, _, _, rfl, _, _, rfl, rfl, ?_, yes_in h⟩
  show ((((((σ.set j none).set i none).set i (some x)).set j (some y)).set j none)).set i none = (σ.set j none).set i none
  refine List.ext_getElem? fun k => ?_
  simp only [List.getElem?_set, List.length_set]
  by_cases h1 : i = k <;> by_cases h2 : j = k <;> simp [h1, h2]
theorem name_in {te : TE} {σ : L2.St} {H : Hp} {B : Hp → Prop} {Q : VK} {i : Nat} {x : V} (h : te ((wipe σ [i]).set i (some x)) H Q) :
    gName i x (wipe σ [i]) H fun σ2 H2 => wipe σ2 [i] = wipe σ [i] ∧ tYes σ2 H2 fun b H3 => if b = true then te σ2 H3 Q else B H3 := ⟨wipe1, yes_in h⟩
end
end HL
end

section
set_option Elab.async false
set_option linter.all false
set_option maxRecDepth 100000
set_option maxHeartbeats 4000000
/-! [y for x in .. for y in f(x)], f(x) a new list each time. -/
namespace HL
open PySem PySem.Spec PyProof.Rows L2 He
theorem wlen {σ : L2.St} : ∀ ws : List Nat, (wipe σ ws).length = σ.length
  | [] => rfl
  | i :: r => by
    show ((wipe σ r).set i none).length = _
    rw [List.length_set, wlen r]
theorem wipe2 {σ : L2.St} {i j : Nat} {v : Option V} : wipe ((wipe σ [i, j]).set i v) [i, j] = wipe σ [i, j] := by
  show (((((σ.set j none).set i none).set i v).set j none)).set i none = (σ.set j none).set i none
  refine List.ext_getElem? fun k => ?_
  simp only [List.getElem?_set, List.length_set]
  by_cases h1 : i = k <;> by_cases h2 : j = k <;> simp [h1, h2]
theorem take_flat {α : Type} {l : List (List α)} {k : Nat} {x : List α} (h : l[k]? = some x) : (l.take (k + 1)).flatten = (l.take k).flatten ++ x := by
  rw [List.take_succ, h, List.flatten_append]
  simp
theorem flat_le {α : Type} {l : List (List α)} {k : Nat} {x : List α} (h : l[k]? = some x) : (l.take k).flatten.length + x.length ≤ l.flatten.length := by
  have e := List.take_append_drop (k + 1) l
  have e2 := congrArg (fun z => (List.flatten z).length) e
  simp only [List.flatten_append, List.length_append, take_flat h] at e2
  omega
section
variable {K : PySem.W.Frag} {J : It} {wi1 : TI} {σ : L2.St} {H1 : Hp} {D : Addr} {Qd : Hp → Prop} {i j : Nat} {P : Nat → V → Hp → Prop}
theorem lc2F (outs : List (List V)) (hD : H1 D = none) (hj : j < σ.length) (hij : i ≠ j) (hsz : outs.flatten.length ≤ 1000000) (hstop : ∀ H, Same H1 H → J.stop outs.length H) (hgo : ∀ k H, k < outs.length → Same H1 H → J.go k H)
    (hy : ∀ k H x H', k < outs.length → Same H1 H → J.yld k H x H' → Same H H' ∧ P k x H')
    (hs : ∀ (k : Nat) x ys H (Q : It → Hp → Prop), outs[k]? = some ys → Same H1 H → P k x H → (∀ l H', Same H H' → H l = none → H' l = some (.lst ys) → Q (Itl K l) H') → wi1 ((wipe σ [i, j]).set i (some x)) H Q)
    (hd : ∀ H, Same H1 H → H D = some (.lst outs.flatten) → Qd H) :
    ∃ W : Nat → Nat → Hp → Prop, (∃ m, W 0 m (upd H1 D (.lst []))) ∧ ∀ k m H, W k m H →
      (J.stop k H ∧ Qd H) ∨ (J.go k H ∧ ∃ Nx : Hp → Prop, (∀ H', Nx H' → ∃ m', m' < m ∧ W (k + 1) m' H') ∧ ∀ x H', J.yld k H x H' → gName i x (wipe σ [i, j]) H' fun σ2 H2 => wipe σ2 [i, j] = wipe σ [i, j] ∧ tYes σ2 H2 fun b H3 =>
        if b = true then wi1 σ2 H3 fun J1 H4 => ∃ W1 : Nat → Nat → Hp → Prop, (∃ m, W1 0 m H4) ∧ ∀ q k H, W1 q k H →
          (J1.stop q H ∧ Nx H) ∨ (J1.go q H ∧ ∃ Nx1 : Hp → Prop, (∀ H', Nx1 H' → ∃ k', k' < k ∧ W1 (q + 1) k' H') ∧ ∀ x H', J1.yld q H x H' → gName j x (wipe σ2 [j]) H' fun σ3 H5 => wipe σ3 [j] = wipe σ2 [j] ∧ tYes σ3 H5 fun b H6 =>
            if b = true then tVar j σ3 H6 fun y H7 => ∃ acc, H7 D = some (.lst acc) ∧ acc.length < sizeLine ∧ Nx1 (upd H7 D (.lst (acc ++ [y]))) else Nx1 H6)
        else Nx H3) := by
  refine ⟨fun k m H => m = outs.length - k ∧ k ≤ outs.length ∧ Same H1 H ∧ H D = some (.lst (outs.take k).flatten), ⟨_, rfl, Nat.zero_le _, same_new hD, upd_same⟩, ?_⟩
  rintro k m H ⟨rfl, hk, e, hl⟩
  by_cases hlt : k < outs.length
  · refine .inr ⟨hgo k H hlt e, fun H' => Same H1 H' ∧ H' D = some (.lst (outs.take (k + 1)).flatten), fun H' h' => ⟨outs.length - (k + 1), by omega, rfl, hlt, h'⟩, fun x H' y => ?_⟩
    obtain ⟨e1, hP⟩ := hy k H x H' hlt e y
    have hc : outs[k]? = some outs[k] := List.getElem?_eq_getElem hlt
    have hfl := flat_le hc
    refine ⟨wipe2, ?_⟩
    delta tYes
    dsimp only
    rw [if_pos rfl]
    refine hs k x outs[k] H' _ hc (e.trans e1) hP fun l H4 e4 hl0 hlv => ?_
    generalize outs[k] = ys at hc hlv hfl
    have nlD : D ≠ l := fun z => by
      rw [← z, e1 _ _ hl] at hl0
      cases hl0
    refine ⟨fun q m H => m = ys.length - q ∧ q ≤ ys.length ∧ Same H1 H ∧ H l = some (.lst ys) ∧ H D = some (.lst ((outs.take k).flatten ++ ys.take q)), ⟨_, rfl, Nat.zero_le _, (e.trans e1).trans e4, hlv, ?_⟩, ?_⟩
    · rw [List.take_zero, List.append_nil]
      exact e4 _ _ (e1 _ _ hl)
    rintro q m H5 ⟨rfl, hq, e5, hl5, hD5⟩
    by_cases hlt5 : q < ys.length
    · refine .inr ⟨⟨ys, ys[q], Or.inl (Or.inl hl5), List.getElem?_eq_getElem hlt5⟩, fun H' => Same H1 H' ∧ H' l = some (.lst ys) ∧ H' D = some (.lst ((outs.take k).flatten ++ ys.take (q + 1))), fun H' h' => ⟨ys.length - (q + 1), by omega, rfl, hlt5, h'⟩, fun z H6 hz => ?_⟩
      obtain ⟨rfl, hz2⟩ := hz
      have hzq := hz2 ys (Or.inl (Or.inl hl5))
      refine ⟨wipe1, ?_⟩
      rw [if_pos rfl]
      refine ⟨z, ?_, _, hD5, ?_, ?_, ?_, ?_⟩
      · show (((wipe ((wipe σ [i, j]).set i (some x)) [j])).set j (some z))[j]? = _
        rw [List.getElem?_set_self]
        rw [wlen, List.length_set, wlen]
        exact hj
      · refine Nat.lt_of_le_of_lt (m := 1000000) ?_ (by decide)
        rw [List.length_append, List.length_take]
        omega
      · exact fun b u zz => by
          rw [upd_ne (ne_of_none zz hD)]
          exact e5 _ _ zz
      · rw [upd_ne nlD.symm]
        exact hl5
      · rw [upd_same, List.append_assoc, take_succ' hzq]
    · have eq : q = ys.length := by omega
      subst eq
      refine .inl ⟨⟨ys, Or.inl (Or.inl hl5), Nat.le_refl _⟩, e5, ?_⟩
      rw [hD5, List.take_length, take_flat hc]
  · have ek : k = outs.length := by omega
    subst ek
    exact .inl ⟨hstop H e, hd H e (by rw [hl, List.take_length])⟩
end
end HL
end

section
set_option Elab.async false
set_option linter.all false
set_option maxRecDepth 100000
set_option maxHeartbeats 4000000
/-! k93: the asks of a condition. -/
namespace K93
open PySem PySem.Spec PyProof.Rows L2 He HL
def subsC : M.Cond → List M.Cond
  | .many _ cs => cs
  | .neg c => [c]
  | _ => []
theorem om_len : ∀ l : List Nat, M.om l ≤ 3 * l.length
  | [] => Nat.zero_le _
  | c :: l => by
    have ih := om_len l
    have e : M.om (c :: l) = M.wt c + M.om l := by
      unfold M.om
      rw [List.map_cons, List.sum_cons]
    have h : M.wt c ≤ 3 := by
      unfold M.wt
      split
      · exact Nat.le_refl _
      · split <;> omega
    rw [e, List.length_cons]
    omega
theorem subs_om {c c1 : M.Cond} (h : c1 ∈ subsC c) : M.om c1.sh + 3 ≤ M.om c.sh ∧ c1.sh.length ≤ c.sh.length := by
  cases c with
  | word b => nomatch h
  | ask n => nomatch h
  | neg c2 =>
    rw [show subsC (.neg c2) = [c2] from rfl] at h
    rw [List.mem_singleton.mp h]
    show _ ≤ M.om (M.q "not" ++ (M.q "(" ++ (c2.sh ++ M.q ")"))) ∧ _ ≤ (M.q "not" ++ (M.q "(" ++ (c2.sh ++ M.q ")"))).length
    simp only [M.om_app, List.length_append, show M.om (M.q "(") = 3 from by decide]
    omega
  | many b cs =>
    have h : c1 ∈ cs := h
    have hsm : c1.sh ∈ M.shC cs := by
      rw [M.shC_map]
      exact List.mem_map.mpr ⟨c1, h, rfl⟩
    have h5 := om_j (b := M.q ", ") hsm
    have h6 := len_j (b := M.q ", ") hsm
    show _ ≤ M.om (M.nq b ++ (M.q "(" ++ (TL.joinL (M.q ", ") (M.shC cs) ++ M.q ")"))) ∧ _ ≤ (M.nq b ++ (M.q "(" ++ (TL.joinL (M.q ", ") (M.shC cs) ++ M.q ")"))).length
    simp only [M.om_app, List.length_append, show M.om (M.q "(") = 3 from by decide]
    omega
theorem sV_app (a b : List (List Nat)) : sV (a ++ b) = sV a ++ sV b := List.map_append ..
theorem flat_many : ∀ cs : List M.Cond, (cs.map fun c => sV c.askL).flatten = sV (M.askLs cs)
  | [] => by
    unfold M.askLs
    rfl
  | c :: cs => by
    unfold M.askLs
    rw [List.map_cons, List.flatten_cons, flat_many cs, sV_app]
theorem flat_subs {c : M.Cond} (h : ∀ n, c ≠ .ask n) : ((subsC c).map fun c => sV c.askL).flatten = sV c.askL := by
  cases c with
  | word b =>
    unfold M.Cond.askL
    rfl
  | ask n => exact absurd rfl (h n)
  | neg c1 =>
    have e : (M.Cond.neg c1).askL = c1.askL := by rw [M.Cond.askL]
    rw [e]
    show ([c1].map fun c => sV c.askL).flatten = _
    simp
  | many b cs =>
    have e : (M.Cond.many b cs).askL = M.askLs cs := by rw [M.Cond.askL]
    rw [e]
    exact flat_many cs
section
variable {w : World} {K : PySem.W.Frag} {mg : Str → Option Value} {base : Heap}
abbrev n_below : List Str := ["condition"]
theorem sc_below : FnScope n_below ["condition"] (defScope s_below) := ⟨rfl, rfl, rfl, by decide +kernel, rfl, by decide +kernel, by decide +kernel⟩
theorem bi_below : ∀ (kV doc pm : Value) (an : Option Addr) (cdv ct : Value) (us : List Value), us.length = 1 → bindArgs (PySem.W.fnOf d_below.name d_below.qual d_below.params d_below.body d_below.scope .none kV doc pm an cdv ct) ⟨us, []⟩ = pure ([("condition" : Str)].zip us) := fun kV doc pm an cdv ct us hu => by
  match us, hu with
  | [u0], _ => rfl
def spBelow : Sp := fun vs H Q _ => ∃ v c, vs = [v] ∧ CAt H c v ∧ c.sh.length ≤ 1000000 ∧ ∀ l us H', Same H H' → H l = none → H' l = some (.lst us) → All2 (fun v c => CAt H' c v) us (subsC c) → us.length ≤ 1000000 → Q (.ref l) H'
theorem o_below (W : Wl K mg) : OkD w K mg base CX0 1 d_below ["condition"] spBelow := by
  refine HL.ok_of0 W.D_below sc_below (fun vs H Q E ⟨_, _, h, _⟩ => by rw [h]; rfl) bi_below fun cdv A outer s H vs Q E hr h => ?_
  have nd := sc_below.nd
  refine ⟨_, (pss_cons (ps_if (pt_cmpR op_in_seq (pe_ix ix_tup (pv 0) pe_int (fun _ _ => rfl)) (pe_tup (pa_cons pe_str (pa_cons pe_str pa_nil))) (by rfl)) (pss_one (ps_ret (pe_callTy call_list_of (by rfl) W.f_list (by decide +kernel) (pa_cons (pe_ix ix_tup (pv 0) pe_int (fun _ _ => rfl)) pa_nil)))) pss_nil)
    (pss_one (ps_ret (pe_ifExp (pt_cmpR op_eq (pe_ix ix_tup (pv 0) pe_int (fun _ _ => rfl)) pe_str (nomark _)) (pe_lst (pa_cons (pe_ix ix_tup (pv 0) pe_int (fun _ _ => rfl)) pa_nil)) (pe_lst pa_nil))))), ?_⟩
  obtain ⟨v, c, rfl, hc, hlen, hq⟩ := h
  have hd : ∃ a w us, v = .ref a ∧ H a = some (.tup (.str (S w) :: us)) ∧ ((∃ b cs t ws, c = .many b cs ∧ w = M.nq b ∧ us = [.ref t] ∧ H t = some (.tup ws) ∧ CAtL H cs ws) ∨ (∃ c1 u, c = .neg c1 ∧ w = M.q "not" ∧ us = [u] ∧ CAt H c1 u) ∨ (subsC c = [] ∧ w ≠ M.q "not" ∧ w ≠ M.q "all" ∧ w ≠ M.q "any")) := by
    cases c with
    | word b =>
      unfold CAt at hc
      obtain ⟨a, r, h⟩ := hc
      exact ⟨a, _, _, r, h, .inr (.inr ⟨rfl, by cases b <;> decide, by cases b <;> decide, by cases b <;> decide⟩)⟩
    | ask n =>
      unfold CAt at hc
      obtain ⟨a, r, h⟩ := hc
      exact ⟨a, _, _, r, h, .inr (.inr ⟨rfl, by decide, by decide, by decide⟩)⟩
    | neg c1 =>
      unfold CAt at hc
      obtain ⟨a, u, r, h, h1⟩ := hc
      exact ⟨a, _, _, r, h, .inr (.inl ⟨c1, u, rfl, rfl, rfl, h1⟩)⟩
    | many b cs =>
      unfold CAt at hc
      obtain ⟨a, t, us, r, h, h1, h2⟩ := hc
      exact ⟨a, _, _, r, h, .inl ⟨b, cs, t, us, rfl, rfl, rfl, h1, h2⟩⟩
  obtain ⟨a, w0, us, rfl, ha, hcase⟩ := hd
  refine ⟨_, rfl, a, _, _, _, rfl, rfl, sqt ha, at0, by show 2 ≤ sizeLine; decide, fun t ht => in_words ["all", "any"] upd_same ?_⟩
  have s1 := same_new (o := .tup [V.str (Str.ofString "all"), V.str (Str.ofString "any")]) ht
  have ha1 := s1 _ _ ha
  refine ⟨_, rfl, ?_⟩
  rcases hcase with ⟨b, cs, t1, ws, rfl, rfl, rfl, ht1, hA⟩ | ⟨c1, u, rfl, rfl, rfl, hu⟩ | ⟨hsub, n1, n2, n3⟩
  · refine iteE true (by cases b <;> decide) (iteT ?_)
    have hA2 := cAtL_iff.mp hA
    have hal := hA2.length
    refine ⟨_, rfl, a, _, _, _, rfl, rfl, sqt ha1, at1, t1, ws, rfl, .inr (sqt (s1 _ _ ht1)), fun l hl => ?_⟩
    have s2 := same_new (o := .lst ws) hl
    refine hq l ws _ (s1.trans s2) (s1.free hl) upd_same (hA2.imp fun v c z => z.keep (.of (s1.trans s2))) ?_
    have h2 : (M.nq b ++ (M.q "(" ++ (TL.joinL (M.q ", ") (M.shC cs) ++ M.q ")"))).length ≤ 1000000 := hlen
    simp only [List.length_append] at h2
    have := joinL_len (M.q ", ") (M.shC cs)
    rw [M.shC_map, List.length_map, show (M.q ", ").length = 2 from by decide, ← M.shC_map] at this
    omega
  · refine iteE false (by decide) (iteF ⟨_, rfl, a, _, _, _, rfl, rfl, sqt ha1, at0, rfl, _, rfl, ?_⟩)
    rw [sq "not", dec_S]
    refine iteE true (by decide) (iteT ⟨_, rfl, a, _, _, _, rfl, rfl, sqt ha1, at1, by show 1 ≤ sizeLine; decide, fun l hl => ?_⟩)
    have s2 := same_new (o := .lst [u]) hl
    exact hq l [u] _ (s1.trans s2) (s1.free hl) upd_same ⟨hu.keep (.of (s1.trans s2)), trivial⟩ (by show 1 ≤ 1000000; decide)
  · refine iteE false (by simp [n2, n3]) (iteF ⟨_, rfl, a, _, _, _, rfl, rfl, sqt ha1, at0, rfl, _, rfl, ?_⟩)
    rw [sq "not", dec_S]
    refine iteE false (decide_eq_false n1) (iteF ⟨by decide, fun l hl => ?_⟩)
    have s2 := same_new (o := .lst []) hl
    refine hq l [] _ (s1.trans s2) (s1.free hl) upd_same ?_ (Nat.zero_le _)
    rw [hsub]
    trivial
abbrev n_asks_listed : List Str := ["condition", "one", "name"]
theorem sc_asks_listed : FnScope n_asks_listed ["condition"] (defScope s_asks_listed) := ⟨rfl, rfl, rfl, by decide +kernel, rfl, by decide +kernel, by decide +kernel⟩
theorem bi_asks_listed : ∀ (kV doc pm : Value) (an : Option Addr) (cdv ct : Value) (us : List Value), us.length = 1 → bindArgs (PySem.W.fnOf d_asks_listed.name d_asks_listed.qual d_asks_listed.params d_asks_listed.body d_asks_listed.scope .none kV doc pm an cdv ct) ⟨us, []⟩ = pure ([("condition" : Str)].zip us) := fun kV doc pm an cdv ct us hu => by
  match us, hu with
  | [u0], _ => rfl
def spAskL (n : Nat) : Sp := fun vs H Q _ => ∃ v c, vs = [v] ∧ CAt H c v ∧ M.om c.sh < n ∧ c.sh.length ≤ 300000 ∧ ∀ l H', Same H H' → H l = none → H' l = some (.lst (sV c.askL)) → Q (.ref l) H'
theorem o_askl (W : Wl K mg) : ∀ (n L : Nat), (n = 0 → 1 ≤ L) → (0 < n → n + 2 ≤ L) → OkD w K mg base CX0 L d_asks_listed ["condition"] (spAskL n) := by
  intro n
  induction n with
  | zero =>
    intro L h0 h1
    obtain ⟨k, rfl⟩ : ∃ k, L = k + 1 := ⟨L - 1, by have := h0 rfl; omega⟩
    exact o_vac W.D_asks_listed sc_asks_listed bi_asks_listed fun vs H Q E ⟨v, c, _, _, z, _⟩ => by omega
  | succ n ih =>
  intro L h0 h1
  obtain ⟨k, rfl⟩ : ∃ k, L = k + 1 := ⟨L - 1, by have := h1 (by omega); omega⟩
  have hk : n + 2 ≤ k := by have := h1 (by omega); omega
  have O_asks_listed := ih k (fun _ => by omega) (fun _ => by omega)
  have O_below := o_below (w := w) (base := base) W
  refine HL.ok_of0 W.D_asks_listed sc_asks_listed (fun vs H Q E ⟨_, _, h, _⟩ => by rw [h]; rfl) bi_asks_listed fun cdv A outer s H vs Q E hr h => ?_
  have nd := sc_asks_listed.nd
  refine ⟨_, (pss_cons (ps_if (pt_cmpR op_eq (pe_ix ix_tup (pv 0) pe_int (fun _ _ => rfl)) pe_str (nomark _)) (pss_one (ps_ret (pe_lst (pa_cons (pe_ix ix_tup (pv 0) pe_int (fun _ _ => rfl)) pa_nil)))) pss_nil)
    (pss_one (ps_ret (pe_lc2 (own := [("one", 1), ("name", 2)]) (g := gName 1) (g1 := gName 2) (tt := tYes) (tt1 := tYes) (vs1 := [2]) (wi1 := iList K _) (by rfl) nd (pi_list (pe_cal O_below (hr.mono (by omega)) W.g_below pass0 (pa_cons (pv 0) pa_nil))) (blkOk_by (own := [("one", 1), ("name", 2)]) (N := n_asks_listed) (sc := defScope s_asks_listed) (by decide +kernel)) (by decide) (fun _ _ _ _ _ => pg_name (i := 1) nd rfl (Or.inl rfl)) (fun _ _ _ _ _ => pts_nil) (fun _ _ _ _ _ => (pi_list (pe_cal O_asks_listed (hr.mono (by omega)) W.g_asks_listed pass0 (pa_cons (pv 1) pa_nil)))) (fun _ _ _ _ _ => pg_name (i := 2) nd rfl (Or.inl rfl)) (fun _ _ _ _ _ => pts_nil) (fun _ _ _ _ _ => (pv 2)))))), ?_⟩
  obtain ⟨v, c, rfl, hc, hom, hlen, hq⟩ := h
  by_cases hask : ∃ x, c = .ask x
  · obtain ⟨x, rfl⟩ := hask
    unfold CAt at hc
    obtain ⟨a, rfl, ha⟩ := hc
    refine ⟨_, rfl, a, _, _, _, rfl, rfl, sqt ha, at0, rfl, _, rfl, ?_⟩
    rw [sq "ask", dec_S]
    refine iteE true (by decide) (iteT ⟨_, rfl, a, _, _, _, rfl, rfl, sqt ha, at1, by show 1 ≤ sizeLine; decide, fun l hl => hq l _ (same_new hl) hl ?_⟩)
    rw [upd_same]
    unfold M.Cond.askL
    rfl
  have hask : ∀ x, c ≠ .ask x := fun x z => hask ⟨x, z⟩
  have hd : ∃ a w us, v = .ref a ∧ H a = some (.tup (.str (S w) :: us)) ∧ w ≠ M.q "ask" := by
    cases c with
    | word b =>
      unfold CAt at hc
      obtain ⟨a, r, h⟩ := hc
      exact ⟨a, _, _, r, h, by cases b <;> decide⟩
    | ask n => exact absurd rfl (hask n)
    | neg c1 =>
      unfold CAt at hc
      obtain ⟨a, u, r, h, h1⟩ := hc
      exact ⟨a, _, _, r, h, by decide⟩
    | many b cs =>
      unfold CAt at hc
      obtain ⟨a, t, us, r, h, h1, h2⟩ := hc
      exact ⟨a, _, _, r, h, by cases b <;> decide⟩
  obtain ⟨a, w0, us0, rfl, ha, hw⟩ := hd
  refine ⟨_, rfl, a, _, _, _, rfl, rfl, sqt ha, at0, rfl, _, rfl, ?_⟩
  rw [sq "ask", dec_S]
  refine iteE false (decide_eq_false hw) (iteF ?_)
  have hol := om_len c.sh
  have hal := M.askL_om c
  refine ⟨_, rfl, .ref a, c, rfl, hc, by omega, fun l us H1 e1 hl0 hl hA hul => ⟨l, rfl, ⟨us, sql hl⟩, fun D hD => ?_⟩⟩
  have hn : ((subsC c).map fun c => sV c.askL).length = us.length := by rw [List.length_map, hA.length]
  refine HL.lc2F (K := K) (P := fun k x _ => us[k]? = some x) ((subsC c).map fun c => sV c.askL) hD (by show 2 < 3; decide) (by decide) ?_ (HL.itl_stop (sql hl) hn) (HL.itl_go (sql hl) hn) (HL.itl_yld (sql hl)) (fun k x ys H2 Q2 hout e2 hx hk2 => ?_) (fun H2 e2 hD2 => ?_)
  · rw [flat_subs hask]
    show (List.map _ c.askL).length ≤ _
    rw [List.length_map]
    omega
  · obtain ⟨c1, hc1, hAt1⟩ := hA.get hx
    rw [List.getElem?_map, hc1] at hout
    have hout : some (sV c1.askL) = some ys := hout
    cases hout
    have hso := subs_om (List.mem_of_getElem? hc1)
    exact ⟨x, rfl, x, c1, rfl, hAt1.keep (.of e2), by omega, by omega, fun l2 H3 e3 hl20 hl2 => ⟨l2, rfl, ⟨_, sql hl2⟩, hk2 l2 H3 e3 hl20 hl2⟩⟩
  · rw [flat_subs hask] at hD2
    exact hq D H2 (e1.trans e2) (e1.free hD) hD2
end
end K93
end

section
set_option Elab.async false
set_option linter.all false
set_option maxRecDepth 100000
set_option maxHeartbeats 4000000
/-! k93: is_fact. -/
namespace K93
open PySem PySem.Spec PyProof.Rows L2 He HL
section
variable {w : World} {K : PySem.W.Frag} {mg : Str → Option Value} {base : Heap}
theorem inV_sV (n : List Nat) : ∀ a : List (List Nat), inV (.str (S n)) (sV a) = decide (n ∈ a)
  | [] => rfl
  | x :: a => by
    have ih := inV_sV n a
    unfold inV at ih ⊢
    show (eqV (.str (S x)) (.str (S n)) || List.any (sV a) _) = _
    rw [ih, eqV_str, S_dec]
    by_cases h : x = n
    · rw [decide_eq_true h, h]
      simp
    · rw [decide_eq_false h, Bool.false_or]
      refine decide_eq_decide.mpr ⟨fun z => List.mem_cons_of_mem _ z, fun z => ?_⟩
      rcases List.mem_cons.mp z with z | z
      · exact absurd z.symm h
      · exact z
theorem in_list {H : Hp} {t : Addr} {n : List Nat} {a : List (List Nat)} {Q : VK} (ht : H t = some (.lst (sV a))) (h : Q (.bl (decide (n ∈ a))) H) : rIn K false (.str (S n)) (.ref t) H Q := by
  refine ⟨t, _, rfl, .inl (sql ht), rfl, ?_, ?_⟩
  · rw [List.all_map]
    exact List.all_eq_true.mpr fun _ _ => rfl
  · show Q (.bl (inV _ _)) H
    rw [inV_sV]
    exact h
abbrev n_asks_in : List Str := ["condition"]
theorem sc_asks_in : FnScope n_asks_in ["condition"] (defScope s_asks_in) := ⟨rfl, rfl, rfl, by decide +kernel, rfl, by decide +kernel, by decide +kernel⟩
theorem bi_asks_in : ∀ (kV doc pm : Value) (an : Option Addr) (cdv ct : Value) (us : List Value), us.length = 1 → bindArgs (PySem.W.fnOf d_asks_in.name d_asks_in.qual d_asks_in.params d_asks_in.body d_asks_in.scope .none kV doc pm an cdv ct) ⟨us, []⟩ = pure ([("condition" : Str)].zip us) := fun kV doc pm an cdv ct us hu => by
  match us, hu with
  | [u0], _ => rfl
def spAsksIn (n : Nat) : Sp := fun vs H Q _ => ∃ v c, vs = [v] ∧ CAt H c v ∧ M.om c.sh < n ∧ M.om c.sh ≤ 60 ∧ c.sh.length ≤ 300000 ∧ ∀ t ys H', Same H H' → H' t = some (.tup (sV ys)) → (∀ k, k ∈ ys ↔ k ∈ c.askL) → ys.length ≤ 64 → Q (.ref t) H'
theorem o_asks_in (W : Wl K mg) (n : Nat) (hn : 0 < n) : OkD w K mg base CX0 (n + 3) d_asks_in ["condition"] (spAsksIn n) := by
  have O_asks_listed := o_askl (w := w) (base := base) W n (n + 2) (fun _ => by omega) (fun _ => by omega)
  refine HL.ok_of0 W.D_asks_in sc_asks_in (fun vs H Q E ⟨_, _, h, _⟩ => by rw [h]; rfl) bi_asks_in fun cdv A outer s H vs Q E hr h => ?_
  have nd := sc_asks_in.nd
  refine ⟨_, (pss_one (ps_ret (pe_callTy call_tuple_of (by rfl) W.f_tuple (by decide +kernel) (pa_cons (XS.pe_sortSetL rfl (by rfl) W.f_sorted (by rfl) W.f_set (pe_cal O_asks_listed (hr.mono (by omega)) W.g_asks_listed pass0 (pa_cons (pv 0) pa_nil))) pa_nil)))), ?_⟩
  obtain ⟨v, c, rfl, hc, hom, h60, hlen, hq⟩ := h
  have hal := M.askL_om c
  refine ⟨_, rfl, v, c, rfl, hc, hom, hlen, fun l H1 e1 hl0 hl => ?_⟩
  rw [sV_str] at hl
  refine ⟨l, c.askL.map S, rfl, sql hl, by rw [List.length_map]; omega, fun ys p nd2 hm hs hp => ?_⟩
  have s2 := same_new (o := .lst (ys.map V.str)) hp
  have hmem : ∀ y ∈ ys, ∃ n, y = S n ∧ n ∈ c.askL := fun y hy => by
    obtain ⟨n, hn, e⟩ := List.mem_map.mp ((hm y).mp hy)
    exact ⟨n, e.symm, hn⟩
  obtain ⟨zs, rfl⟩ : ∃ zs : List (List Nat), ys = zs.map S := ⟨ys.map fun y => y.cps.toList, by
    rw [List.map_map]
    refine (List.map_id'' ?_ ys).symm
    intro y
    show S y.cps.toList = y
    cases y with
    | mk a =>
      show (⟨a.toList.toArray⟩ : Str) = _
      simp⟩
  have hz : (zs.map S).length ≤ (c.askL.map S).length := XS.nodup_len _ _ nd2 fun k hk => (hm k).mp hk
  rw [List.length_map, List.length_map] at hz
  refine ⟨p, _, rfl, .inl ⟨sql upd_same, fun t ht => ?_⟩⟩
  have s3 := same_new (o := .tup ((zs.map S).map V.str)) ht
  refine hq t zs _ (e1.trans (s2.trans s3)) (by rw [upd_same, sV_str]) (fun k => ⟨fun hk => ?_, fun hk => ?_⟩) (by omega)
  · obtain ⟨n, hn, e⟩ := List.mem_map.mp ((hm (S k)).mp (List.mem_map.mpr ⟨k, hk, rfl⟩))
    rw [← S_inj e]
    exact hn
  · obtain ⟨n, hn, e⟩ := List.mem_map.mp ((hm (S k)).mpr (List.mem_map.mpr ⟨k, hk, rfl⟩))
    rw [← S_inj e]
    exact hn
abbrev n_asks_only : List Str := ["asks", "thing", "name"]
theorem sc_asks_only : FnScope n_asks_only ["asks", "thing"] (defScope s_asks_only) := ⟨rfl, rfl, rfl, by decide +kernel, rfl, by decide +kernel, by decide +kernel⟩
theorem bi_asks_only : ∀ (kV doc pm : Value) (an : Option Addr) (cdv ct : Value) (us : List Value), us.length = 2 → bindArgs (PySem.W.fnOf d_asks_only.name d_asks_only.qual d_asks_only.params d_asks_only.body d_asks_only.scope .none kV doc pm an cdv ct) ⟨us, []⟩ = pure ([("asks" : Str), ("thing" : Str)].zip us) := fun kV doc pm an cdv ct us hu => by
  match us, hu with
  | [u0, u1], _ => rfl
def spOnly (n : Nat) : Sp := fun vs H Q _ => ∃ la a v c, vs = [.ref la, v] ∧ H la = some (.lst (sV a)) ∧ a.length ≤ 10000 ∧ CAt H c v ∧ c.wf ∧ M.om c.sh < n ∧ M.om c.sh ≤ 60 ∧ c.sh.length ≤ 300000 ∧ ∀ H', Same H H' → Q (.bl (decide (∀ n ∈ c.askL, n ∈ a))) H'
theorem o_only (W : Wl K mg) (n : Nat) (hn : 0 < n) : OkD w K mg base CX0 (n + 4) d_asks_only ["asks", "thing"] (spOnly n) := by
  have O_asks_in := o_asks_in (w := w) (base := base) W n hn
  have O_is_condition := o_is_cond (w := w) (base := base) W n (n + 3) (fun _ => by omega) (fun _ => by omega)
  refine HL.ok_of0 W.D_asks_only sc_asks_only (fun vs H Q E ⟨_, _, _, _, h, _⟩ => by rw [h]; rfl) bi_asks_only fun cdv A outer s H vs Q E hr h => ?_
  have nd := sc_asks_only.nd
  refine ⟨_, (pss_one (ps_ret (pe_and (pe_cal O_is_condition (hr.mono (by omega)) W.g_is_condition pass0 (pa_cons (pv 1) pa_nil)) (pe_one (pe_callB (cr_all rfl) (by rfl) W.f_all (by decide +kernel) (pa_cons (pe_lc (own := [("name", 2)]) (g := gName 2) (tt := tYes) (by rfl) nd (pi_tup (pe_cal O_asks_in (hr.mono (by omega)) W.g_asks_in pass0 (pa_cons (pv 1) pa_nil))) (blkOk_by (own := [("name", 2)]) (N := n_asks_only) (sc := defScope s_asks_only) (by decide +kernel)) (fun _ _ _ _ _ => pg_name (i := 2) nd rfl (Or.inl rfl)) (fun _ _ _ _ _ => pts_nil) (fun _ _ _ _ _ => (pe_cmpR (r := rIn K false) op_in_seq (pv 2) (pv 0) (by rfl)))) pa_nil)))))), ?_⟩
  obtain ⟨la, a, v, c, rfl, hla, hal, hc, hwf, hom, h60, hlen, hq⟩ := h
  refine ⟨_, rfl, v, c, rfl, hc, hwf, hom, by omega, fun H1 e1 => ⟨true, rfl, iteT ⟨_, rfl, v, c, rfl, hc.keep (.of e1), hom, h60, hlen, fun t ys H2 e2 ht hm hl => ⟨t, rfl, ⟨_, sqt ht⟩, fun D hD => ?_⟩⟩⟩⟩
  refine HL.lcT (xs := sV ys) (out := ys.map fun n => V.bl (decide (n ∈ a))) hD (sqt ht) (by rw [List.length_map, List.length_map]) (by rw [List.length_map]; exact small (by omega)) (fun k1 x1 y H3 Q3 hx1 hy e3 _ hq3 => ?_) fun H3 e3 hD3 => ?_
  · rw [List.getElem?_map] at hx1 hy
    obtain ⟨n1, hn1, rfl⟩ : ∃ n1, ys[k1]? = some n1 ∧ x1 = V.str (S n1) := by
      cases hz : ys[k1]? with
      | none => rw [hz] at hx1; cases hx1
      | some n1 =>
        rw [hz] at hx1
        have hx1 : some (V.str (S n1)) = some x1 := hx1
        cases hx1
        exact ⟨n1, rfl, rfl⟩
    rw [hn1] at hy
    have hy : some (V.bl (decide (n1 ∈ a))) = some y := hy
    cases hy
    exact ⟨_, rfl, _, rfl, in_list (((e1.trans e2).trans e3) _ _ hla) (hq3 _ (.refl _))⟩
  · refine ⟨_, ys.map fun n => decide (n ∈ a), rfl, .inl (.inl (by rw [hD3, List.map_map] <;> rfl)), ?_⟩
    rw [all_id]
    have e : (ys.all fun n => decide (n ∈ a)) = decide (∀ n ∈ c.askL, n ∈ a) := by
      rw [Bool.eq_iff_iff, List.all_eq_true, decide_eq_true_iff]
      exact ⟨fun z n hn => of_decide_eq_true (z n ((hm n).mpr hn)), fun z n hn => decide_eq_true (z n ((hm n).mp hn))⟩
    rw [e]
    exact hq _ ((e1.trans e2).trans e3)
end
end K93
end

section
set_option Elab.async false
set_option linter.all false
set_option maxRecDepth 100000
set_option maxHeartbeats 4000000
/-! k93: is_fact, are_told_names. -/
namespace K93
open PySem PySem.Spec PyProof.Rows L2 He HL
theorem nodup_more {α : Type} : ∀ xs : List α, ¬ xs.Nodup → ∃ ys : List α, ys.length + 1 = xs.length ∧ ∀ k, k ∈ xs → k ∈ ys
  | [], h => absurd List.nodup_nil h
  | x :: r, h => by
    by_cases hx : x ∈ r
    · exact ⟨r, rfl, fun k hk => by
        rcases List.mem_cons.mp hk with rfl | hk
        · exact hx
        · exact hk⟩
    · obtain ⟨ys, h1, h2⟩ := nodup_more r fun z => h (List.nodup_cons.mpr ⟨hx, z⟩)
      refine ⟨x :: ys, by rw [List.length_cons, List.length_cons, h1], fun k hk => ?_⟩
      rcases List.mem_cons.mp hk with rfl | hk
      · exact List.mem_cons_self
      · exact List.mem_cons_of_mem _ (h2 k hk)
theorem len_nodup {l xs : List Str} (h1 : l.Nodup) (h2 : ∀ k, k ∈ l ↔ k ∈ xs) (h : l.length = xs.length) : xs.Nodup := by
  refine Classical.byContradiction fun n => ?_
  obtain ⟨ys, h3, h4⟩ := nodup_more xs n
  have := XS.nodup_len _ ys h1 fun k hk => h4 k ((h2 k).mp hk)
  omega
theorem nodup_S {ws : List (List Nat)} : (ws.map S).Nodup ↔ ws.Nodup := by
  induction ws with
  | nil => exact ⟨fun _ => List.nodup_nil, fun _ => List.nodup_nil⟩
  | cons w ws ih =>
    rw [List.map_cons, List.nodup_cons, List.nodup_cons, ih]
    refine and_congr_left fun _ => ⟨fun h z => h (List.mem_map.mpr ⟨w, z, rfl⟩), fun h z => ?_⟩
    obtain ⟨v, h1, h2⟩ := List.mem_map.mp z
    rw [S_inj h2] at h1
    exact h h1
section
variable {w : World} {K : PySem.W.Frag} {mg : Str → Option Value} {base : Heap}
abbrev n_is_fact : List Str := ["asks", "steps", "thing"]
theorem sc_is_fact : FnScope n_is_fact ["asks", "steps", "thing"] (defScope s_is_fact) := ⟨rfl, rfl, rfl, by decide +kernel, rfl, by decide +kernel, by decide +kernel⟩
theorem bi_is_fact : ∀ (kV doc pm : Value) (an : Option Addr) (cdv ct : Value) (us : List Value), us.length = 3 → bindArgs (PySem.W.fnOf d_is_fact.name d_is_fact.qual d_is_fact.params d_is_fact.body d_is_fact.scope .none kV doc pm an cdv ct) ⟨us, []⟩ = pure ([("asks" : Str), ("steps" : Str), ("thing" : Str)].zip us) := fun kV doc pm an cdv ct us hu => by
  match us, hu with
  | [u0, u1, u2], _ => rfl
def spIsFact (n : Nat) : Sp := fun vs H Q _ => ∃ la ls a st v f, vs = [.ref la, .ref ls, v] ∧ H la = some (.lst (sV a)) ∧ H ls = some (.lst (sV st)) ∧ a.length ≤ 10000 ∧ FAt H f v ∧ f.wf ∧ M.om f.sh < n ∧ M.om f.sh ≤ 60 ∧ f.sh.length ≤ 300000 ∧ ∀ H', Same H H' → Q (.bl (decide (M.okF a st f))) H'
theorem o_is_fact (W : Wl K mg) (n : Nat) (hn : 0 < n) : OkD w K mg base CX0 (n + 5) d_is_fact ["asks", "steps", "thing"] (spIsFact n) := by
  have O_asks_only := o_only (w := w) (base := base) W n hn
  have O_is_name := o_is_name (w := w) (base := base) W
  refine HL.ok_of0 W.D_is_fact sc_is_fact (fun vs H Q E ⟨_, _, _, _, _, _, h, _⟩ => by rw [h]; rfl) bi_is_fact fun cdv A outer s H vs Q E hr h => ?_
  have nd := sc_is_fact.nd
  refine ⟨_, (pss_cons (ps_if (PW.pt (pw_or (pt_not (pt_val (pe_callB call_isi (by rfl) W.f_isinstance (by decide +kernel) (pa_cons (pv 2) (pa_cons (pe_bltn (v := .ty "tuple") (by rfl) W.f_tuple (by decide +kernel) rfl) pa_nil))))) (pw_or1 (pt_cmpR op_notIn_seq (pe_callB call_len_seq (by rfl) W.f_len (by decide +kernel) (pa_cons (pv 2) pa_nil)) (pe_tup (pa_cons pe_int (pa_cons pe_int pa_nil))) (by rfl))))) (pss_one (ps_ret pe_bl)) pss_nil)
    (pss_cons (ps_if (pt_cmpR op_eq (pe_callB call_len_seq (by rfl) W.f_len (by decide +kernel) (pa_cons (pv 2) pa_nil)) pe_int (nomark _)) (pss_one (ps_ret (pe_and (pe_cmpR op_eq (pe_ix ix_tup (pv 2) pe_int (fun _ _ => rfl)) pe_str (nomark _)) (pe_one (pe_cal O_asks_only (hr.mono (by omega)) W.g_asks_only pass0 (pa_cons (pv 0) (pa_cons (pe_ix ix_tup (pv 2) pe_int (fun _ _ => rfl)) pa_nil))))))) pss_nil)
    (pss_cons (ps_if (PW.pt (pw_or (pt_cmpR op_ne (pe_ix ix_tup (pv 2) pe_int (fun _ _ => rfl)) pe_str (nomark _)) (pw_or (pt_not (pt_val (pe_cal O_is_name (hr.mono (by omega)) W.g_is_name pass0 (pa_cons (pe_ix ix_tup (pv 2) pe_int (fun _ _ => rfl)) pa_nil)))) (pw_or1 (pt_not (pt_val (pe_cal O_is_name (hr.mono (by omega)) W.g_is_name pass0 (pa_cons (pe_ix ix_tup (pv 2) pe_int (fun _ _ => rfl)) pa_nil)))))))) (pss_one (ps_ret pe_bl)) pss_nil)
    (pss_one (ps_ret (pe_and (pe_cmpR op_in_seq (pe_ix ix_tup (pv 2) pe_int (fun _ _ => rfl)) (pv 1) (by rfl)) (pe_and (pe_cmpR op_in_seq (pe_ix ix_tup (pv 2) pe_int (fun _ _ => rfl)) (pv 0) (by rfl)) (pe_one (pe_cal O_asks_only (hr.mono (by omega)) W.g_asks_only pass0 (pa_cons (pv 0) (pa_cons (pe_ix ix_tup (pv 2) pe_int (fun _ _ => rfl)) pa_nil))))))))))), ?_⟩
  obtain ⟨la, ls, a, st, v, f, rfl, hla, hls, hal, hf, hwf, hom, h60, hlen, hq⟩ := h
  cases f with
  | alw c =>
    obtain ⟨a0, u, rfl, ha, hu⟩ := hf
    have hwf : c.wf := hwf
    have hso := sh_alw (c := c)
    refine ⟨_, rfl, _, _, _, _, true, rfl, .ty _, ty_tup ha, kit_ty (by decide +kernel), true, rfl, ?_⟩
    refine iteF ⟨_, rfl, a0, _, rfl, .inr (sqt ha), by show 2 ≤ sizeLine; decide, fun t ht => ⟨t, _, rfl, .inr (sqt upd_same), rfl, rfl, _, rfl, ?_⟩⟩
    have s1 := same_new (o := .tup [V.int 2, V.int 4]) ht
    generalize upd H t (.tup [V.int 2, V.int 4]) = H1 at s1 ⊢
    have ha1 := s1 _ _ ha
    refine iteE false rfl (iteF ⟨_, rfl, a0, _, rfl, .inr (sqt ha1), rfl, _, rfl, ?_⟩)
    refine iteE true rfl (iteT ⟨_, rfl, a0, _, _, _, rfl, rfl, sqt ha1, at0, rfl, ?_⟩)
    rw [sq "always", dec_S, decide_eq_true rfl]
    refine ⟨_, rfl, iteT ⟨_, rfl, _, rfl, a0, _, _, _, rfl, rfl, sqt ha1, at1, la, a, u, c, rfl, s1 _ _ hla, hal, hu.keep (.of s1), hwf, by omega, by omega, by omega, fun H2 e2 => ?_⟩⟩
    exact hq H2 (s1.trans e2)
  | mk x y c =>
    obtain ⟨a0, u, rfl, ha, hu⟩ := hf
    have hwf : M.Nm x ∧ M.Nm y ∧ c.wf := hwf
    obtain ⟨nx, ny, hwf⟩ := hwf
    have hso := sh_mk (a := x) (b := y) (c := c)
    refine ⟨_, rfl, _, _, _, _, true, rfl, .ty _, ty_tup ha, kit_ty (by decide +kernel), true, rfl, ?_⟩
    refine iteF ⟨_, rfl, a0, _, rfl, .inr (sqt ha), by show 2 ≤ sizeLine; decide, fun t ht => ⟨t, _, rfl, .inr (sqt upd_same), rfl, rfl, _, rfl, ?_⟩⟩
    have s1 := same_new (o := .tup [V.int 2, V.int 4]) ht
    generalize upd H t (.tup [V.int 2, V.int 4]) = H1 at s1 ⊢
    have ha1 := s1 _ _ ha
    refine iteE false rfl (iteF ⟨_, rfl, a0, _, rfl, .inr (sqt ha1), rfl, _, rfl, ?_⟩)
    refine iteE false rfl (iteF ⟨_, rfl, a0, _, _, _, rfl, rfl, sqt ha1, at0, rfl, _, rfl, ?_⟩)
    rw [sq "makes", dec_S, decide_eq_true rfl]
    refine iteE false rfl (iteF ⟨_, rfl, a0, _, _, _, rfl, rfl, sqt ha1, at1, x, rfl, by have := nx.most; omega, fun H2 e2 => ?_⟩)
    rw [show (decide (0 < x.length ∧ x.length ≤ 8) && x.all M.isLet) = true from M.nmB_iff.mpr nx]
    have ha2 := e2 _ _ ha1
    refine ⟨true, rfl, iteF ⟨_, rfl, a0, _, _, _, rfl, rfl, sqt ha2, at2, y, rfl, by have := ny.most; omega, fun H3 e3 => ?_⟩⟩
    rw [show (decide (0 < y.length ∧ y.length ≤ 8) && y.all M.isLet) = true from M.nmB_iff.mpr ny]
    have ha3 := e3 _ _ ha2
    have s3 := s1.trans (e2.trans e3)
    refine ⟨true, rfl, iteF ⟨_, rfl, a0, _, _, _, rfl, rfl, sqt ha3, at1, _, rfl, in_list (s3 _ _ hls) ⟨_, rfl, ?_⟩⟩⟩
    by_cases h1 : x ∈ st
    · refine iteE true (decide_eq_true h1) (iteT ⟨_, rfl, a0, _, _, _, rfl, rfl, sqt ha3, at2, _, rfl, in_list (s3 _ _ hla) ⟨_, rfl, ?_⟩⟩)
      by_cases h2 : y ∈ a
      · refine iteE true (decide_eq_true h2) (iteT ⟨_, rfl, _, rfl, a0, _, _, _, rfl, rfl, sqt ha3, at3, la, a, u, c, rfl, s3 _ _ hla, hal, hu.keep (.of s3), hwf, by omega, by omega, by omega, fun H4 e4 => ?_⟩)
        have := hq H4 (s3.trans e4)
        rwa [show decide (M.okF a st (.mk x y c)) = decide (∀ n ∈ c.askL, n ∈ a) from decide_eq_decide.mpr ⟨fun z => z.2.2, fun z => ⟨h1, h2, z⟩⟩] at this
      · have := hq H3 s3
        rw [show decide (M.okF a st (.mk x y c)) = false from decide_eq_false fun z => h2 z.2.1] at this
        rw [decide_eq_false h2]
        exact iteF this
    · have := hq H3 s3
      rw [show decide (M.okF a st (.mk x y c)) = false from decide_eq_false fun z => h1 z.1] at this
      rw [decide_eq_false h1]
      exact iteF this
abbrev n_are_told_names : List Str := ["thing", "most", "name"]
theorem sc_are_told_names : FnScope n_are_told_names ["thing", "most"] (defScope s_are_told_names) := ⟨rfl, rfl, rfl, by decide +kernel, rfl, by decide +kernel, by decide +kernel⟩
theorem bi_are_told_names : ∀ (kV doc pm : Value) (an : Option Addr) (cdv ct : Value) (us : List Value), us.length = 2 → bindArgs (PySem.W.fnOf d_are_told_names.name d_are_told_names.qual d_are_told_names.params d_are_told_names.body d_are_told_names.scope .none kV doc pm an cdv ct) ⟨us, []⟩ = pure ([("thing" : Str), ("most" : Str)].zip us) := fun kV doc pm an cdv ct us hu => by
  match us, hu with
  | [u0, u1], _ => rfl
def spToldN : Sp := fun vs H Q _ => ∃ l ws, ∃ m : Nat, vs = [.ref l, .int (m : Nat)] ∧ H l = some (.lst (sV ws)) ∧ m ≤ 10 ∧ ws.length ≤ 1000000 ∧ (∀ x ∈ ws, x.length ≤ 1000000) ∧ ∀ H', Same H H' → Q (.bl (decide (ws.length ≤ m ∧ ws.all M.nmB = true ∧ ws.Nodup))) H'
theorem o_told_names (W : Wl K mg) : OkD w K mg base CX0 2 d_are_told_names ["thing", "most"] spToldN := by
  have O_is_name := o_is_name (w := w) (base := base) W
  refine HL.ok_of0 W.D_are_told_names sc_are_told_names (fun vs H Q E ⟨_, _, _, h, _⟩ => by rw [h]; rfl) bi_are_told_names fun cdv A outer s H vs Q E hr h => ?_
  have nd := sc_are_told_names.nd
  refine ⟨_, (pss_cons (ps_if (PW.pt (pw_or (pt_not (pt_val (pe_callB call_isiT (by rfl) W.f_isinstance (by decide +kernel) (pa_cons (pv 0) (pa_cons (pe_tup (pa_cons (pe_bltn (v := .ty "list") (by rfl) W.f_list (by decide +kernel) rfl) (pa_cons (pe_bltn (v := .ty "tuple") (by rfl) W.f_tuple (by decide +kernel) rfl) pa_nil))) pa_nil))))) (pw_or1 (pt_cmpR op_gt (pe_callB call_len_seq (by rfl) W.f_len (by decide +kernel) (pa_cons (pv 0) pa_nil)) (pv 1) (nomark _))))) (pss_one (ps_ret pe_bl)) pss_nil)
    (pss_one (ps_ret (pe_and (pe_callB (cr_all rfl) (by rfl) W.f_all (by decide +kernel) (pa_cons (pe_lc (own := [("name", 2)]) (g := gName 2) (tt := tYes) (by rfl) nd (pi_list (pv 0)) (blkOk_by (own := [("name", 2)]) (N := n_are_told_names) (sc := defScope s_are_told_names) (by decide +kernel)) (fun _ _ _ _ _ => pg_name (i := 2) nd rfl (Or.inl rfl)) (fun _ _ _ _ _ => pts_nil) (fun _ _ _ _ _ => (pe_cal O_is_name (hr.mono (by omega)) W.g_is_name pass0 (pa_cons (pv 2) pa_nil)))) pa_nil)) (pe_one (pe_cmpR op_eq (XS.pe_lenSetL rfl (by rfl) W.f_len (by rfl) W.f_set (pv 0)) (pe_callB call_len_seq (by rfl) W.f_len (by decide +kernel) (pa_cons (pv 0) pa_nil)) (nomark _))))))), ?_⟩
  obtain ⟨l, ws, m, rfl, hl, hm, hwl, hwx, hq⟩ := h
  refine ⟨_, rfl, by show 2 ≤ sizeLine; decide, fun tp htp => ⟨_, tp, _, _, _, true, rfl, upd_same, .cons (.ty _) (.cons (.ty _) .nil), .base (.lst (same_new htp _ _ hl)), ?_, true, rfl, ?_⟩⟩
  · show PySem.W.kitAny K (.type "list") [.type "list", .type "tuple"] = some true
    exact kitAny_cons (b := true) (kit_ty (by decide +kernel)) (fun z => nomatch z) fun _ => rfl
  have s1 := same_new (o := .tup [V.ty "list", V.ty "tuple"]) htp
  have hl1 := s1 _ _ hl
  generalize upd H tp (.tup [V.ty "list", V.ty "tuple"]) = H1 at s1 hl1 ⊢
  refine iteF ⟨_, rfl, l, _, rfl, .inl (sql hl1), _, rfl, _, _, rfl, rfl, _, rfl, ?_⟩
  have hlen : (sV ws).length = ws.length := by rw [List.length_map]
  by_cases hmw : m < ws.length
  · refine iteE true (decide_eq_true (by rw [hlen]; omega)) (iteT ?_)
    have := hq H1 s1
    rw [decide_eq_false (fun z => by omega)] at this
    exact this
  refine iteE false (decide_eq_false (by rw [hlen]; omega)) (iteF ⟨_, rfl, l, rfl, ⟨_, sql hl1⟩, fun D hD => ?_⟩)
  refine HL.lcL (xs := sV ws) (out := ws.map fun n => V.bl (M.nmB n)) hD (sql hl1) (by rw [List.length_map, List.length_map]) (by rw [List.length_map]; exact small (by omega)) (fun k1 x1 y H3 Q3 hx1 hy e3 _ hq3 => ?_) fun H3 e3 hD3 => ?_
  · rw [List.getElem?_map] at hx1 hy
    obtain ⟨n1, hn1, rfl⟩ : ∃ n1, ws[k1]? = some n1 ∧ x1 = V.str (S n1) := by
      cases hz : ws[k1]? with
      | none => rw [hz] at hx1; cases hx1
      | some n1 =>
        rw [hz] at hx1
        have hx1 : some (V.str (S n1)) = some x1 := hx1
        cases hx1
        exact ⟨n1, rfl, rfl⟩
    rw [hn1] at hy
    have hy : some (V.bl (M.nmB n1)) = some y := hy
    cases hy
    exact ⟨_, rfl, n1, rfl, hwx n1 (List.mem_of_getElem? hn1), fun H4 e4 => hq3 H4 e4⟩
  · have s3 := s1.trans e3
    refine ⟨_, ws.map M.nmB, rfl, .inl (.inl (by rw [hD3, List.map_map] <;> rfl)), ?_⟩
    rw [all_id]
    refine ⟨_, rfl, ?_⟩
    by_cases hall : ws.all M.nmB = true
    · rw [hall]
      have hl3 := e3 _ _ hl1
      refine iteT ⟨_, rfl, l, ws.map S, rfl, sql (by rw [← sV_str]; exact hl3), by rw [List.length_map]; omega, fun ls nd2 hm2 => ⟨_, rfl, l, _, rfl, .inl (sql hl3), rfl, ?_⟩⟩
      have e : decide (V.int ((ls.length : Nat) : Int) = V.int (((sV ws).length : Nat) : Int)) = decide (ws.length ≤ m ∧ ws.all M.nmB = true ∧ ws.Nodup) := by
        rw [hlen]
        refine decide_eq_decide.mpr ⟨fun z => ?_, fun z => ?_⟩
        · injection z with z
          exact ⟨by omega, hall, nodup_S.mp (len_nodup nd2 hm2 (by rw [List.length_map]; omega))⟩
        · have h1 := XS.nodup_len _ _ nd2 fun k hk => (hm2 k).mp hk
          have h2 := XS.nodup_len _ _ (nodup_S.mpr z.2.2) fun k hk => (hm2 k).mpr hk
          rw [List.length_map] at h1 h2
          congr 1
          omega
      rw [e]
      exact hq H3 s3
    · have hall' : ws.all M.nmB = false := by simpa using hall
      rw [hall']
      have := hq H3 s3
      rw [decide_eq_false (fun z => hall z.2.1)] at this
      exact iteF this
end
end K93
end

section
set_option Elab.async false
set_option linter.all false
set_option maxRecDepth 100000
set_option maxHeartbeats 4000000
/-! raise X(e), X an own class over ValueError whose __init__ is «super().__init__(f); self.f = f»; raise X() where an exception is handled. -/
namespace XR
open PySem PySem.Spec PyProof.Rows L2
abbrev supCall1 (f : Str) (p0 p1 p2 p3 p5 : Pos) : Expr := .Call (.Attribute (.Call (.Name "super" p0) [] [] p1) "__init__" p2) [.Name f p5] [] p3
abbrev supBody1 (f : Str) (p0 p1 p2 p3 p4 p5 p6 p7 p8 p9 : Pos) : List Stmt := [.Expr (supCall1 f p0 p1 p2 p3 p5) p4, .Assign [.Attribute (.Name "self" p6) f p7] (.Name f p8) p9]
/-- the scope: the parameter too -/
structure ArgScope (scope : Scope) (f : Str) : Prop where
  no : NoScope scope
  par : scope.names.lookup f = some .local
structure ArgPlaces (f qual : Str) (scope : Scope) (p0 p1 p2 p3 p4 p5 p6 p7 p8 p9 : Pos) (pl : Env → Sem Bool) : Prop where
  hi : ∀ (L g cda cc : Addr), interactive (PySem.W.envX qual scope L g (.ref cda) [("__class__", cc)]) = false
  hs : ∀ (L g cda cc : Addr), swapsWith (supCall1 f p0 p1 p2 p3 p5) none p4.line (PySem.W.envX qual scope L g (.ref cda) [("__class__", cc)]) = pure false
  he : ∀ (L g cda cc : Addr), eval (supCall1 f p0 p1 p2 p3 p5) (PySem.W.envX qual scope L g (.ref cda) [("__class__", cc)]) = (do
      let ov ← attributeBase (.Call (.Name "super" p0) [] [] p1) "__init__" (PySem.W.envX qual scope L g (.ref cda) [("__class__", cc)]) (eval (.Call (.Name "super" p0) [] [] p1) (PySem.W.envX qual scope L g (.ref cda) [("__class__", cc)]))
      standAt p2.atName
      let (f', first) ← holding [ov] (getMethod ov "__init__" (pl (PySem.W.envX qual scope L g (.ref cda) [("__class__", cc)])))
      callWith p3 f' first (backTo p3 (starEach [.Name f p5] (PySem.W.envX qual scope L g (.ref cda) [("__class__", cc)]))) [])
  ha : ∀ (L g cda cc : Addr), swapsWith (.Name f p8) (some (.Attribute (.Name "self" p6) f p7)) p9.line (PySem.W.envX qual scope L g (.ref cda) [("__class__", cc)]) = pure false
section
variable {pl : Env → Sem Bool} {prog : Program} {w : World} {A : Around} {K : PySem.W.Frag} {mg mb : Str → Option Value} {file name qual f : Str} {params : Arguments} {scope : Scope} {C fI : Addr} {p0 p1 p2 p3 p4 p5 p6 p7 p8 p9 : Pos}
/-- a bound __init__ called with one argument -/
theorem callW1 {M : Model} {i : String} {pos : Pos} {u x : Addr} {env : Env} {e : Expr} {Q : Value → Shared → Prop} {E : Value → Shared → Prop} {s : Shared}
    (h : wpAny M A (eval e env) (fun v s₁ => PySem.W.KxsAt i u x s₁.heap ∧ wpAny M A (call (.ref u) [v]) Q E s₁) E s)
    (he : starEach [e] env = (false, eval e env) :: starEach [] env := by rfl) : wpAny M A (callWith pos (.ref u) [] (backTo pos (starEach [e] env)) []) Q E s := by
  rw [he]
  refine PySem.W.kxs_callWith (i := i) (x := x) rfl (PySem.Calls.evalArgs_plain ?_)
  show wpAny M A (spliced ((false, eval e env) :: backTo pos (starEach [] env))) _ _ s
  exact PySem.Calls.spliced_cons (wpAny_mono h (fun v s1 q => PySem.Calls.spliced_nil q) fun _ _ z => z)
/-- an exception of the class with its dict -/
abbrev excD (C t1 dx : Addr) : Obj := { cls := .ref C, dict := some dx, data := .fields #[.ref t1, .none, .none, .none, .bool false, .none] }
/-- the body of __init__, walked -/
theorem init1_runs {h : Heap} {g : Array GenState} {d : Drawn} {t : Nat} {os : OsState} {e t0 : Addr} {u : Value} {R : Result → Shared → Prop} (T : NoArg K mg file C fI name qual params (supBody1 f p0 p1 p2 p3 p4 p5 p6 p7 p8 p9) scope) (hno : PySem.W.findIn K (.ref C) f = some none) (S : ArgScope scope f) (PL : ArgPlaces f qual scope p0 p1 p2 p3 p4 p5 p6 p7 p8 p9 pl) (X : K.In h) (hK : K.lookup e = none)
    (hb : h.Ns builtinsNs mb) (hbb : ∀ x : Str, x ≠ "__name__" → mb x = bootBuiltins x) (hg : h.Ns mainGlobals mg) (hl : h.NoLimit) (hd : A.depth < recursionLimit) (hfs : f ≠ "self")
    (hdb : (f == ("__debug__" : Str)) = false)
    (hp : ∃ ar, (params.posonlyargs ++ params.args).head? = some ar ∧ ar.arg = "self")
    (hbind : ∀ (kV doc pm cdv ct : Value) (an : Option Addr) (cl : List (Str × Addr)) (x u : Value), bindArgs (PySem.W.fnX name qual params (supBody1 f p0 p1 p2 p3 p4 p5 p6 p7 p8 p9) scope cl .none kV doc pm an cdv ct) ⟨[x, u], []⟩ = pure [(("self" : Str), x), (f, u)])
    (hfile : (prog.main.file == file) = true) (htop : (prog.main.scope.names.lookup ("super" : Str)).isSome = false)
    (he : h.get? e = some (PySem.HandSPX.excO C t0))
    (hq : ∀ h' t1 dx tk, (∀ b o, b ≠ e → h.get? b = some o → h'.get? b = some o) → h.get? dx = none → dx ≠ e → h'.get? e = some (excD C t1 dx) → h'.Ns1 dx (fun y => if y = f then some u else none) → R (.ok (.ret .none)) ⟨h', g, d, tk, os⟩) :
    codeAny (model prog w) A (.call (.ref fI) ⟨[.ref e, u], []⟩) R ⟨h, g, d, t, os⟩ := by
  obtain ⟨ar, hp, hars⟩ := hp
  obtain ⟨oc, kV, doc, pm, ct, od, an, osl, cc, cda, ccl, cl, cdd, cld, vs, tf, ccs, csl, lk, hcd, lcd, hvs, lcc⟩ := T.lk
  obtain ⟨nm, q, N, bs, bm, sn, sub, ab, col, dd, k0, k1, k2, k3, k5, hC, hbm⟩ := T.ox.cls
  refine PySem.ks_codeAny_call_defAt (fd := PySem.W.fnX name qual params (supBody1 f p0 p1 p2 p3 p4 p5 p6 p7 p8 p9) scope [("__class__", cc)] .none kV doc pm an (.ref cda) ct) (body := supBody1 f p0 p1 p2 p3 p4 p5 p6 p7 p8 p9) (binds := [(("self" : Str), Value.ref e), (f, u)]) hd (X _ _ lk) rfl hl (PySem.W.codeRec_of X hcd) rfl (BindsTo.of_eq (hbind _ _ _ _ _ _ _ _ _)) S.no.cell (fun x hx => ?_) (fun h₁ hns kp => ?_) S.no.co S.no.gen S.no.kind
  · have ex : x = (("self" : Str), Value.ref e) ∨ x = (f, u) := by simpa using hx
    rcases ex with rfl | rfl
    · exact S.no.self
    · exact S.par
  · have X1 : K.In h₁ := X.keeps kp
    have hcl : PySem.W.clsIn K C = some { name := nm, bases := bs, mro := .ref C :: bm, ns := N, qualname := q, hasDict := true, slotNames := sn, subclasses := sub, abstract := ab, collection := col, hasDel := false } := by unfold PySem.W.clsIn; rw [hC] <;> rfl
    have he1 := kp _ _ he
    have hself : (fun y => ([(("self" : Str), Value.ref e), (f, u)] : List (Str × Value)).reverse.lookup y) ("self" : Str) = some (Value.ref e) := by
      have hne : (("self" : Str) == f) = false := by
        simp only [beq_eq_false_iff_ne]
        exact fun z => hfs z.symm
      show List.lookup ("self" : Str) [(f, u), (("self" : Str), Value.ref e)] = _
      simp [List.lookup, hne]
    have hpar : (fun y => ([(("self" : Str), Value.ref e), (f, u)] : List (Str × Value)).reverse.lookup y) f = some u := by
      show List.lookup f [(f, u), (("self" : Str), Value.ref e)] = _
      simp [List.lookup]
    refine PySem.ks_wpAt_execs_cons (PySem.ks_wpAt_Expr_any (PySem.ks_wpAt_MethodCall ?_ (PL.he _ _ _ _)) (PL.hi _ _ _ _) (PL.hs _ _ _ _))
    refine PySem.ks_wpAt_super_base (of := ⟨oc, od, .func _, osl⟩) (oc := ⟨ccl, cdd, .fields vs, ccs⟩) (ar := ar) S.no.sup S.no.cls (by decide +kernel) rfl (X1 _ _ lk) rfl hp rfl (X1 _ _ lcd) rfl hvs hfile htop ?_
    refine PySem.W.ks_loadName_global S.no.kind S.no.sup (PySem.Calls.loadGlobal_builtin (hg.keeps kp) T.gsup (hb.keeps kp) ((hbb _ (by decide +kernel)).trans (by decide +kernel : bootBuiltins "super" = some (.type "super"))) ⟨rfl, ?_⟩)
    refine PySem.wpAny_loadName_free S.no.kind S.no.cls rfl ⟨_, X1 _ _ lcc, rfl⟩ ?_
    rw [hars]
    refine PySem.wpAny_loadName_local S.no.kind S.no.self hns hself ?_
    refine PySem.ks_wpAny_isType_cls (X1 _ _ hC) rfl ⟨rfl, ?_⟩
    refine PySem.ks_wpAny_call_super (X1 _ _ hC) rfl he1 rfl (fun c z => by cases z) (PySem.W.looks_mroIn X1 T.mro) (fun h2 e2 k2 => ?_)
    have X2 : K.In h2 := X1.keeps k2
    have he2 := k2 _ _ he1
    have hsup : PySem.W.alongIn K "__init__" (((Value.ref C :: bm).dropWhile (· != .ref C)).drop 1) = some (some (.builtin "ValueError.__init__")) := by
      have z := T.sup
      unfold PySem.W.ks_superIn at z
      rw [hcl] at z
      exact z
    have I2 : PySem.W.InstAt h2 e (PySem.HandSPX.excO C t0) C none := ⟨he2, rfl, rfl, trivial⟩
    have hI : PySem.W.Looks (model prog w) h2 (isInstance (.ref e) (.type "ValueError")) true := I2.type.andThen (PySem.W.looks_subIn X2 T.sub)
    refine PySem.W.kxs_getMethod PySem.W.kxs_ValueError e2 (PySem.W.looks_opaque X2 T.any) (l₀ := .ref C :: bm) (fun A Q E s k q => wpAny_bind ((PySem.W.looks_clsIn X2 hcl) A _ E s k (wpAny_pure q))) rfl X2 hsup hI (PySem.W.ks_ne X2 I2 hcl) (by decide +kernel) ?_
    have hw : (h2.push (PySem.W.kxs_mw "ValueError.__init__" e)).get? h2.objs.size = some (PySem.W.kxs_mw "ValueError.__init__" e) := Heap.get?_push_at rfl rfl
    have k3 : ∀ b o, h2.get? b = some o → (h2.push (PySem.W.kxs_mw "ValueError.__init__" e)).get? b = some o := fun b o z => Heap.get?_push_of_some _ z
    have he3 := k3 _ _ he2
    have X3 := X2.keeps k3
    have hns3 := (hns.keeps k2).keeps k3
    show wpAny _ _ (callWith p3 (.ref h2.objs.size) [] (backTo p3 (starEach [.Name f p5] _)) []) _ _ _
    refine callW1 (i := "ValueError.__init__") (x := e) (PySem.wpAny_Name (PySem.wpAny_loadName_local S.no.kind S.par hns3 hpar ⟨hw, ?_⟩) hdb)
    refine wpAny_call (codeAny_of_tree ?_)
    show wpAny _ _ (callAny (.ref h2.objs.size) ⟨[u], []⟩) _ _ _
    simp only [callAny]
    refine wpAny_bind (wpAny_load hw ?_)
    simp only [PySem.W.kxs_mw, show (Value.type "method-wrapper" == Value.type "method" || Value.type "method-wrapper" == Value.type "builtin_function_or_method" || Value.type "method-wrapper" == Value.type "method-wrapper") = true by decide, if_true]
    refine PySem.W.KFB.if_so (by decide) ?_
    refine wpAny_bind (PySem.W.check_bound_init F.excBase_ValueError.toExcCallFacts (X3 _ _ hC) he3 rfl ?_)
    refine wpAny_bind (wpAny_pure (wpAny_pure ?_))
    refine ⟨plainId_quiet F.excBase_ValueError.init.plain _, codeAny_builtin F.excBase_ValueError.initEntry ?_⟩
    refine PySem.W.exc_init_tree (cls := .ref C) (t0 := t0) (dv := none) (c2 := .none) (c3 := .none) (b4 := .bool false) he3 (by show 1 ≤ sizeLine; decide) fun h' k4 e4 _ => ?_
    -- self.f = f
    have he4 : h'.get? e = some (PySem.HandSPX.excO C (h2.push (PySem.W.kxs_mw "ValueError.__init__" e)).objs.size) := e4
    have hne : ∀ {a : Addr} {m : Str → Option Value}, h₁.Ns a m → a ≠ e := fun {a m} z q => by
      obtain ⟨o, es, ep, e1, e2, _⟩ := z
      rw [q, he1] at e1
      cases e1
      cases e2
    have X4 : K.In h' := fun b o z => k4 b o (fun q => by rw [q, hK] at z; cases z) (X3 _ _ z)
    have hns4 := hns3.at (h' := h') fun o z => k4 _ o (hne hns) z
    refine PySem.ks_wpAt_execs_cons (PySem.ks_wpAt_Assign_Attr (wpAt_of_wpAny (PySem.wpAny_Name (PySem.wpAny_loadName_local S.no.kind S.par hns4 hpar (PySem.wpAny_Name (PySem.wpAny_loadName_local S.no.kind S.no.self hns4 hself ?_) (by decide))) hdb)) (PL.ha _ _ _ _))
    refine PySem.W.set_plain X4 (ox := PySem.HandSPX.excO C (h2.push (PySem.W.kxs_mw "ValueError.__init__" e)).objs.size) (od := none) ⟨he4, rfl, rfl, trivial⟩ T.ox.sa ?_
    refine PySem.HandSPX.exc_osa X4 he4 hcl (show PySem.HandSPX.refsVE (.ref C :: bm) = true from hbm) rfl hno (fun h5 tk' dx k5' dn dne hx hn => ?_)
    refine wpAt_of_wpAny (wpAny_execs_nil ?_)
    have kall : ∀ b o, b ≠ e → h.get? b = some o → h'.get? b = some o := fun b o n z => k4 b o n (k3 _ _ (k2 _ _ (kp _ _ z)))
    refine hq h5 _ dx _ (fun b o n z => k5' b o n (kall b o n z)) ?_ dne hx hn
    -- the dict is new
    cases hz : h.get? dx with
    | none => rfl
    | some o => exact absurd (Heap.lt_size (kall dx o dne hz)) (Nat.not_lt.mpr dn)
end
/-- raise X(e): the exception as it is made, its dict -/
def tMk1 (C : Addr) (f : Str) (ta : TA) : L2.St → Hp → XK → Prop := fun σ H Q => ta σ H fun vs H1 => ∃ y, vs = [y] ∧ ∀ d, H1 d = none → Q (.ref C) (some d) (upd H1 d (.xd [(f, y)]))
theorem pmk5_arg {X : Cx} {pl : Env → Sem Bool} {x file name qual f : Str} {params : Arguments} {scope : Scope} {C fI : Addr} {p0 p1 p2 p3 p4 p5 p6 p7 p8 p9 p pos : Pos} {e : Expr} {ta : TA} (T : NoArg X.K X.mg file C fI name qual params (supBody1 f p0 p1 p2 p3 p4 p5 p6 p7 p8 p9) scope) (hno : PySem.W.findIn X.K (.ref C) f = some none) (S : ArgScope scope f) (PL : ArgPlaces f qual scope p0 p1 p2 p3 p4 p5 p6 p7 p8 p9 pl)
    (hp : ∃ ar, (params.posonlyargs ++ params.args).head? = some ar ∧ ar.arg = "self") (hfs : f ≠ "self") (hdf : (f == ("__debug__" : Str)) = false)
    (hbind : ∀ (kV doc pm cdv ct : Value) (an : Option Addr) (cl : List (Str × Addr)) (x u : Value), bindArgs (PySem.W.fnX name qual params (supBody1 f p0 p1 p2 p3 p4 p5 p6 p7 p8 p9) scope cl .none kV doc pm an cdv ct) ⟨[x, u], []⟩ = pure [(("self" : Str), x), (f, u)])
    (hfile : (X.prog.main.file == file) = true) (htop : (X.prog.main.scope.names.lookup ("super" : Str)).isSome = false) (hr : Room 1 X.A) (hg : Gl X x) (hm : X.mg x = some (.ref C)) (ha : PA X [e] ta)
    (hdb : (x == ("__debug__" : Str)) = false := by decide) (hst : starEach [e] X.env = (false, eval e X.env) :: starEach [] X.env := by rfl) : L2H.PMk5 X (.Call (.Name x p) [e] [] pos) (tMk1 C f ta) := by
  intro pins s σ H Q I h
  obtain ⟨nm, q, N, bs, bm, sn, sub, ab, col, dd, k0, k1, k2, k3, k5, hC, hbm⟩ := T.ox.cls
  refine wpAny_Call_Name_kw (ld_glob I hg hm ?_ hdb)
  refine PySem.W.callWith_K (h₀ := X.base) I.ok.mod.kin T.ox.kC (thn (ha.run pos pins s σ H _ I h) fun us s1 ⟨vs, H1, I1, r1, y, ey, q1⟩ => ⟨I1.kIn, ?_⟩) hst (by rfl)
  subst ey
  obtain ⟨u, rfl, ry⟩ := vals1 r1
  show wpAny _ _ (call (.ref C) [u]) _ _ _
  obtain ⟨hp1, g, dr, tk, os⟩ := s1
  have KX := I1.kIn
  have hsz : hp1.objs.size ≤ hp1.objs.size + 1 := Nat.le_succ _
  have hn : H1 (hp1.objs.size + 1) = none := I1.hok.fresh hsz
  have kk : ∀ b o, hp1.get? b = some o → ((hp1.push (PySem.W.kdv_tup [u])).push (PySem.HandSPX.excO C hp1.objs.size)).get? b = some o := fun b o e => Heap.get?_push_of_some _ (Heap.get?_push_of_some _ e)
  have hget : ((hp1.push (PySem.W.kdv_tup [u])).push (PySem.HandSPX.excO C hp1.objs.size)).get? (hp1.objs.size + 1) = some (PySem.HandSPX.excO C hp1.objs.size) := by heap_get
  have hfree : hp1.get? (hp1.objs.size + 1) = none := Heap.get?_none_of_le hsz
  have hK : X.K.lookup (hp1.objs.size + 1) = none := by
    cases hz : X.K.lookup (hp1.objs.size + 1) with
    | none => rfl
    | some o =>
      have z : hp1.get? (hp1.objs.size + 1) = some o := KX _ _ hz
      rw [hfree] at z
      cases z
  have I2 : Inv X pins σ (upd H1 (hp1.objs.size + 1) (exo (hp1.objs.size + 1) C none)) ⟨(hp1.push (PySem.W.kdv_tup [u])).push (PySem.HandSPX.excO C hp1.objs.size), g, dr, tk, os⟩ :=
    I1.laid (t' := tk) (a := hp1.objs.size + 1) (o := exo (hp1.objs.size + 1) C none) (h' := (hp1.push (PySem.W.kdv_tup [u])).push (PySem.HandSPX.excO C hp1.objs.size)) kk hsz (exo_ok hget)
  obtain ⟨mb, hb1, hb2⟩ := I1.mod.blt
  have bk := I1.bk
  have hdp : (X.A.under (.builtin "type.__call__" ⟨[.ref C, u], []⟩)).depth < recursionLimit := by
    have := hr.dp
    rw [make_depth]
    omega
  refine wpAny_call (PySem.HandSPX.call_own F.excBase_ValueError (fun Y => PySem.HandSPX.refsVE_contains Y bm hbm) (KX _ _ hC) (PySem.W.looks_findIn KX T.iC) (fun self => PySem.W.bind_fn KX self T.tI) (by show 1 ≤ sizeLine; decide) ?_)
  refine init1_runs (w := X.w) (mb := mb) T hno S PL (KX.keeps kk) hK ((hb1.keeps bk).keeps kk) hb2 ((I1.mod.glob.keeps bk).keeps kk) (I1.nolimit.keeps kk) hdp hfs hdf hp hbind hfile htop hget fun h' t1 dx tk' k dn dne hx hns => ?_
  have hnd : H1 dx = none := by
    cases hz : H1 dx with
    | none => rfl
    | some o =>
      obtain ⟨o', ho'⟩ := objOk_get (I1.hok dx o hz)
      have z := kk _ _ (show hp1.get? dx = some o' from ho')
      rw [dn] at z
      cases z
  have e0 : upd H1 (hp1.objs.size + 1) (exo (hp1.objs.size + 1) C none) (hp1.objs.size + 1) = some (exo (hp1.objs.size + 1) C none) := upd_same
  have hnd2 : upd H1 (hp1.objs.size + 1) (exo (hp1.objs.size + 1) C none) dx = none := by rw [upd_ne dne]; exact hnd
  obtain ⟨oD, _, _, hoD, _⟩ := id hns
  have hu : Un (frs X.stack) [] (upd H1 (hp1.objs.size + 1) (exo (hp1.objs.size + 1) C none)) (upd (upd (upd H1 (hp1.objs.size + 1) (exo (hp1.objs.size + 1) C none)) dx (exd dx [(f, y)])) (hp1.objs.size + 1) (exo (hp1.objs.size + 1) C (some dx))) ((hp1.push (PySem.W.kdv_tup [u])).push (PySem.HandSPX.excO C hp1.objs.size)) h' := by
    generalize upd H1 (hp1.objs.size + 1) (exo (hp1.objs.size + 1) C none) = Ha at e0 hnd2 ⊢
    generalize (hp1.push (PySem.W.kdv_tup [u])).push (PySem.HandSPX.excO C hp1.objs.size) = hpa at k dn ⊢
    have na : ∀ {b : Addr}, Ha b = none → b ≠ hp1.objs.size + 1 := fun {b} n z => by
      rw [z, e0] at n
      cases n
    have nd : ∀ {b : Addr} {o : Obj}, hpa.get? b = some o → b ≠ dx := fun {b o} q z => by
      rw [z, dn] at q
      cases q
    exact {
      keep := fun b o q n _ _ => k b o (na n) q
      slot := fun b o q n _ _ => ⟨o.slots, k b o (na n) q⟩
      free := fun b o q n _ => by rw [upd_ne (na n), upd_ne (nd q)]; exact n
      there := fun b o q _ => by
        by_cases hb : b = hp1.objs.size + 1
        · exact ⟨_, by rw [hb]; exact hx⟩
        · exact ⟨o, k b o hb q⟩
      tups := fun b xs q => by rw [upd_ne (at_ne e0 q exo_tup), upd_ne (ne_of_none q hnd2)]; exact q
      frzs := fun b o v q => by rw [upd_ne (at_ne e0 q exo_frz), upd_ne (ne_of_none q hnd2)]; exact q
      tbls := fun b ps q => ⟨#[], by rw [upd_ne (at_ne e0 q exo_tbl), upd_ne (ne_of_none q hnd2), q]; simp⟩ }
  have hok : HOk X.prog X.w (upd (upd (upd H1 (hp1.objs.size + 1) (exo (hp1.objs.size + 1) C none)) dx (exd dx [(f, y)])) (hp1.objs.size + 1) (exo (hp1.objs.size + 1) C (some dx))) h' := fun b o q => by
    by_cases hb : b = hp1.objs.size + 1
    · subst hb
      rw [upd_same] at q
      cases q
      exact exo_ok hx
    · rw [upd_ne hb] at q
      by_cases hd : b = dx
      · subst hd
        rw [upd_same] at q
        cases q
        exact exd_ok hns (relO_put (fs := []) ry fun g => True.intro)
      · rw [upd_ne hd] at q
        exact (I2.hok b o q).stay (fun c v hc z => k c v (by
            rcases hc with hc | hc
            · rw [hc]
              exact hb
            · exact at_ne e0 hc exo_own) z)
          (fun c hc => by rw [upd_ne (at_ne e0 hc exo_own), upd_ne (ne_of_none hc hnd2)]; exact hc) (fun c xs hc => by rw [upd_ne (at_ne e0 hc exo_tup), upd_ne (ne_of_none hc hnd2)]; exact hc)
  obtain ⟨t0, G, J, kG, ge, hoe, na⟩ := mk_end0 (d2 := dr) (t2 := tk') (g2 := g) (os2 := os) (fs := [(f, y)]) (d := dx) I1 hsz kk hu hok rfl I1.bare upd_same (by rw [upd_ne dne, upd_same]) hnd
  have eH : upd (del (upd (upd (upd H1 (hp1.objs.size + 1) (exo (hp1.objs.size + 1) C none)) dx (exd dx [(f, y)])) (hp1.objs.size + 1) (exo (hp1.objs.size + 1) C (some dx))) (hp1.objs.size + 1)) dx (.xd [(f, y)]) = upd H1 dx (.xd [(f, y)]) := by
    funext b
    by_cases hb : b = dx
    · rw [hb, upd_same, upd_same]
    · rw [upd_ne hb, upd_ne hb]
      by_cases ha : b = hp1.objs.size + 1
      · rw [ha, del_same, hn]
      · rw [del_ne ha, upd_ne ha, upd_ne hb, upd_ne ha]
  rw [eH] at J na
  refine ⟨rfl, ⟨hp1.objs.size + 1, _, _, ⟨G, g, dr, tk', os⟩, _, .ref C, some dx, rfl, J, kG, ge, hoe, ⟨rfl, rfl, fun vs hv => ?_⟩, rfl, rfl, na, rfl, I1.bare, raises_own T.ox.exC T.ox.tyC, q1 dx hnd⟩, fun a oe vs ea2 hg2 hd2 => ?_⟩
  · cases hv
    rfl
  · cases ea2
    have hg3 : h'.get? (hp1.objs.size + 1) = some oe := hg2
    rw [hoe] at hg3
    cases hg3
    cases hd2
    show (4 : Nat) < 6
    decide
/-- the same where nothing is told of the context -/
theorem pmk_of5 {X : Cx} {e : Expr} {t : L2.St → Hp → XK → Prop} (h : L2H.PMk5 X e t) : L2.PMk X e t := fun pins s σ H Q I q => thn (h pins s σ H Q I q) fun u s' ⟨⟨a, oe, vs, sI, H', cls, d, e1, J, k, hne, ha, hz, r⟩, _⟩ => ⟨a, oe, vs, sI, H', cls, d, e1, J, k, hne, ha, ⟨hz.1, hz.2.1⟩, r⟩
/-- X() where an exception is handled, too -/
theorem pmk5_noarg {X : Cx} {pl : Env → Sem Bool} {x file name qual : Str} {params : Arguments} {scope : Scope} {C fI : Addr} {p0 p1 p2 p3 p4 p pos : Pos} (T : NoArg X.K X.mg file C fI name qual params (supBody p0 p1 p2 p3 p4) scope) (S : NoScope scope) (PL : NoPlaces qual scope p0 p1 p2 p3 p4 pl)
    (hp : ∃ ar, (params.posonlyargs ++ params.args).head? = some ar ∧ ar.arg = "self")
    (hbind : ∀ (kV doc pm cdv ct : Value) (an : Option Addr) (cl : List (Str × Addr)) (u : Value), bindArgs (PySem.W.fnX name qual params (supBody p0 p1 p2 p3 p4) scope cl .none kV doc pm an cdv ct) ⟨[u], []⟩ = pure [(("self" : Str), u)])
    (hfile : (X.prog.main.file == file) = true) (htop : (X.prog.main.scope.names.lookup ("super" : Str)).isSome = false) (hdp0 : X.A.depth + 2 < recursionLimit) (hg : Gl X x) (hm : X.mg x = some (.ref C))
    (hdb : (x == ("__debug__" : Str)) = false := by decide) : L2H.PMk5 X (.Call (.Name x p) [] [] pos) (tMkN C) := by
  intro pins s σ H Q I hq
  obtain ⟨nm, q, N, bs, bm, sn, sub, ab, col, dd, k0, k1, k2, k3, k5, hC, hbm⟩ := T.ox.cls
  refine wpAny_Call_Name_kw (ld_glob I hg hm ?_ hdb)
  refine PySem.W.callWith_K0 I.kIn T.ox.kC ?_
  show wpAny _ _ (call (.ref C) []) _ _ _
  obtain ⟨hp1, g, dr, tk, os⟩ := s
  have KX := I.kIn
  have hn : H (hp1.objs.size + 1) = none := I.hok.fresh (Nat.le_succ _)
  have kk : ∀ b o, hp1.get? b = some o → ((hp1.push (PySem.W.kdv_tup [])).push (PySem.HandSPX.excO C hp1.objs.size)).get? b = some o := fun b o e => Heap.get?_push_of_some _ (Heap.get?_push_of_some _ e)
  have hget : ((hp1.push (PySem.W.kdv_tup [])).push (PySem.HandSPX.excO C hp1.objs.size)).get? (hp1.objs.size + 1) = some (PySem.HandSPX.excO C hp1.objs.size) := by heap_get
  obtain ⟨mb, hb1, hb2⟩ := I.mod.blt
  have bk := I.bk
  have hdp : (X.A.under (.builtin "type.__call__" ⟨[.ref C], []⟩)).depth < recursionLimit := by
    rw [make_depth]
    omega
  refine wpAny_call (PySem.HandSPX.call_own F.excBase_ValueError (fun Y => PySem.HandSPX.refsVE_contains Y bm hbm) (KX _ _ hC) (PySem.W.looks_findIn KX T.iC) (fun self => PySem.W.bind_fn KX self T.tI) (Nat.zero_le _) ?_)
  refine init_runs (w := X.w) (mb := mb) T S PL (KX.keeps kk) ((hb1.keeps bk).keeps kk) hb2 ((I.mod.glob.keeps bk).keeps kk) (I.nolimit.keeps kk) hdp (.inr hp) hbind hfile htop hget fun h' t1 tk' k he' => ?_
  refine ⟨rfl, ⟨hp1.objs.size + 1, _, _, ⟨hp1, g, dr, tk, os⟩, H, .ref C, none, rfl, I, fun b o z => k b o (fun e => ?_) (kk b o z), ?_, he', ⟨rfl, rfl, fun vs hv => ?_⟩, rfl, rfl, hn, rfl, I.bare, raises_own T.ox.exC T.ox.tyC, hq⟩, fun a oe vs ea2 hg2 hd2 => ?_⟩
  · have y : b < hp1.objs.size := Heap.lt_size (show hp1.get? b = some o from z)
    have e2 : b = hp1.objs.size + 1 := e
    rw [e2] at y
    exact Nat.not_succ_le_self _ (Nat.lt_of_lt_of_le (Nat.lt_succ_self _) (Nat.le_of_lt y))
  · exact Heap.get?_none_of_le (Nat.le_succ _)
  · cases hv
    rfl
  · cases ea2
    have hg3 : h'.get? (hp1.objs.size + 1) = some oe := hg2
    rw [he'] at hg3
    cases hg3
    cases hd2
    show (4 : Nat) < 6
    decide
end XR
end

section
set_option Elab.async false
set_option linter.all false
set_option maxRecDepth 100000
set_option maxHeartbeats 4000000
/-! k93: Facts made. -/
namespace K93
open PySem PySem.Spec PyProof.Rows L2 He HL
abbrev WrC (K : PySem.W.Frag) : Addr := ga K "Wrong"
theorem pmk_Wrong {X : Cx} {k : Nat} {p pos : Pos} {e : Expr} {ta : TA} (W : Wl X.K X.mg) (hr : Room (k + 1) X.A) (ha : PA X [e] ta) (hP : X.prog = P0 := by rfl) (hg : Gl X "Wrong" := by rfl) (hst : starEach [e] X.env = (false, eval e X.env) :: starEach [] X.env := by rfl) : L2H.PMk5 X (.Call (.Name "Wrong" p) [e] [] pos) (XR.tMk1 (WrC X.K) "place" ta) := by
  refine XR.pmk5_arg (pl := fun env => do return (← importBound (supO x_Wrong.body) env).getD true) (file := "/claim/cut.py") (name := "__init__") (qual := x_Wrong.qual) (params := x_Wrong.params) (scope := x_Wrong.scope) (W.na_x_Wrong) W.n_Wrong_place ⟨⟨by decide +kernel, by decide +kernel, by decide +kernel, by decide +kernel, by decide +kernel, by decide +kernel, by decide +kernel⟩, by decide +kernel⟩
    ⟨fun _ _ _ _ => rfl, fun _ _ _ _ => rfl, fun _ _ _ _ => rfl, fun _ _ _ _ => rfl⟩ ⟨_, rfl, rfl⟩ (by decide) (by decide) (fun _ _ _ _ _ _ _ _ _ => rfl) (by rw [hP]; decide +kernel) (by rw [hP]; decide +kernel) (hr.mono (by omega)) hg W.g_Wrong ha (by decide) hst
theorem ok_ofD {P : Program} {w : World} {K : PySem.W.Frag} {mg : Str → Option Value} {base : Heap} {CX : CXT} {k : Nat} {d : DefD} {N ps : List Str} {sp : Sp} {dvs : List V} {kws : List (Str × V)} (D : ∃ fd, FunD K d.name d.qual d.params d.body d.scope dvs kws (fAd K d.at_) fd) (Sc : FnScope N ps d.scope) (len : ∀ vs H Q E, sp vs H Q E → vs.length = ps.length)
    (hb : ∀ fd, FunD K d.name d.qual d.params d.body d.scope dvs kws (fAd K d.at_) fd → Binds K fd ps [])
    (hbody : ∀ (cdv : Value) (A : Around) (outer : List Env) (s : Shared) (H : Hp) (vs : List V) (Q : VK) (E : XK), Room k (A.deeper (envOfC d.qual d.scope s.heap.objs.size (fAd K d.at_) cdv)) → sp vs H Q E →
      ∃ t, PSs (cxOf CX P w K mg base N d.qual d.scope (fAd K d.at_) cdv A outer s H E) d.body t ∧ t { nx := fun _ H' => Q .non H', rt := Q } (start N vs) H) : Ok P w K mg base CX (k + 1) d.at_ ps sp := by
  obtain ⟨fd, F⟩ := D
  exact ⟨⟨fd, F.ok Sc len hbody, hb fd F⟩, F.kp⟩
section
variable {w : World} {K : PySem.W.Frag} {mg : Str → Option Value} {base : Heap}
abbrev CXM (w : World) : CXT := L2N.CX P0 w
abbrev FC (K : PySem.W.Frag) : Addr := ga K "Facts"
/-- Facts in the heap -/
def FsAt (K : PySem.W.Frag) (H : Hp) (f : M.FactsM) (v : V) : Prop := ∃ p dx ta ts tt us, v = .ref p ∧ H p = some (.ins (FC K) dx [("its_asks", .ref ta), ("its_steps", .ref ts), ("its_told", .ref tt)]) ∧ H ta = some (.tup (sV f.1)) ∧ H ts = some (.tup (sV f.2.1)) ∧ H tt = some (.tup us) ∧ All2 (fun v x => FAt H x v) us f.2.2
abbrev n_Facts_init : List Str := ["self", "asks", "steps", "told", "fact"]
theorem sc_Facts_init : FnScope n_Facts_init ["self", "asks", "steps", "told"] (defScope s_Facts_init) := ⟨rfl, rfl, rfl, by decide +kernel, rfl, by decide +kernel, by decide +kernel⟩
theorem bi_Facts_init : ∀ (kV doc pm : Value) (an : Option Addr) (cdv ct : Value) (us : List Value), us.length = 4 → bindArgs (PySem.W.fnOf d_Facts_init.name d_Facts_init.qual d_Facts_init.params d_Facts_init.body d_Facts_init.scope .none kV doc pm an cdv ct) ⟨us, []⟩ = pure ([("self" : Str), ("asks" : Str), ("steps" : Str), ("told" : Str)].zip us) := fun kV doc pm an cdv ct us hu => by
  match us, hu with
  | [u0, u1, u2, u3], _ => rfl
/-- what Facts(..) asks -/
def TNs (ws : List (List Nat)) (m : Nat) : Prop := ws.length ≤ m ∧ ws.all M.nmB = true ∧ ws.Nodup
def Made (a st : List (List Nat)) (ts : List M.Fact) : Prop := TNs a 4 ∧ TNs st 5 ∧ ts.length ≤ 24 ∧ ∀ t ∈ ts, M.okF a st t
/-- in order -/
def Srt (a za : List (List Nat)) : Prop := M.ANs za ∧ (∀ k, k ∈ za ↔ k ∈ a) ∧ za.length = a.length
theorem S_onto (ys : List Str) : ∃ zs : List (List Nat), ys = zs.map S := ⟨ys.map fun y => y.cps.toList, by
  rw [List.map_map]
  refine (List.map_id'' ?_ ys).symm
  intro y
  show S y.cps.toList = y
  cases y with
  | mk a =>
    show (⟨a.toList.toArray⟩ : Str) = _
    simp⟩
theorem srt_of {a : List (List Nat)} {ys : List Str} {m : Nat} (h : TNs a m) (hp : ys.Perm (a.map S)) (hs : sortedS ys = true) : ∃ za, ys = za.map S ∧ Srt a za := by
  obtain ⟨za, rfl⟩ := S_onto ys
  have hm : ∀ k, k ∈ za ↔ k ∈ a := fun k => by
    have z := hp.mem_iff (a := S k)
    constructor
    · intro hk
      obtain ⟨n, hn, e⟩ := List.mem_map.mp (z.mp (List.mem_map.mpr ⟨k, hk, rfl⟩))
      rw [← S_inj e]
      exact hn
    · intro hk
      obtain ⟨n, hn, e⟩ := List.mem_map.mp (z.mpr (List.mem_map.mpr ⟨k, hk, rfl⟩))
      rw [← S_inj e]
      exact hn
  refine ⟨za, rfl, ⟨List.all_eq_true.mpr fun k hk => List.all_eq_true.mp h.2.1 k ((hm k).mp hk), ?_, hs⟩, hm, by have := hp.length_eq; simpa using this⟩
  exact hp.nodup_iff.mpr (nodup_S.mpr h.2.2)
def spFInit (K : PySem.W.Frag) (n : Nat) : Sp := fun vs H Q E => ∃ p dx la ls lt a st ts us, vs = [.ref p, .ref la, .ref ls, .ref lt] ∧ H p = some (.ins (FC K) dx []) ∧ H la = some (.lst (sV a)) ∧ H ls = some (.lst (sV st)) ∧ H lt = some (.lst us) ∧ All2 (fun v x => FAt H x v) us ts ∧
  (a.length ≤ 10000 ∧ st.length ≤ 10000 ∧ ts.length ≤ 100000) ∧ ((∀ x ∈ a, x.length ≤ 10000) ∧ ∀ x ∈ st, x.length ≤ 10000) ∧ (∀ t ∈ ts, t.wf ∧ M.om t.sh < n ∧ M.om t.sh ≤ 60 ∧ t.sh.length ≤ 300000) ∧
  (¬ Made a st ts → ∀ (d : Addr) (k : Int) H', Same H H' → H' d = none → E (.ref (WrC K)) (some d) (upd H' d (.xd [("place", .int k)]))) ∧
  (Made a st ts → ∀ za zst H', SameB p H H' → Srt a za → Srt st zst → FsAt K H' (za, zst, ts) (.ref p) → Q .non H')
theorem o_finit (W : Wl K mg) (n : Nat) (hn : 0 < n) : OkD w K mg base (CXM w) (n + 8) d_Facts_init ["self", "asks", "steps", "told"] (spFInit K n) := by
  have O_are_told_names := o_told_names (w := w) (base := base) W
  have O_is_fact := o_is_fact (w := w) (base := base) W n hn
  refine ok_ofD W.D_Facts_init sc_Facts_init (fun vs H Q E ⟨_, _, _, _, _, _, _, _, _, h, _⟩ => by rw [h]; rfl) (fun fd F => by
    obtain ⟨ds, v, B⟩ := F.binds1 (ps := ["self", "asks", "steps", "told"]) 4 1 (by show [_] ≠ []; simp) rfl fun T kV doc pm an cdv ct us its hu hi => by
      match us, hu, its, hi with
      | [u0, u1, u2, u3], _, [i0], _ => exact ⟨_, rfl, rfl⟩
    cases (show Vals [] ds from v)
    exact B) fun cdv A outer s H vs Q E hr h => ?_
  have tkN := L2N.takes_of (X := cxOf (CXM w) P0 w K mg base n_Facts_init d_Facts_init.qual d_Facts_init.scope (fAd K d_Facts_init.at_) cdv A outer s H E) rfl rfl rfl rfl
  have nd := sc_Facts_init.nd
  obtain ⟨tA, hc_MOST_ASKS⟩ := W.c_MOST_ASKS
  obtain ⟨tS, hc_MOST_STEPS⟩ := W.c_MOST_STEPS
  obtain ⟨tF, hc_MOST_FACTS⟩ := W.c_MOST_FACTS
  refine ⟨_, (pss_cons (ps_if (pt_not (pt_val (pe_cal O_are_told_names (hr.mono (by omega)) W.g_are_told_names pass0 (pa_cons (pv 1) (pa_cons (pe_glob (v := .int 4) (by rfl) hc_MOST_ASKS ⟨_, rfl⟩) pa_nil))))) (pss_one (L2N.ps_raise rfl tkN (pmk_Wrong W hr (pa_cons pe_int pa_nil)).pmk)) pss_nil)
    (pss_cons (ps_if (pt_not (pt_val (pe_cal O_are_told_names (hr.mono (by omega)) W.g_are_told_names pass0 (pa_cons (pv 2) (pa_cons (pe_glob (v := .int 5) (by rfl) hc_MOST_STEPS ⟨_, rfl⟩) pa_nil))))) (pss_one (L2N.ps_raise rfl tkN (pmk_Wrong W hr (pa_cons pe_int pa_nil)).pmk)) pss_nil)
    (pss_cons (ps_if (PW.pt (pw_or (pt_not (pt_val (pe_callB call_isiT (by rfl) W.f_isinstance (by decide +kernel) (pa_cons (pv 3) (pa_cons (pe_tup (pa_cons (pe_bltn (v := .ty "list") (by rfl) W.f_list (by decide +kernel) rfl) (pa_cons (pe_bltn (v := .ty "tuple") (by rfl) W.f_tuple (by decide +kernel) rfl) pa_nil))) pa_nil))))) (pw_or1 (pt_cmpR op_gt (pe_callB call_len_seq (by rfl) W.f_len (by decide +kernel) (pa_cons (pv 3) pa_nil)) (pe_glob (v := .int 24) (by rfl) hc_MOST_FACTS ⟨_, rfl⟩) (nomark _))))) (pss_one (L2N.ps_raise rfl tkN (pmk_Wrong W hr (pa_cons pe_int pa_nil)).pmk)) pss_nil)
    (pss_cons (ps_if (pt_not (pt_val (pe_callB (cr_all rfl) (by rfl) W.f_all (by decide +kernel) (pa_cons (pe_lc (own := [("fact", 4)]) (g := gName 4) (tt := tYes) (by rfl) nd (pi_list (pv 3)) (blkOk_by (own := [("fact", 4)]) (N := n_Facts_init) (sc := defScope s_Facts_init) (by decide +kernel)) (fun _ _ _ _ _ => pg_name (i := 4) nd rfl (Or.inl rfl)) (fun _ _ _ _ _ => pts_nil) (fun _ _ _ _ _ => (pe_cal O_is_fact (hr.mono (by omega)) W.g_is_fact pass0 (pa_cons (pv 1) (pa_cons (pv 2) (pa_cons (pv 4) pa_nil)))))) pa_nil)))) (pss_one (L2N.ps_raise rfl tkN (pmk_Wrong W hr (pa_cons pe_int pa_nil)).pmk)) pss_nil)
    (pss_cons (ps_fld (pv 0) (pe_callTy call_tuple_of (by rfl) W.f_tuple (by decide +kernel) (pa_cons (pe_callB cr_sortedS (by rfl) W.f_sorted (by decide +kernel) (pa_cons (pv 1) pa_nil)) pa_nil)) rfl)
    (pss_cons (ps_fld (pv 0) (pe_callTy call_tuple_of (by rfl) W.f_tuple (by decide +kernel) (pa_cons (pe_callB cr_sortedS (by rfl) W.f_sorted (by decide +kernel) (pa_cons (pv 2) pa_nil)) pa_nil)) rfl)
    (pss_one (ps_fld (pv 0) (pe_callTy call_tuple_of (by rfl) W.f_tuple (by decide +kernel) (pa_cons (pv 3) pa_nil)) rfl)))))))), ?_⟩
  obtain ⟨p, dx, la, ls, lt, a, st, ts, us, rfl, hp, hla, hls, hlt, hts, ⟨la1, la2, la3⟩, ⟨lx1, lx2⟩, hfs, hE, hQ⟩ := h
  have wr : ∀ (hno : ¬ Made a st ts) (k : Int) H', Same H H' → XR.tMk1 (WrC K) "place" (tCons (tC (V.int k)) tNil) (L2.start n_Facts_init [V.ref p, V.ref la, V.ref ls, V.ref lt]) H' fun cls d H' => E cls d H' := fun hno k H' e => ⟨_, rfl, fun d hd => hE hno d k H' e hd⟩
  refine ⟨_, rfl, la, a, 4, rfl, hla, by decide, by omega, fun x hx => by have := lx1 x hx; omega, fun H1 e1 => ?_⟩
  by_cases h1 : TNs a 4
  rotate_left
  · rw [show decide (a.length ≤ 4 ∧ a.all M.nmB = true ∧ a.Nodup) = false from decide_eq_false h1]
    exact ⟨false, rfl, iteT (wr (fun z => h1 z.1) 0 H1 e1)⟩
  rw [show decide (a.length ≤ 4 ∧ a.all M.nmB = true ∧ a.Nodup) = true from decide_eq_true h1]
  refine ⟨true, rfl, iteF ⟨_, rfl, ls, st, 5, rfl, e1 _ _ hls, by decide, by omega, fun x hx => by have := lx2 x hx; omega, fun H2 e2 => ?_⟩⟩
  have e02 := e1.trans e2
  by_cases h2 : TNs st 5
  rotate_left
  · rw [show decide (st.length ≤ 5 ∧ st.all M.nmB = true ∧ st.Nodup) = false from decide_eq_false h2]
    exact ⟨false, rfl, iteT (wr (fun z => h2 z.2.1) 1 H2 e02)⟩
  rw [show decide (st.length ≤ 5 ∧ st.all M.nmB = true ∧ st.Nodup) = true from decide_eq_true h2]
  refine ⟨true, rfl, iteF ?_⟩
  refine ⟨_, rfl, by show 2 ≤ sizeLine; decide, fun tp htp => ⟨_, tp, _, _, _, true, rfl, upd_same, .cons (.ty _) (.cons (.ty _) .nil), .base (.lst (same_new htp _ _ (e02 _ _ hlt))), kitAny_cons (b := true) (kit_ty (by decide +kernel)) (fun z => nomatch z) (fun _ => rfl), true, rfl, ?_⟩⟩
  have e3 := e02.trans (same_new (o := .tup [V.ty "list", V.ty "tuple"]) htp)
  generalize upd H2 tp (.tup [V.ty "list", V.ty "tuple"]) = H3 at e3 ⊢
  have hul := hts.length
  refine iteF ⟨_, rfl, lt, _, rfl, .inl (sql (e3 _ _ hlt)), _, _, rfl, rfl, _, rfl, ?_⟩
  by_cases h3 : 24 < ts.length
  · exact iteE true (decide_eq_true (by omega)) (iteT (wr (fun z => by have := z.2.2.1; omega) 2 H3 e3))
  refine iteE false (decide_eq_false (by omega)) (iteF ?_)
  refine ⟨_, rfl, lt, rfl, ⟨_, sql (e3 _ _ hlt)⟩, fun D hD => ?_⟩
  refine HL.lcL (xs := us) (out := ts.map fun t => V.bl (decide (M.okF a st t))) hD (sql (e3 _ _ hlt)) (by rw [List.length_map, hul]) (small (by omega)) (fun k1 x1 y H4 Q4 hx1 hy e4 _ hq4 => ?_) fun H4 e4 hD4 => ?_
  · obtain ⟨t1, ht1, hAt1⟩ := hts.get hx1
    rw [List.getElem?_map, ht1] at hy
    have hy : some (V.bl (decide (M.okF a st t1))) = some y := hy
    cases hy
    obtain ⟨g1, g2, g3, g4⟩ := hfs t1 (List.mem_of_getElem? ht1)
    have e34 := e3.trans e4
    exact ⟨_, rfl, _, rfl, _, rfl, la, ls, a, st, x1, t1, rfl, e34 _ _ hla, e34 _ _ hls, la1, hAt1.keep (.of e34), g1, g2, g3, g4, fun H5 e5 => hq4 H5 e5⟩
  have e04 := e3.trans e4
  refine ⟨_, ts.map fun t => decide (M.okF a st t), rfl, .inl (.inl (by rw [hD4, List.map_map] <;> rfl)), ?_⟩
  rw [all_id]
  by_cases h4 : ∀ t ∈ ts, M.okF a st t
  rotate_left
  · have hx : (ts.all fun t => decide (M.okF a st t)) = false := by
      rw [Bool.eq_false_iff]
      intro z
      exact h4 fun t ht => of_decide_eq_true (List.all_eq_true.mp z t ht)
    rw [hx]
    exact ⟨false, rfl, iteT (wr (fun z => h4 z.2.2.2) 2 H4 e04)⟩
  rw [show (ts.all fun t => decide (M.okF a st t)) = true from List.all_eq_true.mpr fun t ht => decide_eq_true (h4 t ht)]
  have hmade : Made a st ts := ⟨h1, h2, by omega, h4⟩
  refine ⟨true, rfl, iteF ?_⟩
  have hla4 := e04 _ _ hla
  rw [sV_str] at hla4
  refine ⟨_, rfl, la, a.map S, rfl, sql hla4, by rw [List.length_map]; have := h1.1; omega, fun ys q1 hp1 hs1 hq1 => ?_⟩
  obtain ⟨za, rfl, hza⟩ := srt_of h1 hp1 hs1
  have nlp : ∀ {b : Addr} {xs : List V}, H b = some (.lst xs) → b ≠ p := fun z q => by
    rw [q, hp] at z
    cases z
  -- asks
  refine ⟨q1, _, rfl, .inl ⟨sql upd_same, fun ta hta => ?_⟩⟩
  have s5 := (same_new (o := .lst ((za.map S).map V.str)) hq1).trans (same_new (o := .tup ((za.map S).map V.str)) hta)
  have e5 := e04.trans s5
  have hta5 : upd (upd H4 q1 (.lst ((za.map S).map V.str))) ta (.tup ((za.map S).map V.str)) ta = some (.tup ((za.map S).map V.str)) := upd_same
  have nta : ta ≠ p := fun z => by
    rw [z] at hta
    have := (same_new (o := .lst ((za.map S).map V.str)) hq1) _ _ (e04 _ _ hp)
    rw [hta] at this
    cases this
  generalize upd (upd H4 q1 (.lst ((za.map S).map V.str))) ta (.tup ((za.map S).map V.str)) = H5 at s5 e5 hta5 ⊢
  refine ⟨_, rfl, p, _, dx, _, rfl, e5 _ _ hp, W.k_Facts, W.n_Facts_its_asks, by simp, ?_⟩
  have b6 : SameB p H (upd H5 p (.ins (FC K) dx [("its_asks", .ref ta)])) := (SameB.of e5).upd
  have hp6 : upd H5 p (.ins (FC K) dx [("its_asks", .ref ta)]) p = some (.ins (FC K) dx [("its_asks", .ref ta)]) := upd_same
  have hta6 : upd H5 p (.ins (FC K) dx [("its_asks", .ref ta)]) ta = some (.tup ((za.map S).map V.str)) := by rw [upd_ne nta]; exact hta5
  show tSeq _ _ _ _ (upd H5 p (.ins (FC K) dx [("its_asks", .ref ta)]))
  generalize upd H5 p (.ins (FC K) dx [("its_asks", .ref ta)]) = H6 at b6 hp6 hta6 ⊢
  -- steps
  have hls6 := b6 _ _ hls (nlp hls)
  rw [sV_str] at hls6
  refine ⟨_, rfl, ls, st.map S, rfl, sql hls6, by rw [List.length_map]; have := h2.1; omega, fun ys2 q2 hp2 hs2 hq2 => ?_⟩
  obtain ⟨zst, rfl, hzst⟩ := srt_of h2 hp2 hs2
  refine ⟨q2, _, rfl, .inl ⟨sql upd_same, fun ts2 hts2 => ?_⟩⟩
  have s7 := (same_new (o := .lst ((zst.map S).map V.str)) hq2).trans (same_new (o := .tup ((zst.map S).map V.str)) hts2)
  have hts7 : upd (upd H6 q2 (.lst ((zst.map S).map V.str))) ts2 (.tup ((zst.map S).map V.str)) ts2 = some (.tup ((zst.map S).map V.str)) := upd_same
  have nts : ts2 ≠ p := fun z => by
    rw [z] at hts2
    have := (same_new (o := .lst ((zst.map S).map V.str)) hq2) _ _ hp6
    rw [hts2] at this
    cases this
  have b7 := b6.trans (.of s7)
  have hp7 := s7 _ _ hp6
  have hta7 := s7 _ _ hta6
  generalize upd (upd H6 q2 (.lst ((zst.map S).map V.str))) ts2 (.tup ((zst.map S).map V.str)) = H7 at s7 hts7 b7 hp7 hta7 ⊢
  refine ⟨_, rfl, p, _, dx, _, rfl, hp7, W.k_Facts, W.n_Facts_its_steps, Nat.lt_of_lt_of_le (show 1 < 2 by decide) (by decide), ?_⟩
  have b8 : SameB p H (upd H7 p (.ins (FC K) dx [("its_asks", .ref ta), ("its_steps", .ref ts2)])) := b7.upd
  have hp8 : upd H7 p (.ins (FC K) dx [("its_asks", .ref ta), ("its_steps", .ref ts2)]) p = some (.ins (FC K) dx [("its_asks", .ref ta), ("its_steps", .ref ts2)]) := upd_same
  have hta8 : upd H7 p (.ins (FC K) dx [("its_asks", .ref ta), ("its_steps", .ref ts2)]) ta = some (.tup ((za.map S).map V.str)) := by rw [upd_ne nta]; exact hta7
  have hts8 : upd H7 p (.ins (FC K) dx [("its_asks", .ref ta), ("its_steps", .ref ts2)]) ts2 = some (.tup ((zst.map S).map V.str)) := by rw [upd_ne nts]; exact hts7
  rw [show putF ("its_steps" : Str) (V.ref ts2) [(("its_asks" : Str), V.ref ta)] = ([("its_asks", .ref ta), ("its_steps", .ref ts2)] : List (Str × V)) from rfl]
  generalize upd H7 p (.ins (FC K) dx [("its_asks", .ref ta), ("its_steps", .ref ts2)]) = H8 at b8 hp8 hta8 hts8 ⊢
  -- told
  refine ⟨_, rfl, lt, us, rfl, .inl ⟨sql (b8 _ _ hlt (nlp hlt)), fun tt htt => ?_⟩⟩
  have s9 := same_new (o := .tup us) htt
  have htt9 : upd H8 tt (.tup us) tt = some (.tup us) := upd_same
  have ntt : tt ≠ p := fun z => by
    rw [z, hp8] at htt
    cases htt
  have b9 := b8.trans (.of s9)
  have hp9 := s9 _ _ hp8
  have hta9 := s9 _ _ hta8
  have hts9 := s9 _ _ hts8
  generalize upd H8 tt (.tup us) = H9 at s9 htt9 b9 hp9 hta9 hts9 ⊢
  refine ⟨_, rfl, p, _, dx, _, rfl, hp9, W.k_Facts, W.n_Facts_its_told, Nat.lt_of_lt_of_le (show 2 < 3 by decide) (by decide), ?_⟩
  rw [show putF ("its_told" : Str) (V.ref tt) ([("its_asks", .ref ta), ("its_steps", .ref ts2)] : List (Str × V)) = ([("its_asks", .ref ta), ("its_steps", .ref ts2), ("its_told", .ref tt)] : List (Str × V)) from rfl]
  have tkp : TupK H (upd H9 p (.ins (FC K) dx [("its_asks", .ref ta), ("its_steps", .ref ts2), ("its_told", .ref tt)])) := fun b xs z => by
    have nb : b ≠ p := fun q => by
      rw [q, hp] at z
      cases z
    rw [upd_ne nb]
    exact b9 _ _ z nb
  refine hQ hmade za zst _ b9.upd hza hzst ⟨p, dx, ta, ts2, tt, us, rfl, ?_, by rw [upd_ne nta, hta9, ← sV_str], by rw [upd_ne nts, hts9, ← sV_str], by rw [upd_ne ntt, htt9], hts.imp fun v x z => z.keep tkp⟩
  exact upd_same
end
end K93
end

section
set_option Elab.async false
set_option linter.all false
set_option maxRecDepth 100000
set_option maxHeartbeats 4000000
/-! k93: Facts shown. -/
namespace K93
open PySem PySem.Spec PyProof.Rows L2 He HL
section
variable {w : World} {K : PySem.W.Frag} {mg : Str → Option Value} {base : Heap}
/-- a getter keeps its promise -/
theorem sc_g_asks : FnScope ["self"] ["self"] (defScope s_Facts_asks) := ⟨rfl, rfl, rfl, by decide +kernel, rfl, by decide +kernel, by decide +kernel⟩
theorem sc_g_steps : FnScope ["self"] ["self"] (defScope s_Facts_steps) := ⟨rfl, rfl, rfl, by decide +kernel, rfl, by decide +kernel, by decide +kernel⟩
theorem sc_g_told : FnScope ["self"] ["self"] (defScope s_Facts_told) := ⟨rfl, rfl, rfl, by decide +kernel, rfl, by decide +kernel, by decide +kernel⟩
theorem getter {d : HZ.PD} {f : Str} {C : Addr} {p1 p2 p3 : Pos} (D : ∃ fd, FunD K d.name d.qual d.params d.body d.scope [] [] (HZ.gAd K d.cls d.name) fd) (S : FnScope ["self"] ["self"] d.scope) (hb : d.body = [.Return (some (.Attribute (.Name "self" p1) f p2)) p3]) (c : Cls K C) (n : NoAttr K C f)
    (bi : ∀ (kV doc pm : Value) (an : Option Addr) (cdv ct : Value) (us : List Value), us.length = 1 → bindArgs (PySem.W.fnOf d.name d.qual d.params d.body d.scope .none kV doc pm an cdv ct) ⟨us, []⟩ = pure ((["self"] : List Str).zip us)) :
    ∃ fd, FnOk P0 w K mg base CX0 1 (HZ.gAd K d.cls d.name) fd ["self"] (getSp C f) ∧ Binds K fd ["self"] [] := by
  obtain ⟨fd, F⟩ := D
  have B := F.bindsN (ps := ["self"]) bi
  obtain ⟨oc, od, dV, kV, doc, pm, an, cdv, ct, osl, rfl, lk, hcd, _, _⟩ := F.ex
  exact ⟨_, fn_getter lk hcd S rfl hb c n, B⟩
theorem g_asks (W : Wl K mg) : ∃ fd, FnOk P0 w K mg base CX0 1 (HZ.gAd K "Facts" "asks") fd ["self"] (getSp (FC K) "its_asks") ∧ Binds K fd ["self"] [] :=
  getter (d := p_Facts_asks) W.q_Facts_asks.2 sc_g_asks rfl W.k_Facts W.n_Facts_its_asks fun kV doc pm an cdv ct us hu => by
    match us, hu with
    | [u0], _ => rfl
theorem g_steps (W : Wl K mg) : ∃ fd, FnOk P0 w K mg base CX0 1 (HZ.gAd K "Facts" "steps") fd ["self"] (getSp (FC K) "its_steps") ∧ Binds K fd ["self"] [] :=
  getter (d := p_Facts_steps) W.q_Facts_steps.2 sc_g_steps rfl W.k_Facts W.n_Facts_its_steps fun kV doc pm an cdv ct us hu => by
    match us, hu with
    | [u0], _ => rfl
theorem g_told (W : Wl K mg) : ∃ fd, FnOk P0 w K mg base CX0 1 (HZ.gAd K "Facts" "told") fd ["self"] (getSp (FC K) "its_told") ∧ Binds K fd ["self"] [] :=
  getter (d := p_Facts_told) W.q_Facts_told.2 sc_g_told rfl W.k_Facts W.n_Facts_its_told fun kV doc pm an cdv ct us hu => by
    match us, hu with
    | [u0], _ => rfl
theorem mem_sum {α : Type} {f : α → Nat} : ∀ {xs : List α} {x : α}, x ∈ xs → f x ≤ (xs.map f).sum
  | y :: ys, x, h => by
    rw [List.map_cons, List.sum_cons]
    rcases List.mem_cons.mp h with rfl | h
    · omega
    · have := mem_sum (f := f) h
      omega
abbrev n_show_facts : List Str := ["facts", "lines", "fact"]
theorem sc_show_facts : FnScope n_show_facts ["facts"] (defScope s_show_facts) := ⟨rfl, rfl, rfl, by decide +kernel, rfl, by decide +kernel, by decide +kernel⟩
theorem bi_show_facts : ∀ (kV doc pm : Value) (an : Option Addr) (cdv ct : Value) (us : List Value), us.length = 1 → bindArgs (PySem.W.fnOf d_show_facts.name d_show_facts.qual d_show_facts.params d_show_facts.body d_show_facts.scope .none kV doc pm an cdv ct) ⟨us, []⟩ = pure ([("facts" : Str)].zip us) := fun kV doc pm an cdv ct us hu => by
  match us, hu with
  | [u0], _ => rfl
def spShFs (K : PySem.W.Frag) (n : Nat) : Sp := fun vs H Q _ => ∃ v f, vs = [v] ∧ FsAt K H f v ∧ (∀ t ∈ f.2.2, M.om t.sh < n) ∧ (M.shFs f).length ≤ 100000 ∧ ∀ H', Same H H' → Q (.str (S (M.shFs f))) H'
theorem o_show_facts (W : Wl K mg) (n : Nat) (hn : 0 < n) : OkD w K mg base CX0 (n + 3) d_show_facts ["facts"] (spShFs K n) := by
  obtain ⟨_, g_asks, b_asks⟩ := g_asks (w := w) (base := base) W
  obtain ⟨_, g_steps, b_steps⟩ := g_steps (w := w) (base := base) W
  obtain ⟨_, g_told, b_told⟩ := g_told (w := w) (base := base) W
  have O_show_fact := o_show_fact (w := w) (base := base) W n hn
  refine HL.ok_of0 W.D_show_facts sc_show_facts (fun vs H Q E ⟨_, _, h, _⟩ => by rw [h]; rfl) bi_show_facts fun cdv A outer s H vs Q E hr h => ?_
  have nd := sc_show_facts.nd
  refine ⟨_, (pss_cons (ps_set (i := 1) nd rfl (Or.inl rfl) (pe_lst (pa_cons (pe_join pe_str (pe_lst (pa_cons pe_str (StX.pa_star (pe_callTy call_list_of (by rfl) W.f_list (by decide +kernel) (pa_cons (pe_prop (pv 0) W.k_Facts W.q_Facts_asks.1 g_asks (hr.mono (by omega)) b_asks .nil pass0 rfl) pa_nil)) pa_nil)))) (pa_cons (pe_join pe_str (pe_lst (pa_cons pe_str (StX.pa_star (pe_callTy call_list_of (by rfl) W.f_list (by decide +kernel) (pa_cons (pe_prop (pv 0) W.k_Facts W.q_Facts_steps.1 g_steps (hr.mono (by omega)) b_steps .nil pass0 rfl) pa_nil)) pa_nil)))) pa_nil))))
    (pss_one (ps_ret (pe_join pe_str (pe_lst (StX.pa_star (pv 1) (StX.pa_star (pe_lc (own := [("fact", 2)]) (g := gName 2) (tt := tYes) (by rfl) nd (pi_tup (pe_prop (pv 0) W.k_Facts W.q_Facts_told.1 g_told (hr.mono (by omega)) b_told .nil pass0 rfl)) (blkOk_by (own := [("fact", 2)]) (N := n_show_facts) (sc := defScope s_show_facts) (by decide +kernel)) (fun _ _ _ _ _ => pg_name (i := 2) nd rfl (Or.inl rfl)) (fun _ _ _ _ _ => pts_nil) (fun _ _ _ _ _ => (pe_cal O_show_fact (hr.mono (by omega)) W.g_show_fact pass0 (pa_cons (pv 2) pa_nil)))) pa_nil))))))), ?_⟩
  obtain ⟨v, f, rfl, ⟨p, dx, ta, ts, tt, us, rfl, hp, hta, hts, htt, hA⟩, hom, hlen, hq⟩ := h
  have q32 : M.q " " = [32] := by decide
  have q10 : M.q "\n" = [10] := by decide
  have hj := joinL_len (M.q "\n") (M.lineN (M.q "asks") f.1 :: M.lineN (M.q "steps") f.2.1 :: f.2.2.map M.Fact.sh)
  have hsh : (TL.joinL (M.q "\n") (M.lineN (M.q "asks") f.1 :: M.lineN (M.q "steps") f.2.1 :: f.2.2.map M.Fact.sh)).length ≤ 100000 := hlen
  rw [show (M.q "\n").length = 1 by decide] at hj
  simp only [List.map_cons, List.sum_cons, List.length_cons, List.length_map] at hj
  have hl1 : (M.lineN (M.q "asks") f.1).length ≤ 100000 := by omega
  have hl2 : (M.lineN (M.q "steps") f.2.1).length ≤ 100000 := by omega
  have hnum : ∀ (w : List Nat) (ns : List (List Nat)), (M.lineN w ns).length ≤ 100000 → ns.length ≤ 100001 := fun w ns h => by
    have h2 := joinL_len (M.q " ") (w :: ns)
    have h3 : (TL.joinL (M.q " ") (w :: ns)).length ≤ 100000 := h
    rw [show (M.q " ").length = 1 by decide] at h2
    simp only [List.map_cons, List.sum_cons, List.length_cons] at h2
    omega
  have hn1 := hnum _ _ hl1
  have hn2 := hnum _ _ hl2
  have lst : ∀ (w : String) (ns : List (List Nat)), (V.str (Str.ofString w) :: (sV ns ++ [])) = ((M.q w :: ns).map S).map V.str := fun w ns => by
    rw [List.append_nil, List.map_cons, List.map_cons, sV_str, ofq]
    rfl
  -- asks
  refine ⟨⟨_, rfl⟩, _, rfl, p, dx, _, rfl, hp, p, dx, _, _, rfl, hp, rfl, ta, _, rfl, .inr (sqt hta), fun a1 ha1 => ⟨a1, _, rfl, .inr (sql upd_same), by show (V.str (Str.ofString "asks") :: (sV f.1 ++ [])).length ≤ sizeLine; rw [lst, List.length_map, List.length_map, List.length_cons]; exact small (by omega), fun a2 ha2 => ?_⟩⟩
  refine ⟨_, a2, (M.q "asks" :: f.1).map S, rfl, rfl, .inl (sql (by rw [upd_same, ← lst])), join_ok (c := 32) (by decide) (by rw [← q32]; show (M.lineN _ _).length ≤ _; omega), ?_⟩
  rw [join_one (c := 32) (by decide), ← q32]
  have s1 := (same_new (o := .lst (sV f.1)) ha1).trans (same_new (o := .lst (V.str (Str.ofString "asks") :: (sV f.1 ++ []))) ha2)
  generalize upd (upd H a1 (.lst (sV f.1))) a2 (.lst (V.str (Str.ofString "asks") :: (sV f.1 ++ []))) = H1 at s1 ⊢
  -- steps
  have hp1 := s1 _ _ hp
  refine ⟨⟨_, rfl⟩, _, rfl, p, dx, _, rfl, hp1, p, dx, _, _, rfl, hp1, rfl, ts, _, rfl, .inr (sqt (s1 _ _ hts)), fun b1 hb1 => ⟨b1, _, rfl, .inr (sql upd_same), by show (V.str (Str.ofString "steps") :: (sV f.2.1 ++ [])).length ≤ sizeLine; rw [lst, List.length_map, List.length_map, List.length_cons]; exact small (by omega), fun b2 hb2 => ?_⟩⟩
  refine ⟨_, b2, (M.q "steps" :: f.2.1).map S, rfl, rfl, .inl (sql (by rw [upd_same, ← lst])), join_ok (c := 32) (by decide) (by rw [← q32]; show (M.lineN _ _).length ≤ _; omega), ?_⟩
  rw [join_one (c := 32) (by decide), ← q32]
  have s2 := s1.trans ((same_new (o := .lst (sV f.2.1)) hb1).trans (same_new (o := .lst (V.str (Str.ofString "steps") :: (sV f.2.1 ++ []))) hb2))
  generalize upd (upd H1 b1 (.lst (sV f.2.1))) b2 (.lst (V.str (Str.ofString "steps") :: (sV f.2.1 ++ []))) = H2 at s2 ⊢
  refine ⟨by show 2 ≤ sizeLine; decide, fun l5 hl5 => ?_⟩
  have s3 := s2.trans (same_new (o := .lst [V.str (S (M.lineN (M.q "asks") f.1)), V.str (S (M.lineN (M.q "steps") f.2.1))]) hl5)
  have hl5v : upd H2 l5 (.lst [V.str (S (M.lineN (M.q "asks") f.1)), V.str (S (M.lineN (M.q "steps") f.2.1))]) l5 = some (.lst [V.str (S (M.lineN (M.q "asks") f.1)), V.str (S (M.lineN (M.q "steps") f.2.1))]) := upd_same
  show gName 1 _ _ (upd H2 l5 (.lst [V.str (S (M.lineN (M.q "asks") f.1)), V.str (S (M.lineN (M.q "steps") f.2.1))])) _
  generalize upd H2 l5 (.lst [V.str (S (M.lineN (M.q "asks") f.1)), V.str (S (M.lineN (M.q "steps") f.2.1))]) = H3 at s3 hl5v ⊢
  have hp3 := s3 _ _ hp
  refine ⟨⟨_, rfl⟩, _, rfl, l5, _, rfl, .inr (sql hl5v), _, rfl, p, dx, _, rfl, hp3, p, dx, _, _, rfl, hp3, rfl, tt, rfl, ⟨_, sqt (s3 _ _ htt)⟩, fun D hD => ?_⟩
  have hul := hA.length
  refine HL.lcT (xs := us) (out := f.2.2.map fun t => V.str (S t.sh)) hD (sqt (s3 _ _ htt)) (by rw [List.length_map, hul]) (small (by omega)) (fun k1 x1 y H4 Q4 hx1 hy e4 _ hq4 => ?_) fun H4 e4 hD4 => ?_
  · obtain ⟨t1, ht1, hAt1⟩ := hA.get hx1
    rw [List.getElem?_map, ht1] at hy
    have hy : some (V.str (S t1.sh)) = some y := hy
    cases hy
    have hm := List.mem_of_getElem? ht1
    have hle : t1.sh.length ≤ (f.2.2.map fun t => t.sh.length).sum := mem_sum (f := fun t : M.Fact => t.sh.length) hm
    have hle2 : t1.sh.length ≤ 100000 := by
      have h6 : ((f.2.2.map M.Fact.sh).map (·.length)).sum = (f.2.2.map fun t : M.Fact => t.sh.length).sum := by
        rw [List.map_map]
        rfl
      rw [h6] at hj
      omega
    exact ⟨_, rfl, x1, t1, rfl, hAt1.keep (.of (s3.trans e4)), hom t1 hm, hle2, fun H5 e5 => hq4 H5 e5⟩
  · refine ⟨D, _, rfl, .inr (sql hD4), ?_, fun m hm => ?_⟩
    · show ([V.str (S (M.lineN (M.q "asks") f.1)), V.str (S (M.lineN (M.q "steps") f.2.1))] ++ (f.2.2.map (fun t : M.Fact => V.str (S t.sh)) ++ [])).length ≤ sizeLine
      rw [List.append_nil, List.length_append, List.length_map]
      exact small (by show 2 + f.2.2.length ≤ 1000000; omega)
    · have e5 : ([V.str (S (M.lineN (M.q "asks") f.1)), V.str (S (M.lineN (M.q "steps") f.2.1))] ++ (f.2.2.map (fun t : M.Fact => V.str (S t.sh)) ++ [])) = ((M.lineN (M.q "asks") f.1 :: M.lineN (M.q "steps") f.2.1 :: f.2.2.map M.Fact.sh).map S).map V.str := by
        rw [List.append_nil]
        simp [List.map_map]
      refine ⟨_, m, (M.lineN (M.q "asks") f.1 :: M.lineN (M.q "steps") f.2.1 :: f.2.2.map M.Fact.sh).map S, rfl, rfl, .inl (sql (by rw [upd_same, ← e5])), join_ok (c := 10) (by decide) (by rw [← q10]; omega), ?_⟩
      rw [join_one (c := 10) (by decide), ← q10]
      exact hq _ (HL.Same.new (s3.trans e4) hm)
end
end K93
end

section
set_option Elab.async false
set_option linter.all false
set_option maxRecDepth 100000
set_option maxHeartbeats 4000000
/-! A lambda without parameters handed to a def that lets exceptions out; what the lambda lets out is told of any kind (CXl). -/
namespace LamG
open PySem PySem.Spec PyProof.Rows L2 LamX
/-- the context of the lambda's body -/
abbrev cxL (CXl : CXT) (X : Cx) (A : Around) (outer : List Env) (s : Shared) (H : Hp) (E : XK) (scope : Scope) (f c' : Addr) : Cx :=
  (lamCx X A outer s H E scope f c').wish fun e s' => wpAny (model X.prog X.w) (A.deeper (lamEnv X scope s.heap.objs.size f c')) (leaving (lamEnv X scope s.heap.objs.size f c') e) (fun _ s'' => CXl outer H s E e s'') (fun e' s'' => CXl outer H s E e' s'') s'
section
variable {X : Cx} {pins : List (Addr × Obj)} {σ : L2.St} {H HZ : Hp} {s s1 : Shared} {CXl : CXT}
/-- x(), in the def that got the lambda -/
theorem pe_go {CXg : CXT} {Eg : XK} {Ng : List Str} {qg : Str} {sg : Scope} {g f c' : Addr} {cdg pm ctv : Value} {params : Arguments} {body : Expr} {scope : Scope} {k i : Nat} {a : Str} {pn : List (Addr × Obj)} {xe : Value → Shared → Prop} {E : XK} {tb : TE} {p1 p2 : Pos}
    (I : Inv X pins σ H s) (L : LamS X.env.scope scope) (hf : s.heap.get? f = some (PySem.W.kla_obj "<lambda>" (X.env.qual ++ "<lambda>") params body scope (cloFrom X.env.cells scope.names []) pm c' ctv)) (hfn : H f = none) (hfr : f ∉ frs X.stack)
    (hbind : bindArgs (PySem.W.kla_fn "<lambda>" (X.env.qual ++ "<lambda>") params body scope (cloFrom X.env.cells scope.names []) pm (.ref c') ctv) ⟨[], []⟩ = pure [])
    (hx : Passes CXl ((cxOf CXg X.prog X.w X.K X.mg X.base Ng qg sg g cdg X.A X.stack s H Eg).tr pn xe) E) (hr : Room (k + 1) (X.A.deeper (envOfC qg sg s.heap.objs.size g cdg)))
    (hbody : ∀ (A : Around) (outer : List Env) (s : Shared) (H : Hp), Room k (A.deeper (lamEnv X scope s.heap.objs.size f c')) → PE (cxL CXl X A outer s H E scope f c') body tb)
    (hN : Ng[i]? = some a) (hv : Vis sg a) (hd : (a == ("__debug__" : Str)) = false := by decide) (hcd : (a == ("__classdict__" : Str)) = false := by decide) :
    PE ((cxOf CXg X.prog X.w X.K X.mg X.base Ng qg sg g cdg X.A X.stack s H Eg).tr pn xe) (.Call (.Name a p1) [] [] p2)
      (fun σZ HZ Q => σZ[i]? = some (some (.ref f)) ∧ HZ c' = some (CodeO c' (X.env.qual ++ "<lambda>")) ∧ tb σ HZ Q) := by
  refine ⟨fun pinsZ sZ σZ HZ Q IZ ⟨hs, hc, ht⟩ => ?_⟩
  have hname := (pe_var (pos := p1) (i := i) hN hv hd hcd).run pinsZ sZ σZ HZ (fun v H1 => v = .ref f ∧ H1 = HZ) IZ ⟨.ref f, hs, rfl, rfl⟩
  refine wpAny_Call_Name_kw (thn hname fun u s1 ⟨v, H1, I1, r1, ev, eH⟩ => ?_)
  subst ev
  rw [eH] at I1
  obtain rfl : u = Value.ref f := r1
  have hobj := I1.base.keep f _ hf hfn hfr (fun z => nomatch (show f ∈ ([] : List Addr) from z))
  have un : Un (frs X.stack) [] H HZ s.heap s1.heap := I1.base
  obtain ⟨⟨oc, vs, t, hoc, hdc, hvc⟩, _, _⟩ := I1.hok c' _ hc
  refine PySem.W.callWith_F0 ⟨_, _, _, _, hobj⟩ ?_
  have rc : codeAny (model X.prog X.w) (X.A.deeper (envOfC qg sg s.heap.objs.size g cdg)) (.call (.ref f) ⟨[], []⟩) (CR CXl (envOfC qg sg s.heap.objs.size g cdg :: X.stack) X.prog X.w HZ s1 Q E) s1 := by
    refine PySem.W.kla_callFunE hr.depth hobj rfl L.co L.gen rfl ⟨c', oc, vs, t, rfl, hoc, hdc, hvc⟩ ?_
    rw [hbind]
    refine wpAny_pure (wpAny_newFunctionEnv (fun y hy => (L.own y hy).2) (fun y hy => absurd hy (by simp)) (fun h₁ hns hsb => ⟨I1.nolimit.fresh _ hsb, ?_⟩) L.kind)
    show codeAny _ _ (.expr body (lamEnv X scope s1.heap.objs.size f c')) _ _
    have kp : ∀ b o, s1.heap.get? b = some o → h₁.get? b = some o := fun b o e => hsb.extBut b o (Nat.ne_of_lt (Heap.lt_size e)) (Heap.get?_push_of_some _ e)
    have J := (lam_start2 (E := E) (f := f) (c' := c') (tk := s1.toks + ([] : List (Str × Value)).length) I L I1.env0 hr.hd un hns kp).wish fun e s' => wpAny (model X.prog X.w) ((X.A.deeper (envOfC qg sg s.heap.objs.size g cdg)).deeper (lamEnv X scope s1.heap.objs.size f c')) (leaving (lamEnv X scope s1.heap.objs.size f c') e) (fun _ s'' => CXl (envOfC qg sg s.heap.objs.size g cdg :: X.stack) HZ s1 E e s'') (fun e' s'' => CXl (envOfC qg sg s.heap.objs.size g cdg :: X.stack) HZ s1 E e' s'') s'
    refine PySem.W.kla_codeExpr (wpAny_mono ((hbody _ _ s1 HZ (hr.deeper _)).run [] _ _ HZ Q J ht) (fun v s' hq => ?_) fun e s' hq => hq)
    obtain ⟨w', H', J', rv, q⟩ := hq
    exact ⟨w', H', J'.os, J'.bare, J'.base, J'.hok, rv, q⟩
  refine wpAny_call (codeAny_mono rc fun r s' hq => ?_)
  cases r with
  | error e => exact hx pinsZ σZ HZ s1 e s' I1 hq
  | ok fl =>
    cases fl with
    | ret u => exact I1.after hq
    | next => exact False.elim hq
    | brk => exact False.elim hq
    | cont => exact False.elim hq
end
/-- the def that calls what it got: a calls it; TT: what it makes of the lambda's reading -/
def Gives (X : Cx) (CXg : CXT) (Eg : XK) (CXl : CXT) (Ng : List Str) (x : Str) (sg : Scope) (g : Addr) (cdg : Value) (bg : List Stmt) (a : Str) (q : Str) (TT : (XK → Hp → VK → Prop) → Hp → VK → Prop) : Prop :=
  ∀ (f c' : Addr) (s : Shared) (H : Hp) (Q : VK) (tl : XK → Hp → VK → Prop),
    (∀ (pn : List (Addr × Obj)) (xe : Value → Shared → Prop) (E : XK) (p1 p2 : Pos), Passes CXl ((cxOf CXg X.prog X.w X.K X.mg X.base Ng x sg g cdg X.A X.stack s H Eg).tr pn xe) E →
      PE ((cxOf CXg X.prog X.w X.K X.mg X.base Ng x sg g cdg X.A X.stack s H Eg).tr pn xe) (.Call (.Name a p1) [] [] p2) (fun σZ HZ Q => σZ[0]? = some (some (.ref f)) ∧ HZ c' = some (CodeO c' q) ∧ tl E HZ Q)) →
    H c' = some (CodeO c' q) → TT tl H Q →
    ∃ t, PSs (cxOf CXg X.prog X.w X.K X.mg X.base Ng x sg g cdg X.A X.stack s H Eg) bg t ∧ t { nx := fun _ H' => Q .non H', rt := Q } (L2.start Ng [.ref f]) H
/-- x(lambda: body), x may let out what Eg tells -/
theorem pe_lam {X : Cx} {CXg CXl : CXT} {Eg : XK} {T : List (Addr × Str)} {TT : (XK → Hp → VK → Prop) → Hp → VK → Prop} {x a : Str} {g c P : Addr} {k : Nat} {pg : Arguments} {bg : List Stmt} {sg : Scope} {dV kV doc pm cdv ct oc : Value} {an od : Option Addr} {osl : Array (Option Value)} {Ng : List Str}
    {params : Arguments} {body : Expr} {scope : Scope} {t : XK → TE} {p lpos pos : Pos} (hg : Gl X x) (hm : X.mg x = some (.ref g)) (hk : PySem.W.keepIn X.K (.ref g) = true)
    (lk : X.K.lookup g = some ⟨oc, od, .func (PySem.W.fnOf x x pg bg sg dV kV doc pm an cdv ct), osl⟩) (hcg : PySem.W.codeIn X.K cdv x = true) (hb : L2.Binds X.K (PySem.W.fnOf x x pg bg sg dV kV doc pm an cdv ct) [a] []) (Sg : FnScope Ng [a] sg) (hNg : Ng[0]? = some a) (hva : Vis sg a)
    (hG : Gives X CXg Eg CXl Ng x sg g cdv bg a (X.env.qual ++ "<lambda>") TT) (hxg : Passes CXg X Eg)
    (TB : TabB X.base X.mg c P) (hcode : X.env.code = .ref c) (hmT : (P, X.env.qual ++ "<lambda>") ∈ T) (hu : ∀ p ∈ T, p.1 = P → p.2 = X.env.qual ++ "<lambda>") (hr : Room (k + 2) X.A) (L : LamS X.env.scope scope) (hdef : defaultsOf params X.env = ([], []))
    (hbind : ∀ (q : Str) (cl : List (Str × Addr)) (pm cv ctv : Value), bindArgs (PySem.W.kla_fn "<lambda>" q params body scope cl pm cv ctv) ⟨[], []⟩ = pure [])
    (hbody : ∀ (A : Around) (outer : List Env) (s : Shared) (H : Hp) (E : XK) (f c' : Addr), Room k (A.deeper (lamEnv X scope s.heap.objs.size f c')) → PE (cxL CXl X A outer s H E scope f c') body (t E))
    (hdb : (x == ("__debug__" : Str)) = false := by decide) (hd : (a == ("__debug__" : Str)) = false := by decide) (hcd : (a == ("__classdict__" : Str)) = false := by decide) :
    PE X (.Call (.Name x p) [.Lambda params body scope lpos] [] pos) (tLam T TT t) := by
  refine ⟨fun pins s σ H Q I ⟨hT, h⟩ => ?_⟩
  refine wpAny_Call_Name_kw (ld_glob I hg hm ?_ hdb)
  refine PySem.W.callWith_K (h₀ := X.base) I.ok.mod.kin hk ?_ (by rfl) (by rfl)
  show wpAny _ _ (spliced ((false, eval (.Lambda params body scope lpos) X.env) :: backTo pos (starEach [] X.env))) _ _ s
  refine Calls.spliced_cons (lam_make2 I TB hcode hmT hu hT hdef (L.has I.ok) fun f c' pm' ctv H1 s' I1 eN T1 hf hfn hfr hco => Calls.spliced_nil ⟨I1.kIn, ?_⟩)
  have rc : codeAny (model X.prog X.w) X.A (.call (.ref g) ⟨[.ref f], []⟩) (CR CXg X.stack X.prog X.w H1 s' Q Eg) s' := by
    refine run_ofS (N := Ng) (ps := [a]) (us := [.ref f]) (vs := [.ref f]) lk hcg Sg hr I1.env0 (hb s' [.ref f] I1.kIn rfl) (.cons rfl .nil) rfl fun hr' => ?_
    exact hG f c' s' H1 Q (fun E H' Q' => t E σ H' Q') (fun pn xe E p1 p2 hx => pe_go (i := 0) I1 L hf hfn hfr (hbind _ _ _ _ _) hx hr' (fun A outer s H hr2 => hbody A outer s H E f c' hr2) hNg hva hd hcd) hco (h H1 eN T1)
  refine wpAny_call (codeAny_mono rc fun r s2 hq => ?_)
  cases r with
  | error e => exact hxg pins σ H1 s' e s2 I1 hq
  | ok fl =>
    cases fl with
    | ret u => exact I1.after hq
    | next => exact False.elim hq
    | brk => exact False.elim hq
    | cont => exact False.elim hq
end LamG
end

section
set_option Elab.async false
set_option linter.all false
set_option maxRecDepth 100000
set_option maxHeartbeats 4000000
/-! k93: made_by. -/
namespace K93
open PySem PySem.Spec PyProof.Rows L2 He HL
theorem pmkN5 {X : Cx} {p pos : Pos} (W : Wl X.K X.mg) (hd : X.A.depth + 2 < recursionLimit) (hP : X.prog = P0 := by rfl) (hg : Gl X "NoText" := by rfl) : L2H.PMk5 X (.Call (.Name "NoText" p) [] [] pos) (XR.tMkN (CN X.K)) := by
  subst_eqs
  refine XR.pmk5_noarg (pl := fun env => do return (← importBound (supO x_NoText.body) env).getD true) (file := "/claim/cut.py") (name := "__init__") (qual := x_NoText.qual) (params := x_NoText.params) (scope := x_NoText.scope) (W.na_x_NoText) ⟨by decide +kernel, by decide +kernel, by decide +kernel, by decide +kernel, by decide +kernel, by decide +kernel, by decide +kernel⟩
    ⟨fun _ _ _ _ => rfl, fun _ _ _ _ => rfl, fun _ _ _ _ => rfl⟩ ⟨_, rfl, rfl⟩ (fun _ _ _ _ _ _ _ _ => rfl) (by rw [hP]; decide +kernel) (by rw [hP]; decide +kernel) hd hg W.g_NoText
section
variable {w : World} {K : PySem.W.Frag} {mg : Str → Option Value} {base : Heap}
abbrev n_made_by : List Str := ["make", "found"]
theorem sc_made_by : FnScope n_made_by ["make"] (defScope s_made_by) := ⟨rfl, rfl, rfl, by decide +kernel, rfl, by decide +kernel, by decide +kernel⟩
theorem bi_made_by : ∀ (kV doc pm : Value) (an : Option Addr) (cdv ct : Value) (us : List Value), us.length = 1 → bindArgs (PySem.W.fnOf d_made_by.name d_made_by.qual d_made_by.params d_made_by.body d_made_by.scope .none kV doc pm an cdv ct) ⟨us, []⟩ = pure ([("make" : Str)].zip us) := fun kV doc pm an cdv ct us hu => by
  match us, hu with
  | [u0], _ => rfl
/-- what made_by makes of its callable: what it gives, or NoText where a Wrong is let out -/
def TMade (K : PySem.W.Frag) (E : XK) : (XK → Hp → VK → Prop) → Hp → VK → Prop := fun tl H Q => tl (fun cls _ H' => cls = .ref (WrC K) ∧ E (.ref (CN K)) none H') H fun v H' => ∃ u, some (some v) = some (some u) ∧ Q u H'
theorem made_gives (W : Wl K mg) {N : List Str} {qual : Str} {scope : Scope} {f0 : Addr} {cdv0 : Value} {A : Around} {outer : List Env} {s0 : Shared} {H0 : Hp} {E0 : L2.XK} {CX0' : CXT} {cdg : Value} {q : Str} {E : XK} (hr : Room 5 (cxOf CX0' P0 w K mg base N qual scope f0 cdv0 A outer s0 H0 E0).A) :
    LamG.Gives (cxOf CX0' P0 w K mg base N qual scope f0 cdv0 A outer s0 H0 E0) (CXN w) E (CXM w) n_made_by "made_by" (defScope s_made_by) (ga K "made_by") cdg (defBody s_made_by) "make" q (TMade K E) := by
  intro f c' s H Q tl act hc h
  have nd := sc_made_by.nd
  have hx : PySem.W.exmOne K (.ref (WrC K)) (.ref (ga K "AloneError")) = some true := W.x_Wrong_AloneError
  refine ⟨_, pss_cons (L2H.ps_try_onlyX (c := .ref (ga K "AloneError")) (Wout := fun cls d _ H' => E cls d H') (ts := fun a cls d => fun _ σ H' => XR.tMkN (CN K) σ H' fun cls d H' => E cls d H')
      (tb := fun Wx D σ H' => ∃ Ech : L2.XK, (∀ cls d σ' H', Ech cls d H' → Wx cls d σ' H') ∧ tAsg (fun σZ HZ Q => σZ[0]? = some (some (.ref f)) ∧ HZ c' = some (LamX.CodeO c' q) ∧ tl Ech HZ Q) (gName 1) D σ H')
      rfl rfl ⟨rfl, by decide, .inl W.g_AloneError⟩ (L2H.passesAt_of rfl) (takes_of rfl rfl rfl rfl) (fun Wx pn xe tk _ _ => ?_) (fun a oe cls d pn hz hf tk hot => ?_)) (pss_one (ps_ret (pv 1))), ?_⟩
  · refine ⟨fun pins s' σ H' D I h' => ?_⟩
    obtain ⟨Ech, hW, h1⟩ := h'
    have hp := fun p1 p2 => act pn xe Ech p1 p2 (L2N.passes_call tk hW)
    refine PSs.run ?_ pins s' σ H' D I h1
    exact pss_one (ps_set (i := 1) nd rfl (Or.inl rfl) (hp _ _))
  · refine pss_one (L2H.ps_raiseHN hot tk (pmkN5 W ?_))
    have h5 := (hr.mono (Nat.le_refl _)).deeper (envOfC "made_by" (defScope s_made_by) s.heap.objs.size (ga K "made_by") cdg)
    exact Nat.lt_of_le_of_lt (Nat.le_trans (Nat.add_le_add_left (show 2 ≤ 17 by decide) _) (Nat.le_of_eq rfl)) h5.dp
  · refine ⟨fun cls d H' => cls = .ref (WrC K) ∧ E (.ref (CN K)) none H', ?_, rfl, hc, ?_⟩
    · rintro cls d σ' H' ⟨rfl, hE⟩
      exact ⟨true, hx, fun _ a ha => hE, nofun⟩
    · exact h
end
end K93
end

section
set_option Elab.async false
set_option linter.all false
set_option maxRecDepth 100000
set_option maxHeartbeats 4000000
/-! A comprehension whose items change the heap within a frame. -/
namespace HL
open PySem PySem.Spec PyProof.Rows L2 He
section
variable {K : PySem.W.Frag} {α : Type} {R : V → α → Hp → Prop} {P : Nat → α → Prop} {J : It} {te : TE} {σ : L2.St} {H1 : Hp} {D : Addr} {Qd : Hp → Prop} {i : Nat} {Px : Nat → V → Prop} {X : Addr → HO → Prop} {I : Hp → Prop}
theorem lcJR (N : Nat) (hD : H1 D = none) (hX : ∀ l, X D (.lst l)) (h0 : I (upd H1 D (.lst []))) (hI : ∀ H l, I H → H D = some (.lst l) → ∀ l', I (upd H D (.lst l'))) (hsz : N ≤ sizeLine)
    (hR : ∀ v c H H', R v c H → Fr X H H' → I H → R v c H') (hR2 : ∀ v c H l l', R v c H → H D = some (.lst l) → R v c (upd H D (.lst l')))
    (hstop : ∀ H, Fr X H1 H → J.stop N H) (hgo : ∀ k H, k < N → Fr X H1 H → J.go k H) (hy : ∀ k H x H', k < N → Fr X H1 H → J.yld k H x H' → H' = H ∧ Px k x)
    (hs : ∀ k x H (Q : VK), k < N → Fr X H1 H → I H → Px k x → (∀ v c H', Fr X H H' → I H' → P k c → R v c H' → Q v H') → te ((wipe σ [i]).set i (some x)) H Q)
    (hd : ∀ H vs cs, Fr X H1 H → I H → H D = some (.lst vs) → vs.length = N → All2 (fun v c => R v c H) vs cs → (∀ j c, cs[j]? = some c → P j c) → Qd H) :
    ∃ W : Nat → Nat → Hp → Prop, (∃ m, W 0 m (upd H1 D (.lst []))) ∧ ∀ j m H, W j m H →
      (J.stop j H ∧ Qd H) ∨ (J.go j H ∧ ∃ Nx : Hp → Prop, (∀ H', Nx H' → ∃ m', m' < m ∧ W (j + 1) m' H') ∧ ∀ x H', J.yld j H x H' → gName i x (wipe σ [i]) H' fun σ2 H2 => wipe σ2 [i] = wipe σ [i] ∧ tYes σ2 H2 fun b H3 =>
        if b = true then te σ2 H3 fun y H4 => ∃ acc, H4 D = some (.lst acc) ∧ acc.length < sizeLine ∧ Nx (upd H4 D (.lst (acc ++ [y]))) else Nx H3) := by
  refine ⟨fun k m H => m = N - k ∧ k ≤ N ∧ Fr X H1 H ∧ I H ∧ ∃ vs cs, H D = some (.lst vs) ∧ vs.length = k ∧ All2 (fun v c => R v c H) vs cs ∧ ∀ j c, cs[j]? = some c → P j c, ⟨_, rfl, Nat.zero_le _, .of (same_new hD), h0, [], [], upd_same, rfl, trivial, fun j c z => by simp at z⟩, ?_⟩
  rintro k m H ⟨rfl, hk, e, h1, vs, cs, hl, hn, hA, hP⟩
  by_cases hlt : k < N
  · refine .inr ⟨hgo k H hlt e, fun H' => Fr X H1 H' ∧ I H' ∧ ∃ vs cs, H' D = some (.lst vs) ∧ vs.length = k + 1 ∧ All2 (fun v c => R v c H') vs cs ∧ ∀ j c, cs[j]? = some c → P j c, fun H' h' => ⟨N - (k + 1), by omega, rfl, hlt, h'⟩, fun x H' y => ?_⟩
    obtain ⟨rfl, hx⟩ := hy k H x H' hlt e y
    refine ⟨wipe1, yes_in (hs k x H' _ hlt e h1 hx fun v' c H4 e' h1' hp r => ⟨vs, e' _ _ hl (hX _), by omega, (e.trans e').mutN hD, hI H4 _ h1' (e' _ _ hl (hX _)) _, vs ++ [v'], cs ++ [c], upd_same, by rw [List.length_append, hn] <;> rfl, ?_, fun j c' hj => ?_⟩)⟩
    · have hl' := e' _ _ hl (hX vs)
      exact All2.snoc (R := fun v c => R v c (upd H4 D (.lst (vs ++ [v'])))) (hR2 _ _ _ _ _ r hl') (hA.imp fun v c z => hR2 _ _ _ _ _ (hR _ _ _ _ z e' h1) hl')
    · have hcs : cs.length = k := by rw [← hn]; exact hA.length.symm
      by_cases hjk : j < cs.length
      · rw [List.getElem?_append_left hjk] at hj
        exact hP j c' hj
      · rw [List.getElem?_append_right (by omega)] at hj
        have hj0 : j - cs.length = 0 := by
          cases hz : j - cs.length with
          | zero => rfl
          | succ q =>
            rw [hz] at hj
            simp at hj
        rw [hj0] at hj
        have hj : some c = some c' := hj
        cases hj
        have : j = k := by omega
        rw [this]
        exact hp
  · have ek : k = N := by omega
    subst ek
    exact .inl ⟨hstop H e, hd H vs cs e h1 hl hn hA hP⟩
end
end HL
end

section
set_option Elab.async false
set_option linter.all false
set_option maxRecDepth 100000
set_option maxHeartbeats 8000000
/-! k93: Facts read. -/
namespace K93
open PySem PySem.Spec PyProof.Rows L2 He HL
theorem cut_from (xs : List V) (k : Nat) : cutV xs (some (k : Int)) none = xs.drop k := by
  unfold cutV
  rw [HT.sIx_none, HT.sIx_nat]
  by_cases h : k ≤ xs.length
  · rw [Nat.min_eq_left h]
    exact List.take_of_length_le (by rw [List.length_drop]; omega)
  · rw [Nat.min_eq_right (by omega), List.drop_eq_nil_of_le (Nat.le_refl _), List.drop_eq_nil_of_le (by omega)]
    exact List.take_nil
theorem tabU {T : List (Addr × Str)} {l : Addr} {xs : List V} {o : HO} {H : Hp} (t : LamX.Tabs T H) (h : H l = some (.lst xs)) : LamX.Tabs T (upd H l o) := fun x hx => by
  obtain ⟨ps, h1, h2, h3⟩ := t x hx
  refine ⟨ps, by rw [upd_ne (fun z => by rw [z, h] at h1; cases h1)]; exact h1, h2, fun pos cv hc => ?_⟩
  obtain ⟨c, e1, e2⟩ := h3 pos cv hc
  exact ⟨c, e1, by rw [upd_ne (fun z => by rw [z, h] at e2; exact codeO_lst (Option.some.inj e2).symm)]; exact e2⟩
theorem mapO_of {α β : Type} {f : α → Option β} : ∀ {xs : List α} {cs : List β}, cs.length = xs.length → (∀ (k : Nat) (c : β), cs[k]? = some c → ∃ x, xs[k]? = some x ∧ f x = some c) → M.mapO f xs = some cs
  | [], [], _, _ => rfl
  | [], _ :: _, h, _ => by simp at h
  | _ :: _, [], h, _ => by simp at h
  | x :: xs, c :: cs, h, hk => by
    obtain ⟨y, h1, h2⟩ := hk 0 c rfl
    have h1 : some x = some y := h1
    cases h1
    have ih := mapO_of (f := f) (xs := xs) (cs := cs) (by simpa using h) fun k d hd => hk (k + 1) d hd
    unfold M.mapO
    rw [h2, ih]
theorem ord_one {za a : List (List Nat)} (h1 : M.ANs za) (h2 : M.ANs a) (h : ∀ k, k ∈ za ↔ k ∈ a) : za = a := by
  have e := N.sort_one h1.2.1 h2.2.1 (fun k => by
    constructor
    · intro z
      obtain ⟨x, hx, e⟩ := List.mem_map.mp z
      exact List.mem_map.mpr ⟨x, (h x).mp hx, e⟩
    · intro z
      obtain ⟨x, hx, e⟩ := List.mem_map.mp z
      exact List.mem_map.mpr ⟨x, (h x).mpr hx, e⟩) h1.2.2 h2.2.2
  exact (List.map_inj_right fun x y z => S_inj z).mp e
theorem extT {H H' : Hp} (e : LamX.ExtN H H') : TupK H H' := fun b xs h => e b _ h (fun _ z => nomatch z)
section
variable {w : World} {K : PySem.W.Frag} {mg : Str → Option Value} {base : Heap}
abbrev n_read_facts : List Str := ["text", "lines", "asks", "steps", "told", "found", "line"]
theorem sc_read_facts : FnScope n_read_facts ["text"] (defScope s_read_facts) := ⟨rfl, rfl, rfl, by decide +kernel, rfl, by decide +kernel, by decide +kernel⟩
theorem bi_read_facts : ∀ (kV doc pm : Value) (an : Option Addr) (cdv ct : Value) (us : List Value), us.length = 1 → bindArgs (PySem.W.fnOf d_read_facts.name d_read_facts.qual d_read_facts.params d_read_facts.body d_read_facts.scope .none kV doc pm an cdv ct) ⟨us, []⟩ = pure ([("text" : Str)].zip us) := fun kV doc pm an cdv ct us hu => by
  match us, hu with
  | [u0], _ => rfl
def spRdFs (K : PySem.W.Frag) (n : Nat) : Sp := fun vs H Q E => ∃ v, vs = [v] ∧ LamX.Tabs (TK K) H ∧
  ((∃ s, v = .str (S s) ∧ s.length ≤ 30000 ∧ (∀ l ∈ M.sp 10 s, M.om l < n ∧ l.length ≤ 3000) ∧ (M.rdFs n s = none → ∀ H', LamX.ExtN H H' → LamX.Tabs (TK K) H' → E (.ref (CN K)) none H') ∧
    (∀ f, M.rdFs n s = some f → ∀ u H', LamX.ExtN H H' → LamX.Tabs (TK K) H' → FsAt K H' f u → Q u H')) ∨ (NoStr K H v ∧ E (.ref (CN K)) none H))
theorem o_read_facts (W : Wl K mg) (B : Tb K mg base) (n : Nat) (hn : 0 < n) (hn60 : n ≤ 61) : OkD w K mg base (CXN w) (n + 12) d_read_facts ["text"] (spRdFs K n) := by
  refine ok_ofT W.D_read_facts sc_read_facts (fun vs H Q E ⟨_, h, _⟩ => by rw [h]; rfl) bi_read_facts fun A outer s H vs Q E hr h => ?_
  have tk := takes_of (X := cxOf (CXN w) P0 w K mg base n_read_facts d_read_facts.qual d_read_facts.scope (fAd K d_read_facts.at_) (.ref (He.cT K d_read_facts.at_).1) A outer s H E) rfl rfl rfl rfl
  have nd := sc_read_facts.nd
  have O_need := o_need (w := w) (base := base) W
  have O_need_text := o_need_text (w := w) (base := base) W
  have O_read_fact := o_read_fact (w := w) (base := base) W B n hn
  have O_show_facts := o_show_facts (w := w) (base := base) W n hn
  obtain ⟨fdI, FI, bI⟩ := (o_finit (w := w) (base := base) W n hn).ex
  obtain ⟨fdM, DM⟩ := W.D_made_by
  obtain ⟨ocM, odM, dVM, kVM, docM, pmM, anM, cdvM, ctM, oslM, rfl, lkM, hcgM, _, _⟩ := id DM.ex
  have bM : L2.Binds K _ ["make"] [] := DM.bindsN bi_made_by
  refine ⟨_, (pss_cons (ps_expr (pe_cal O_need_text (hr.mono (by omega)) W.g_need_text (passes_call tk (fun _ _ _ _ h => h)) (pa_cons (pv 0) pa_nil)))
    (pss_cons (ps_set (i := 1) nd rfl (Or.inl rfl) (pe_split (pv 0) pe_str))
    (pss_cons (ps_expr (pe_cal O_need (hr.mono (by omega)) W.g_need (passes_call tk (fun _ _ _ _ h => h)) (pa_cons (pe_cmpR op_gt (pe_callB call_len_seq (by rfl) W.f_len (by decide +kernel) (pa_cons (pv 1) pa_nil)) pe_int (nomark _)) pa_nil)))
    (pss_cons (ps_asg (pe_tup (pa_cons (pe_slice sl_list (pe_split (pe_ix ix_list (pv 1) pe_int (fun _ _ => rfl)) pe_str) (po_some pe_int) po_none) (pa_cons (pe_slice sl_list (pe_split (pe_ix ix_list (pv 1) pe_int (fun _ _ => rfl)) pe_str) (po_some pe_int) po_none) pa_nil))) (pg_tup (by rfl) (pgs_cons (pg_name (i := 2) nd rfl (Or.inr rfl)) (pgs_cons (pg_name (i := 3) nd rfl (Or.inr rfl)) pgs_nil))))
    (pss_cons (ps_set (i := 4) nd rfl (Or.inr rfl) (XL.pe_lc (own := [("line", 6)]) (g := gName 6) (tt := tYes) tk rfl rfl (by rfl) nd (pi_list (pe_slice sl_list (pv 1) (po_some pe_int) po_none)) (blkOk_by (own := [("line", 6)]) (N := n_read_facts) (sc := defScope s_read_facts) (by decide +kernel)) (fun _ _ _ _ _ => pg_name (i := 6) nd rfl (Or.inl rfl)) (fun _ _ _ _ _ => pts_nil) (fun _ _ _ _ _ tk => (pe_cal O_read_fact (hr.mono (by omega)) W.g_read_fact (passes_call tk (fun _ _ _ _ h => h)) (pa_cons (pv 6) pa_nil)))))
    (pss_cons (ps_set (i := 5) nd rfl (Or.inl rfl) (LamG.pe_lam (T := TK K) (TT := TMade K E) (CXg := CXN w) (CXl := CXM w) (Eg := E) (x := "made_by") (a := "make") (g := ga K "made_by") (c := (He.cT K ("read_facts", none)).1) (P := (He.cT K ("read_facts", none)).2) (k := n + 9) (t := fun E' => tMake (FC K) (spFInit K n) [] E' (tCons (tVar 2) (tCons (tVar 3) (tCons (tVar 4) tNil)))) rfl W.g_made_by DM.kp lkM hcgM bM sc_made_by rfl (.inl rfl) (made_gives W (hr.mono (by omega))) (passes_call tk (fun _ _ _ _ h => h)) (B.tab _ (by simp [tf])) rfl (by simp [TK]; right; left; rfl) (tab_uniq W.nodT (by simp [TK]; right; left; rfl)) (hr.mono (by omega)) (show LamX.LamS (defScope s_read_facts) _ from LamX.lamS_by (by decide +kernel)) rfl (fun _ _ _ _ _ => rfl) (fun A' outer' s' H' E' f c' hr2 => pe_make W.mk_Facts FI hr2 (by rfl) W.g_Facts bI .nil (L2N.passes_call (L2N.takes_of rfl rfl rfl rfl) (fun _ _ _ _ h => h)) (pa_cons (pv 2) (pa_cons (pv 3) (pa_cons (pv 4) pa_nil))))))
    (pss_cons (ps_expr (pe_cal O_need (hr.mono (by omega)) W.g_need (passes_call tk (fun _ _ _ _ h => h)) (pa_cons (pe_cmpR op_eq (pe_cal O_show_facts (hr.mono (by omega)) W.g_show_facts pass0 (pa_cons (pv 5) pa_nil)) (pv 0) (nomark _)) pa_nil)))
    (pss_one (ps_ret (pv 5)))))))))), ?_⟩
  obtain ⟨v, rfl, hT, hcase⟩ := h
  obtain ⟨s, rfl, hs, hlo, hF, hQ⟩ | ⟨hno, hE⟩ := hcase
  rotate_left
  · exact ⟨_, rfl, _, rfl, .inr ⟨hno, hE⟩⟩
  refine ⟨_, rfl, _, rfl, .inl ⟨_, rfl, ?_⟩⟩
  dsimp only
  refine ⟨_, rfl, ⟨_, rfl⟩, _, _, rfl, rfl, len_one (c := 10) (by decide), by rw [S_len]; exact small (by omega), fun l hl => ?_⟩
  rw [split_one (c := 10) (by decide) (by decide), ← sV_str]
  have s1 := same_new (o := .lst (sV (M.sp 10 s))) hl
  have hl1 : upd H l (.lst (sV (M.sp 10 s))) l = some (.lst (sV (M.sp 10 s))) := upd_same
  generalize upd H l (.lst (sV (M.sp 10 s))) = H1 at s1 hl1 ⊢
  have hT1 := hT.ext s1
  dsimp only [gName]
  have hlen : (sV (M.sp 10 s)).length = (M.sp 10 s).length := by rw [List.length_map]
  refine ⟨_, rfl, l, _, rfl, .inl (sql hl1), _, _, rfl, rfl, _, rfl, fun h2 => ?_, fun h2 => ?_⟩
  rotate_left
  · have h2 := of_decide_eq_false h2
    refine hF ?_ H1 (.of s1) hT1
    cases e : M.sp 10 s with
    | nil => exact absurd e (M.sp_ne 10 s)
    | cons l0 r =>
      cases r with
      | nil =>
        unfold M.rdFs
        rw [e]
      | cons l1 fs =>
        rw [hlen, e] at h2
        simp at h2
        omega
  obtain ⟨l0, l1, fs, e⟩ : ∃ l0 l1 fs, M.sp 10 s = l0 :: l1 :: fs := by
    have h2 := of_decide_eq_true h2
    rw [hlen] at h2
    cases e : M.sp 10 s with
    | nil => rw [e] at h2; simp at h2
    | cons l0 r =>
      cases r with
      | nil => rw [e] at h2; simp at h2
      | cons l1 fs => exact ⟨l0, l1, fs, rfl⟩
  rw [e] at hl1 hlo
  have hsum := joinL_len [10] (M.sp 10 s)
  rw [M.join_sp, e] at hsum
  simp only [List.map_cons, List.sum_cons, List.length_cons, List.length_nil] at hsum
  have hl0 : l0.length ≤ 30001 := by omega
  have hl1' : l1.length ≤ 30001 := by omega
  -- asks
  refine ⟨_, rfl, l, _, _, _, rfl, rfl, sql hl1, at0, ⟨_, rfl⟩, _, _, rfl, rfl, len_one (c := 32) (by decide), by rw [S_len]; exact small (by omega), fun w1 hw1 => ?_⟩
  rw [split_one (c := 32) (by decide) (by decide), ← sV_str]
  refine ⟨1, rfl, w1, _, rfl, sql upd_same, fun x1 hx1 => ?_⟩
  rw [show cutV (sV (M.sp 32 l0)) (some 1) none = sV ((M.sp 32 l0).drop 1) from (cut_from _ 1).trans List.map_drop.symm]
  have s2 := (same_new (o := .lst (sV (M.sp 32 l0))) hw1).trans (same_new (o := .lst (sV ((M.sp 32 l0).drop 1))) hx1)
  have hx1v : upd (upd H1 w1 (.lst (sV (M.sp 32 l0)))) x1 (.lst (sV ((M.sp 32 l0).drop 1))) x1 = some (.lst (sV ((M.sp 32 l0).drop 1))) := upd_same
  generalize upd (upd H1 w1 (.lst (sV (M.sp 32 l0)))) x1 (.lst (sV ((M.sp 32 l0).drop 1))) = H2 at s2 hx1v ⊢
  have hl2 := s2 _ _ hl1
  -- steps
  refine ⟨_, rfl, l, _, _, _, rfl, rfl, sql hl2, at1, ⟨_, rfl⟩, _, _, rfl, rfl, len_one (c := 32) (by decide), by rw [S_len]; exact small (by omega), fun w2 hw2 => ?_⟩
  rw [split_one (c := 32) (by decide) (by decide), ← sV_str]
  refine ⟨1, rfl, w2, _, rfl, sql upd_same, fun x2 hx2 => ?_⟩
  rw [show cutV (sV (M.sp 32 l1)) (some 1) none = sV ((M.sp 32 l1).drop 1) from (cut_from _ 1).trans List.map_drop.symm]
  have s3 := (same_new (o := .lst (sV (M.sp 32 l1))) hw2).trans (same_new (o := .lst (sV ((M.sp 32 l1).drop 1))) hx2)
  have hx2v : upd (upd H2 w2 (.lst (sV (M.sp 32 l1)))) x2 (.lst (sV ((M.sp 32 l1).drop 1))) x2 = some (.lst (sV ((M.sp 32 l1).drop 1))) := upd_same
  generalize upd (upd H2 w2 (.lst (sV (M.sp 32 l1)))) x2 (.lst (sV ((M.sp 32 l1).drop 1))) = H3 at s3 hx2v ⊢
  have hx13 := s3 _ _ hx1v
  refine ⟨by show 2 ≤ sizeLine; decide, fun tp htp => ?_⟩
  have s4 := same_new (o := .tup [V.ref x1, V.ref x2]) htp
  have htpv : upd H3 tp (.tup [V.ref x1, V.ref x2]) tp = some (.tup [V.ref x1, V.ref x2]) := upd_same
  have hx14 := s4 _ _ hx13
  have hx24 := s4 _ _ hx2v
  have s04 := s1.trans (s2.trans (s3.trans s4))
  have hl4 := s4 _ _ (s3 _ _ hl2)
  refine ⟨tp, _, rfl, sqt htpv, rfl, _, _, rfl, _, _, rfl, rfl, ?_⟩
  generalize upd H3 tp (.tup [V.ref x1, V.ref x2]) = H4 at s4 htpv hx14 hx24 s04 hl4 ⊢
  clear htpv s4
  have hT4 := hT.ext s04
  -- told
  refine ⟨_, rfl, 2, rfl, l, _, rfl, sql hl4, fun fl hfl => ?_⟩
  rw [show cutV (sV (l0 :: l1 :: fs)) (some 2) none = sV fs from cut_from _ 2]
  have s5 := same_new (o := .lst (sV fs)) hfl
  have hfl5 : upd H4 fl (.lst (sV fs)) fl = some (.lst (sV fs)) := upd_same
  have hT5 := hT4.ext s5
  have hx15 := s5 _ _ hx14
  have hx25 := s5 _ _ hx24
  have s05 := s04.trans s5
  generalize upd H4 fl (.lst (sV fs)) = H5 at s5 hfl5 hT5 hx15 hx25 s05 ⊢
  refine ⟨fl, rfl, ⟨_, sql hfl5⟩, fun D hD => ?_⟩
  have hom : ∀ x ∈ fs, M.om x < n ∧ x.length ≤ 3000 := fun x hx => hlo x (by simp [hx])
  have hnone : (∀ f, M.rdFs n s ≠ some f) → M.rdFs n s = none := fun h => by
    cases hz : M.rdFs n s with
    | none => rfl
    | some f => exact absurd hz (h f)
  have hparts : ∀ f, M.rdFs n s = some f → fs.length ≤ 24 ∧ M.namesL (M.q "asks") 4 l0 = some f.1 ∧ M.namesL (M.q "steps") 5 l1 = some f.2.1 ∧ M.mapO (M.readF n) fs = some f.2.2 ∧ ∀ t ∈ f.2.2, M.okF f.1 f.2.1 t := fun f hf => by
    obtain ⟨l0', l1', fs', e', h1, h2, h3, h4, h5⟩ := M.rdFs_some hf
    rw [e] at e'
    injection e' with e1 e2
    injection e2 with e2 e3
    subst e1 e2 e3
    exact ⟨h1, h2, h3, h4, h5⟩
  have hfn : fs.length ≤ 30001 := by
    have := M.sp_len 10 s
    rw [e, List.length_cons, List.length_cons] at this
    have := List.count_le_length (a := 10) (l := s)
    omega
  refine HL.lcJR (X := fun _ o => ∀ ps, o ≠ .tbl ps) (I := fun H' => LamX.Tabs (TK K) H') (R := fun v c H' => FAt H' c v) (P := fun k c => ∃ x, fs[k]? = some x ∧ M.readF n x = some c) (Px := fun k x => (sV fs)[k]? = some x) fs.length hD (fun _ _ z => nomatch z) (hT5.ext (same_new hD)) (fun H' l' t h l'' => tabU t h) (small (by omega))
    (fun v c Ha Hb r e _ => r.keep (fun b xs z => e b _ z (fun _ q => nomatch q))) (fun v c Ha l' l'' r h => r.keep ((TupK.refl Ha).mut h (fun xs q => nomatch q))) (fun Ha e => ⟨sV fs, sql (e _ _ hfl5 (fun _ q => nomatch q)), by rw [List.length_map]; exact Nat.le_refl _⟩)
    (fun k Ha hk e => ⟨sV fs, (sV fs)[k]'(by rw [List.length_map]; exact hk), sql (e _ _ hfl5 (fun _ q => nomatch q)), List.getElem?_eq_getElem _⟩) (fun k Ha x Hb hk e ⟨h1, h2⟩ => ⟨h1, h2 _ (sql (e _ _ hfl5 (fun _ q => nomatch q)))⟩) (fun k x Ha Q2 hk e1 t1 hx hq2 => ?_) fun H6 vs cs e6 hT6 hD6 hvl hA6 hP6 => ?_
  · have hgk : fs[k]? = some fs[k] := List.getElem?_eq_getElem hk
    rw [List.getElem?_map, hgk] at hx
    have hx : some (V.str (S fs[k])) = some x := hx
    cases hx
    obtain ⟨g1, g2⟩ := hom _ (List.getElem_mem hk)
    have e0a : LamX.ExtN H Ha := (LamX.ExtN.of s05).trans e1
    refine ⟨_, rfl, _, rfl, t1, .inl ⟨fs[k], rfl, by omega, g1, fun hno Hb eb tb => ?_, fun c hc u Hb eb tb hAt => hq2 u c Hb eb tb ⟨_, hgk, hc⟩ hAt⟩⟩
    refine hF (hnone fun f hf => ?_) Hb (e0a.trans eb) tb
    have := (hparts f hf).2.2.2.1
    rw [M.mapO_none (List.getElem_mem hk) hno] at this
    cases this
  have hcl : cs.length = fs.length := by rw [← hvl]; exact hA6.length.symm
  have hmap : M.mapO (M.readF n) fs = some cs := mapO_of hcl hP6
  have e06 : LamX.ExtN H H6 := (LamX.ExtN.of s05).trans e6
  have hx16 := e6 _ _ hx15 (fun _ q => nomatch q)
  have hx26 := e6 _ _ hx25 (fun _ q => nomatch q)
  have hwf := M.mapO_wf (fun x hx => (hom x hx).1) hmap
  have hshm := M.mapO_sh hmap
  refine ⟨hT6, fun H7 e7 hT7 => ?_⟩
  have e07 := e06.trans e7
  have hx17 := e7 _ _ hx16 (fun _ q => nomatch q)
  have hx27 := e7 _ _ hx26 (fun _ q => nomatch q)
  have hD7 := e7 _ _ hD6 (fun _ q => nomatch q)
  refine ⟨_, rfl, _, rfl, _, rfl, fun p dx h1 h2 h3 => ?_⟩
  have s8 : Same H7 (upd (upd H7 dx (.own p)) p (.ins (FC K) dx [])) := (same_new h2).trans (same_new (by rw [upd_ne h3.symm]; exact h1))
  have hp8 : upd (upd H7 dx (.own p)) p (.ins (FC K) dx []) p = some (.ins (FC K) dx []) := upd_same
  generalize upd (upd H7 dx (.own p)) p (.ins (FC K) dx []) = H8 at s8 hp8 ⊢
  have hT8 := hT7.ext s8
  have e08 := e07.trans (.of s8)
  have hA8 : All2 (fun v c => FAt H8 c v) vs cs := hA6.imp fun v c z => z.keep ((extT e7).trans (.of s8))
  have hw0 : ∀ x ∈ (M.sp 32 l0).drop 1, x.length ≤ 10000 := fun x hx => by
    have h9 := joinL_len [32] (M.sp 32 l0)
    rw [M.join_sp] at h9
    have h10 := mem_sum (f := fun x : List Nat => x.length) (List.mem_of_mem_drop hx)
    have h11 := (hlo l0 (by simp)).2
    rw [show ([32] : List Nat).length = 1 from rfl, Nat.mul_one] at h9
    have h13 : 1 ≤ (M.sp 32 l0).length := List.length_pos_iff.mpr (M.sp_ne 32 l0)
    omega
  have hw1 : ∀ x ∈ (M.sp 32 l1).drop 1, x.length ≤ 10000 := fun x hx => by
    have h9 := joinL_len [32] (M.sp 32 l1)
    rw [M.join_sp] at h9
    have h10 := mem_sum (f := fun x : List Nat => x.length) (List.mem_of_mem_drop hx)
    have h11 := (hlo l1 (by simp)).2
    rw [show ([32] : List Nat).length = 1 from rfl, Nat.mul_one] at h9
    have h13 : 1 ≤ (M.sp 32 l1).length := List.length_pos_iff.mpr (M.sp_ne 32 l1)
    omega
  have hc0 : ((M.sp 32 l0).drop 1).length ≤ 10000 := by
    rw [List.length_drop, M.sp_len]
    have := List.count_le_length (a := 32) (l := l0)
    have := (hlo l0 (by simp)).2
    omega
  have hc1 : ((M.sp 32 l1).drop 1).length ≤ 10000 := by
    rw [List.length_drop, M.sp_len]
    have := List.count_le_length (a := 32) (l := l1)
    have := (hlo l1 (by simp)).2
    omega
  refine ⟨p, dx, x1, x2, D, _, _, cs, vs, rfl, hp8, s8 _ _ hx17, s8 _ _ hx27, s8 _ _ hD7, hA8, ⟨hc0, hc1, by omega⟩, ⟨hw0, hw1⟩, fun t ht => ?_, fun hno d k H' e9 hd => ⟨rfl, ?_⟩, fun hm za zst H' eb hza hzst hfs => ⟨rfl, _, rfl, ?_⟩⟩
  · have hm : t.sh ∈ fs := by
      rw [← hshm]
      exact List.mem_map.mpr ⟨t, ht, rfl⟩
    have := hom _ hm
    exact ⟨hwf t ht, this.1, by omega, by omega⟩
  · refine hF (hnone fun f hf => hno ?_) _ (e08.trans ((LamX.ExtN.of e9).trans (.of (same_new hd)))) ((hT8.ext e9).ext (same_new hd))
    obtain ⟨g1, g2, g3, g4, g5⟩ := hparts f hf
    rw [hmap] at g4
    cases g4
    obtain ⟨k1, _, k2, k3⟩ := M.namesL_some g2
    obtain ⟨k4, _, k5, k6⟩ := M.namesL_some g3
    rw [k1, k4]
    exact ⟨⟨k3, k2.1, nodup_S.mp k2.2.1⟩, ⟨k6, k5.1, nodup_S.mp k5.2.1⟩, by rw [hcl]; exact g1, g5⟩
  · have e0' : LamX.ExtN H H' := fun b o z nt => eb b o (s8 _ _ (e07 b o z nt)) (ne_of_none (e07 b o z nt) h1)
    have hT' := tabI hT8 eb hp8
    have hlen : (M.shFs (za, zst, cs)).length ≤ 100000 := by
      have hw : ∀ (w : List Nat) (ns : List (List Nat)), w.length ≤ 8 → M.ANs ns → ns.length ≤ 5 → (M.lineN w ns).length ≤ 3000 := fun w ns g1 g2 g3 => by
        have := joinN (f := List.length) rfl (fun a b => List.length_append ..) (b := M.q " ") (k := 8) (ys := w :: ns) fun y hy => by
          rcases List.mem_cons.mp hy with rfl | hy
          · exact g1
          · exact (g2.nm y hy).most
        rw [show (M.q " ").length = 1 by decide, List.length_cons] at this
        show (TL.joinL (M.q " ") (w :: ns)).length ≤ 3000
        omega
      have := joinN (f := List.length) rfl (fun a b => List.length_append ..) (b := M.q "\n") (k := 3000) (ys := M.lineN (M.q "asks") za :: M.lineN (M.q "steps") zst :: cs.map M.Fact.sh) fun y hy => by
        rcases List.mem_cons.mp hy with rfl | hy
        · exact hw _ _ (by decide) hza.1 (by rw [hza.2.2]; have := hm.1.1; omega)
        rcases List.mem_cons.mp hy with rfl | hy
        · exact hw _ _ (by decide) hzst.1 (by rw [hzst.2.2]; exact hm.2.1.1)
        · rw [hshm] at hy
          exact (hom y hy).2
      rw [show (M.q "\n").length = 1 by decide, List.length_cons, List.length_cons, List.length_map] at this
      have := hm.2.2.1
      show (TL.joinL (M.q "\n") (M.lineN (M.q "asks") za :: M.lineN (M.q "steps") zst :: cs.map M.Fact.sh)).length ≤ 100000
      omega
    refine ⟨_, rfl, .ref p, (za, zst, cs), rfl, hfs, fun t ht => ?_, hlen, fun H9 e9 => ?_⟩
    · have hm : t.sh ∈ fs := by
        rw [← hshm]
        exact List.mem_map.mpr ⟨t, ht, rfl⟩
      exact (hom _ hm).1
    refine ⟨_, rfl, rfl, ?_⟩
    rw [dec_S]
    have hok : ∀ t ∈ cs, M.okF za zst t := fun t ht => by
      have := hm.2.2.2 t ht
      cases t with
      | alw c => exact fun k hk => (hza.2.1 k).mpr (this k hk)
      | mk x y c => exact ⟨(hzst.2.1 x).mpr this.1, (hza.2.1 y).mpr this.2.1, fun k hk => (hza.2.1 k).mpr (this.2.2 k hk)⟩
    have hfs9 : FsAt K H9 (za, zst, cs) (.ref p) := by
      obtain ⟨p', dx', ta, ts', tt, us', q1, q2, q3, q4, q5, q6⟩ := hfs
      exact ⟨p', dx', ta, ts', tt, us', q1, e9 _ _ q2, e9 _ _ q3, e9 _ _ q4, e9 _ _ q5, q6.imp fun v x z => z.keep (.of e9)⟩
    refine ⟨_, rfl, fun hk => ?_, fun hk => ?_⟩
    · have hr := M.rdFs_back e (by have := hm.2.2.1; omega) hza.1 hzst.1 (by rw [hza.2.2]; exact hm.1.1) (by rw [hzst.2.2]; exact hm.2.1.1) (fun x hx => (hom x hx).1) hmap hok (of_decide_eq_true hk)
      exact ⟨_, rfl, hQ _ hr _ H9 (e0'.trans (.of e9)) (hT'.ext e9) hfs9⟩
    · refine hF (hnone fun f hf => of_decide_eq_false hk ?_) H9 (e0'.trans (.of e9)) (hT'.ext e9)
      obtain ⟨g1, g2, g3, g4, g5⟩ := hparts f hf
      rw [hmap] at g4
      obtain ⟨k1, _, k2, _⟩ := M.namesL_some g2
      obtain ⟨k4, _, k5, _⟩ := M.namesL_some g3
      rw [k1] at hza
      rw [k4] at hzst
      have ef : (za, zst, cs) = f := by
        obtain ⟨f1, f2, f3⟩ := f
        cases g4
        rw [ord_one hza.1 k2 hza.2.1, ord_one hzst.1 k5 hzst.2.1]
      rw [ef]
      exact M.rdFs_sh hf
end
end K93
end

section
set_option Elab.async false
set_option linter.all false
set_option maxRecDepth 100000
set_option maxHeartbeats 4000000
/-! k93: traces and facts drawn. -/
namespace K93
open PySem PySem.Spec PyProof.Rows L2 He HL
theorem tif_cont {c : TT} {t f : TS} {D : Ends} {σ : L2.St} {H : Hp} (P1 P2 : Hp → Prop) (hc : ∀ R : Bool → Hp → Prop, (∀ H', P1 H' → R true H') → (∀ H', P2 H' → R false H') → c σ H R) (h1 : ∀ H', P1 H' → t D σ H') (h2 : ∀ H', P2 H' → f D σ H') : tIfS c t f D σ H :=
  hc _ (fun H' h => iteT (h1 H' h)) (fun H' h => iteF (h2 H' h))
section
variable {w : World} {K : PySem.W.Frag} {mg : Str → Option Value} {base : Heap}
abbrev n_law_told : List Str := ["_law_bag_here", "_law_asks", "_law_steps", "_law_upto", "_law_found", "_law_k", "_law_way", "_law_some", "_law_step", "_law_ask", "_law_other"]
theorem sc_law_told : FnScope n_law_told ["_law_bag_here", "_law_asks", "_law_steps", "_law_upto"] (defScope s_law_told) := ⟨rfl, rfl, rfl, by decide +kernel, rfl, by decide +kernel, by decide +kernel⟩
theorem bi_law_told : ∀ (kV doc pm : Value) (an : Option Addr) (cdv ct : Value) (us : List Value), us.length = 4 → bindArgs (PySem.W.fnOf d_law_told.name d_law_told.qual d_law_told.params d_law_told.body d_law_told.scope .none kV doc pm an cdv ct) ⟨us, []⟩ = pure ([("_law_bag_here" : Str), ("_law_asks" : Str), ("_law_steps" : Str), ("_law_upto" : Str)].zip us) := fun kV doc pm an cdv ct us hu => by
  match us, hu with
  | [u0, u1, u2, u3], _ => rfl
def FewF (f : M.Fact) : Prop := f.wf ∧ M.om f.sh ≤ 40 ∧ f.sh.length ≤ 400
def spTold : Sp := fun vs H Q _ => ∃ b c ta tS na nS upto, vs = [.ref b, .ref ta, .ref tS, .int (upto : Nat)] ∧ upto ≤ 30 ∧ Bag H b c ∧ Names H ta na ∧ Names H tS nS ∧ ∀ l us H', SameB b H H' → Bag H' b c → H l = none → H' l = some (.lst us) → us.length ≤ upto → (∀ v ∈ us, ∃ f, FAt H' f v ∧ FewF f) → Q (.ref l) H'
theorem o_told (W : Wl K mg) : OkD w K mg base CX0 6 d_law_told ["_law_bag_here", "_law_asks", "_law_steps", "_law_upto"] spTold := by
  have O__law_take := o_take (w := w) (base := base) W
  have O__law_one := o_one (w := w) (base := base) W
  have O__law_condition := o_cnd (w := w) (base := base) W 1 4 (by omega)
  refine HL.ok_of0 W.D_law_told sc_law_told (fun vs H Q E ⟨_, _, _, _, _, _, _, h, _⟩ => by rw [h]; rfl) bi_law_told fun cdv A outer s H vs Q E hr h => ?_
  have nd := sc_law_told.nd
  refine ⟨_, (pss_cons (ps_set (i := 4) nd rfl (Or.inl rfl) (pe_lst pa_nil))
    (pss_cons (ps_for PassesOwn.never rfl (pi_range1 (by rfl) W.f_range (pa_cons (pe_cal O__law_take (hr.mono (by omega)) W.g__law_take pass0 (pa_cons (pv 0) (pa_cons (pe_op op_add (pv 3) pe_int) pa_nil))) pa_nil)) (pg_name (i := 5) nd rfl (Or.inl rfl)) (pss_cons (ps_set (i := 6) nd rfl (Or.inl rfl) (pe_cal O__law_take (hr.mono (by omega)) W.g__law_take pass0 (pa_cons (pv 0) (pa_cons pe_int pa_nil))))
      (pss_one (ps_if (PW.pt (pw_or (pt_cmpR op_lt (pv 6) pe_int (nomark _)) (pw_or (pt_cmpR XP.op_eqNil (pv 1) (pe_tup pa_nil) (nomark _)) (pw_or1 (pt_cmpR XP.op_eqNil (pv 2) (pe_tup pa_nil) (nomark _)))))) (pss_cons (ps_set (i := 7) nd rfl (Or.inl rfl) (pe_tup (pa_cons (pe_cal O__law_condition (hr.mono (by omega)) W.g__law_condition pass0 (pa_cons (pv 0) (pa_cons (pv 1) (pa_cons pe_int pa_nil)))) (pa_cons (pe_cal O__law_condition (hr.mono (by omega)) W.g__law_condition pass0 (pa_cons (pv 0) (pa_cons (pv 1) (pa_cons pe_int pa_nil)))) pa_nil))))
        (pss_one (ps_expr (pe_bm PySem.F.plainAttrs_list PySem.F.slot_list_append PySem.F.type_list_append mt_append (pv 4) (pa_cons (pe_tup (pa_cons pe_str (pa_cons (pe_ifExp (pt_cmpR op_ne (pv 6) pe_int (nomark _)) (pe_tup (pa_cons pe_str (pa_cons (pv 7) pa_nil))) (pe_ix ix_tup (pv 7) pe_int (fun _ _ => rfl))) pa_nil))) pa_nil))))) (pss_cons (ps_par3 (i := 8) (j := 9) (l := 10) (by rfl) nd rfl rfl rfl (by decide) (by decide) (by decide) rfl rfl rfl (pa_cons (pe_cal O__law_one (hr.mono (by omega)) W.g__law_one pass0 (pa_cons (pv 0) (pa_cons (pv 2) pa_nil))) (pa_cons (pe_cal O__law_one (hr.mono (by omega)) W.g__law_one pass0 (pa_cons (pv 0) (pa_cons (pv 1) pa_nil))) (pa_cons (pe_cal O__law_condition (hr.mono (by omega)) W.g__law_condition pass0 (pa_cons (pv 0) (pa_cons (pv 1) (pa_cons pe_int pa_nil)))) pa_nil))) (by rfl))
        (pss_one (ps_expr (pe_bm PySem.F.plainAttrs_list PySem.F.slot_list_append PySem.F.type_list_append mt_append (pv 4) (pa_cons (pe_tup (pa_cons pe_str (pa_cons (pv 8) (pa_cons (pv 9) (pa_cons (pe_ix ix_list (pe_lst (pa_cons (pe_tup (pa_cons pe_str (pa_cons (pv 9) pa_nil))) (pa_cons (pe_tup (pa_cons pe_str (pa_cons (pv 9) pa_nil))) (pa_cons (pe_tup (pa_cons pe_str pa_nil)) (pa_cons (pe_tup (pa_cons pe_str pa_nil)) (pa_cons (pv 10) pa_nil)))))) (pe_op op_sub (pv 6) pe_int) (fun _ _ => rfl)) pa_nil))))) pa_nil)))))))))
    (pss_cons (ps_if (PW.pt (pw_and (pt_cmpR op_gt (pe_callB call_len_seq (by rfl) W.f_len (by decide +kernel) (pa_cons (pv 4) pa_nil)) pe_int (nomark _)) (pw_and1 (pt_cmpR op_eq (pe_cal O__law_take (hr.mono (by omega)) W.g__law_take pass0 (pa_cons (pv 0) (pa_cons pe_int pa_nil))) pe_int (nomark _))))) (pss_one (ps_asg (pe_ix ix_list (pv 4) pe_int (fun _ _ => rfl)) (pg_sub (pv 4) (pe_un un_neg pe_int) set_list))) pss_nil)
    (pss_one (ps_ret (pv 4)))))), ?_⟩
  obtain ⟨b, c, ta, tS, na, nS, upto, rfl, hup, hB, hNa, hNs, hq⟩ := h
  refine ⟨by decide, fun L hL => ?_⟩
  have nLb : L ≠ b := (hB.ne hL).1
  have nLc : L ≠ c := (hB.ne hL).2
  have s1 := same_new (o := .lst []) hL
  have hL1 : upd H L (.lst []) L = some (.lst []) := upd_same
  have hB1 := hB.keep s1
  generalize upd H L (.lst []) = H1 at s1 hL1 hB1 ⊢
  have hNa1 := hNa.keep (.of s1)
  have hNs1 := hNs.keep (.of s1)
  have eu : ((upto : Nat) : Int) + 1 = ((upto + 1 : Nat) : Int) := by omega
  have un : ∀ {k : Nat} {A' : Around}, Room k A' → A'.units + 10 < cLine := fun r => Nat.lt_of_le_of_lt (Nat.add_le_add_left (by decide) _) r.units
  refine ⟨_, rfl, _, rfl, _, _, rfl, rfl, b, c, upto + 1, (congrArg (fun z => [V.ref b, V.int z]) eu), by omega, by omega, hB1, fun m H2 hm e2 hB2 => ⟨_, rfl, by omega, by omega, ?_⟩⟩
  refine for_range (lo := 0) (n := ((m : Nat) : Int).toNat) (fun i σ Hi => ∃ x5 x6 x7 x8 x9 x10, σ = [some (.ref b), some (.ref ta), some (.ref tS), some (.int (upto : Nat)), some (.ref L), x5, x6, x7, x8, x9, x10] ∧ TupK H1 Hi ∧ (∀ b' o, H b' = some o → b' ≠ b → Hi b' = some o) ∧ Bag Hi b c ∧ ∃ us, Hi L = some (.lst us) ∧ us.length = i ∧ ∀ v ∈ us, ∃ f, FAt Hi f v ∧ FewF f)
    ⟨_, _, _, _, _, _, rfl, hB1.tup e2, fun b' o h n => e2 _ _ (s1 _ _ h) n, hB2, [], e2 _ _ hL1 nLb, rfl, fun _ z => (nomatch z)⟩ ?_ ?_
  · rintro i σ Hi hi ⟨x5, x6, x7, x8, x9, x10, rfl, si, si2, hBi, us, hLi, hul, hus⟩
    have hNai := hNa1.keep si
    have hNsi := hNs1.keep si
    -- a fact more
    have more : ∀ (Hj H7 : Hp) (σ7 : L2.St) (T : Addr) (f : M.Fact), SameB b Hi Hj → Bag Hj b c → Same Hj H7 → FAt H7 f (.ref T) → FewF f → (∃ x5 x6 x7 x8 x9 x10, σ7 = [some (.ref b), some (.ref ta), some (.ref tS), some (.int (upto : Nat)), some (.ref L), x5, x6, x7, x8, x9, x10]) →
        rAppend (.ref L) [.ref T] H7 fun _ H8 => ∃ x5 x6 x7 x8 x9 x10, σ7 = [some (.ref b), some (.ref ta), some (.ref tS), some (.int (upto : Nat)), some (.ref L), x5, x6, x7, x8, x9, x10] ∧ TupK H1 H8 ∧ (∀ b' o, H b' = some o → b' ≠ b → H8 b' = some o) ∧ Bag H8 b c ∧ ∃ us, H8 L = some (.lst us) ∧ us.length = i + 1 ∧ ∀ v ∈ us, ∃ f, FAt H8 f v ∧ FewF f := by
      intro Hj H7 σ7 T f ej hBj e7 hf hff ⟨y5, y6, y7, y8, y9, y10, hσ⟩
      have hL7 := e7 _ _ (ej _ _ hLi nLb)
      have tk8 : TupK H7 (upd H7 L (.lst (us ++ [.ref T]))) := (TupK.refl H7).mut hL7 (fun xs q => nomatch q)
      have tki7 : TupK Hi H7 := (hBi.tup ej).trans (.of e7)
      refine ⟨L, us, _, rfl, rfl, hL7, Nat.lt_of_lt_of_le (show us.length < 1000000 by omega) (by decide), y5, y6, y7, y8, y9, y10, hσ, si.trans (tki7.trans tk8), fun b' o h n => ?_, (hBj.keep e7).put nLb nLc, us ++ [.ref T], upd_same, by rw [List.length_append, hul]; rfl, fun v hv => ?_⟩
      · rw [upd_ne (fun z => by rw [z, hL] at h; cases h)]
        exact e7 _ _ (ej _ _ (si2 _ _ h n) n)
      · rcases List.mem_append.mp hv with hv | hv
        · obtain ⟨g, h1, h2⟩ := hus v hv
          exact ⟨g, h1.keep (tki7.trans tk8), h2⟩
        · rw [List.mem_singleton.mp hv]
          exact ⟨f, hf.keep tk8, hff⟩
    dsimp only [gName]
    refine ⟨_, rfl, b, c, 7, rfl, by decide, by decide, hBi, fun way H3 hway e3 hB3 => ?_⟩
    have hNa3 := hNai.keep (hBi.tup e3)
    have hNs3 := hNsi.keep (hBi.tup e3)
    dsimp only [gName]
    refine tif_cont (fun H' => Same H3 H') (fun H' => Same H3 H' ∧ 2 ≤ way ∧ na ≠ [] ∧ nS ≠ []) (fun R hT hF => ?_) (fun H4 e4 => ?_) (fun H4 ⟨e4, h2, hna, hns⟩ => ?_)
    · refine ⟨_, rfl, _, _, rfl, rfl, _, rfl, ?_⟩
      by_cases h2 : way < 2
      · exact iteE true (decide_eq_true (by omega)) (iteT (hT _ (.refl _)))
      refine iteE false (decide_eq_false (by omega)) (iteF ?_)
      refine ⟨_, rfl, by decide, fun p hp => ⟨hr.units0, ta, p, _, rfl, rfl, .inr ⟨sqt (same_new hp _ _ hNa3.1), sqt upd_same⟩, _, rfl, ?_⟩⟩
      by_cases h3 : na = []
      · exact iteE true (by rw [h3]; rfl) (iteT (hT _ (same_new hp)))
      refine iteE false (by cases na with | nil => exact absurd rfl h3 | cons => rfl) (iteF ?_)
      refine ⟨_, rfl, by decide, fun p2 hp2 => ⟨hr.units0, tS, p2, _, rfl, rfl, .inr ⟨sqt (same_new hp2 _ _ (same_new hp _ _ hNs3.1)), sqt upd_same⟩, _, rfl, ?_⟩⟩
      by_cases h4 : nS = []
      · have e : id (sV nS).isEmpty = true := by rw [h4]; rfl
        rw [e]
        exact hT _ ((same_new hp).trans (same_new hp2))
      · have e : id (sV nS).isEmpty = false := by
          cases nS with
          | nil => exact absurd rfl h4
          | cons => rfl
        rw [e]
        exact hF _ ⟨(same_new hp).trans (same_new hp2), by omega, h3, h4⟩
    · -- always
      have hB4 := hB3.keep e4
      have hNa4 := hNa3.keep (.of e4)
      refine ⟨_, rfl, _, rfl, b, c, ta, na, rfl, hB4, hNa4, fun v1 c1 H5 e5 hB5 hc1 => ⟨_, rfl, _, rfl, b, c, ta, na, rfl, hB5, hNa4.keep (hB4.tup e5), fun v2 c2 H6 e6 hB6 hc2 => ⟨by show 2 ≤ sizeLine; decide, fun ts hts => ?_⟩⟩⟩
      have e7 := same_new (o := .tup [v1, v2]) hts
      have hts7 : upd H6 ts (.tup [v1, v2]) ts = some (.tup [v1, v2]) := upd_same
      have a1 := (hc1.1.keep (hB5.tup e6)).keep (.of e7)
      have a2 := hc2.1.keep (.of e7)
      generalize upd H6 ts (.tup [v1, v2]) = H7 at e7 hts7 a1 a2 ⊢
      have ej : SameB b Hi H6 := e3.trans ((SameB.of e4).trans (e5.trans e6))
      obtain ⟨_, w1, o1, l1⟩ := hc1
      obtain ⟨_, w2, o2, l2⟩ := hc2
      have c01 : cO 1 = 5 := rfl
      have c02 : cL 1 = 36 := rfl
      rw [c01] at o1 o2
      rw [c02] at l1 l2
      dsimp only [gName]
      refine ⟨_, rfl, .inl ⟨rfl, _, sql (e7 _ _ (ej _ _ hLi nLb))⟩, ?_⟩
      dsimp only [tCons, tTup, tNil, tC]
      refine te_cont (R := fun v H' => ∃ x, Same H7 H' ∧ CAt H' x v ∧ x.wf ∧ M.om x.sh ≤ 20 ∧ x.sh.length ≤ 100) (fun Q' hQ' => ?_) fun v H8 ⟨x, e8, hx, hw, ho, hl⟩ => ?_
      · refine ⟨_, rfl, rfl, _, rfl, ?_⟩
        by_cases h0 : way = 0
        · refine iteE false (by rw [h0] <;> rfl) (iteF ⟨_, rfl, ts, _, _, _, rfl, rfl, sqt hts7, at0, hQ' _ _ ⟨c1, .refl _, a1, w1, by omega, by omega⟩⟩)
        · refine iteE true ?_ (iteT ⟨_, rfl, by show 2 ≤ sizeLine; decide, fun t1 ht1 => hQ' _ _ ⟨.many false [c1, c2], same_new ht1, ?_, ?_, ?_, ?_⟩⟩)
          · rw [decide_eq_false (fun z => h0 (by injection z with z; omega))]
            rfl
          · unfold CAt
            exact ⟨t1, ts, [v1, v2], rfl, by rw [upd_same, sq "any"]; rfl, same_new ht1 _ _ hts7, cAtL_iff.mpr ⟨a1.keep (.of (same_new ht1)), a2.keep (.of (same_new ht1)), trivial⟩⟩
          · exact (M.wfC_iff [c1, c2]).mpr fun z hz => by
              rcases List.mem_cons.mp hz with rfl | hz
              · exact w1
              · rw [List.mem_singleton.mp hz]
                exact w2
          · show M.om (M.q "any" ++ (M.q "(" ++ ((c1.sh ++ (M.q ", " ++ c2.sh)) ++ M.q ")"))) ≤ 20
            simp only [M.om_app]
            have q1 : M.om (M.q "any") = 0 := by decide
            have q2 : M.om (M.q "(") = 3 := by decide
            have q3 : M.om (M.q ", ") = 1 := by decide
            have q4 : M.om (M.q ")") = 0 := by decide
            omega
          · show (M.q "any" ++ (M.q "(" ++ ((c1.sh ++ (M.q ", " ++ c2.sh)) ++ M.q ")"))).length ≤ 100
            simp only [List.length_append]
            have q1 : (M.q "any").length = 3 := by decide
            have q2 : (M.q "(").length = 1 := by decide
            have q3 : (M.q ", ").length = 2 := by decide
            have q4 : (M.q ")").length = 1 := by decide
            omega
      · refine ⟨by show 2 ≤ sizeLine; decide, fun T hT => ?_⟩
        refine more H6 _ _ T (.alw x) ej hB6 (HL.Same.new (e7.trans e8) hT) ⟨T, v, rfl, by rw [upd_same, sq "always"], hx.keep (.of (same_new hT))⟩ ⟨hw, ?_, ?_⟩ ⟨_, _, _, _, _, _, rfl⟩
        · rw [alS_sh, M.om_app, show M.om (M.q "always ") = 1 by decide]
          omega
        · rw [alS_sh, List.length_append, show (M.q "always ").length = 7 by decide]
          omega
    · -- makes
      have hB4 := hB3.keep e4
      have hNa4 := hNa3.keep (.of e4)
      have hNs4 := hNs3.keep (.of e4)
      refine ⟨_, rfl, _, rfl, one_name (E := L2.E0) hB4 hNs4 hns fun n1 hn1 H5 e5 hB5 => ⟨_, rfl, _, rfl, one_name (E := L2.E0) hB5 (hNa4.keep (hB4.tup e5)) hna fun n2 hn2 H6 e6 hB6 => ⟨_, rfl, _, rfl, b, c, ta, na, rfl, hB6, hNa4.keep ((hB4.tup e5).trans (hB5.tup e6)), fun v x H7 e7 hB7 hx => ⟨_, _, _, rfl, ?_⟩⟩⟩⟩
      have ej : SameB b Hi H7 := e3.trans ((SameB.of e4).trans (e5.trans (e6.trans e7)))
      obtain ⟨hAt, hw, ho, hl⟩ := hx
      have c01 : cO 1 = 5 := rfl
      have c02 : cL 1 = 36 := rfl
      rw [c01] at ho
      rw [c02] at hl
      have s2 := hn2.most
      have s1' := hn1.most
      refine ⟨_, rfl, .inl ⟨rfl, _, sql (ej _ _ hLi nLb)⟩, _, rfl, _, rfl, _, rfl, by show 2 ≤ sizeLine; decide, fun a1 h1 => ⟨_, rfl, by show 2 ≤ sizeLine; decide, fun a2 h2' => ⟨by show 1 ≤ sizeLine; decide, fun a3 h3 => ⟨by show 1 ≤ sizeLine; decide, fun a4 h4 => ⟨_, rfl, by show 5 ≤ sizeLine; decide, fun ll hll => ?_⟩⟩⟩⟩⟩
      have k1 := same_new (o := .tup [V.str (Str.ofString "ask"), .str (S n2)]) h1
      have k2 := same_new (o := .tup [V.str (Str.ofString "ask"), .str (S n2)]) h2'
      have k3 := same_new (o := .tup [V.str (Str.ofString "yes")]) h3
      have k4 := same_new (o := .tup [V.str (Str.ofString "no")]) h4
      have k5 := same_new (o := .lst [V.ref a1, .ref a2, .ref a3, .ref a4, v]) hll
      have m1 := k5 _ _ (k4 _ _ (k3 _ _ (k2 _ _ (upd_same (H := H7) (a := a1) (o := .tup [V.str (Str.ofString "ask"), .str (S n2)])))))
      have m2 := k5 _ _ (k4 _ _ (k3 _ _ (upd_same (H := upd H7 a1 (.tup [V.str (Str.ofString "ask"), .str (S n2)])) (a := a2) (o := .tup [V.str (Str.ofString "ask"), .str (S n2)]))))
      have m3 := k5 _ _ (k4 _ _ (upd_same (H := upd (upd H7 a1 (.tup [V.str (Str.ofString "ask"), .str (S n2)])) a2 (.tup [V.str (Str.ofString "ask"), .str (S n2)])) (a := a3) (o := .tup [V.str (Str.ofString "yes")])))
      have m4 := k5 _ _ (upd_same (H := upd (upd (upd H7 a1 (.tup [V.str (Str.ofString "ask"), .str (S n2)])) a2 (.tup [V.str (Str.ofString "ask"), .str (S n2)])) a3 (.tup [V.str (Str.ofString "yes")])) (a := a4) (o := .tup [V.str (Str.ofString "no")]))
      have m5 : upd (upd (upd (upd (upd H7 a1 (.tup [V.str (Str.ofString "ask"), .str (S n2)])) a2 (.tup [V.str (Str.ofString "ask"), .str (S n2)])) a3 (.tup [V.str (Str.ofString "yes")])) a4 (.tup [V.str (Str.ofString "no")])) ll (.lst [V.ref a1, .ref a2, .ref a3, .ref a4, v]) ll = some (.lst [V.ref a1, .ref a2, .ref a3, .ref a4, v]) := upd_same
      have k := k1.trans (k2.trans (k3.trans (k4.trans k5)))
      generalize upd (upd (upd (upd (upd H7 a1 (.tup [V.str (Str.ofString "ask"), .str (S n2)])) a2 (.tup [V.str (Str.ofString "ask"), .str (S n2)])) a3 (.tup [V.str (Str.ofString "yes")])) a4 (.tup [V.str (Str.ofString "no")])) ll (.lst [V.ref a1, .ref a2, .ref a3, .ref a4, v]) = H8 at m1 m2 m3 m4 m5 k ⊢
      have key : ∃ v0 x0, atI [V.ref a1, .ref a2, .ref a3, .ref a4, v] ((way : Int) - 2) = some v0 ∧ CAt H8 x0 v0 ∧ x0.wf ∧ M.om x0.sh ≤ 20 ∧ x0.sh.length ≤ 100 := by
        have hask : ∀ a, H8 a = some (.tup [V.str (Str.ofString "ask"), .str (S n2)]) → CAt H8 (.ask n2) (.ref a) := fun a h => by
          unfold CAt
          exact ⟨a, rfl, by rw [h, sq "ask"]⟩
        have hom : M.om (M.Cond.ask n2).sh ≤ 20 := by
          show M.om (M.q "?" ++ n2) ≤ 20
          rw [M.om_app, nm_om hn2.all, show M.om (M.q "?") = 0 by decide]
          decide
        have hln : (M.Cond.ask n2).sh.length ≤ 100 := by
          show (M.q "?" ++ n2).length ≤ 100
          rw [List.length_append, show (M.q "?").length = 1 by decide]
          omega
        have h5 : way = 2 ∨ way = 3 ∨ way = 4 ∨ way = 5 ∨ way = 6 := by omega
        rcases h5 with rfl | rfl | rfl | rfl | rfl
        · exact ⟨_, .ask n2, rfl, hask _ m1, hn2, hom, hln⟩
        · exact ⟨_, .ask n2, rfl, hask _ m2, hn2, hom, hln⟩
        · refine ⟨_, .word true, rfl, ?_, trivial, by decide, by decide⟩
          unfold CAt
          exact ⟨a3, rfl, by rw [m3, sq "yes"]; rfl⟩
        · refine ⟨_, .word false, rfl, ?_, trivial, by decide, by decide⟩
          unfold CAt
          exact ⟨a4, rfl, by rw [m4, sq "no"]; rfl⟩
        · exact ⟨_, x, rfl, hAt.keep (.of k), hw, by omega, by omega⟩
      obtain ⟨v0, x0, h0, hAt0, hw0, ho0, hl0⟩ := key
      refine ⟨_, rfl, _, _, rfl, rfl, ll, _, _, _, rfl, rfl, sql m5, h0, by show 4 ≤ sizeLine; decide, fun T hT => ?_⟩
      refine more H7 _ _ T (.mk n1 n2 x0) ej hB7 (HL.Same.new k hT) ⟨T, v0, rfl, by rw [upd_same, sq "makes"], hAt0.keep (.of (same_new hT))⟩ ⟨⟨hn1, hn2, hw0⟩, ?_, ?_⟩ ⟨_, _, _, _, _, _, rfl⟩
      · show M.om (M.mkS n1 n2 x0.sh) ≤ 40
        unfold M.mkS
        simp only [M.om_app, nm_om hn1.all, nm_om hn2.all]
        have q1 : M.om (M.q "makes") = 0 := by decide
        have q2 : M.om (M.q " ") = 1 := by decide
        omega
      · show (M.mkS n1 n2 x0.sh).length ≤ 400
        unfold M.mkS
        simp only [List.length_append]
        have q1 : (M.q "makes").length = 5 := by decide
        have q2 : (M.q " ").length = 1 := by decide
        omega
  · rintro σ Hi ⟨x5, x6, x7, x8, x9, x10, rfl, si, si2, hBi, us, hLi, hul, hus⟩
    have hul : us.length = m := by simpa using hul
    dsimp only
    refine seq_cont (fun σ' H' => σ' = [some (.ref b), some (.ref ta), some (.ref tS), some (.int (upto : Nat)), some (.ref L), x5, x6, x7, x8, x9, x10] ∧ (∀ b' o, H b' = some o → b' ≠ b → H' b' = some o) ∧ Bag H' b c ∧ ∃ us, H' L = some (.lst us) ∧ us.length = m ∧ ∀ v ∈ us, ∃ f, FAt H' f v ∧ FewF f) (fun N hN => ?_) (fun σ' H' ⟨hσ, s2', hB', us', hL', hul', hus'⟩ => ?_)
    · refine tif_cont (fun H' => SameB b Hi H' ∧ Bag H' b c ∧ 1 < us.length) (fun H' => SameB b Hi H' ∧ Bag H' b c) (fun R hT hF => ?_) (fun H4 ⟨e4, hB4, hg⟩ => ?_) (fun H4 ⟨e4, hB4⟩ => ?_)
      · refine ⟨_, rfl, L, _, rfl, .inl (sql hLi), _, _, rfl, rfl, _, rfl, ?_⟩
        by_cases hg : 1 < us.length
        · refine iteE true (decide_eq_true (by omega)) (iteT ⟨_, rfl, b, c, 6, rfl, by decide, by decide, hBi, fun n H3 hn e3 hB3 => ⟨rfl, _, rfl, ?_⟩⟩)
          cases hd : decide (V.int (n : Nat) = V.int 0) with
          | true => exact hT _ ⟨e3, hB3, hg⟩
          | false => exact hF _ ⟨e3, hB3⟩
        · exact iteE false (decide_eq_false (by omega)) (iteF (hF _ ⟨.refl _ _, hBi⟩))
      · have hL4 := e4 _ _ hLi nLb
        obtain ⟨u0, hu0⟩ : ∃ u0, us[0]? = some u0 := ⟨_, List.getElem?_eq_getElem (by omega)⟩
        have ix : ixN us.length (-1) = some (us.length - 1) := by
          unfold ixN
          rw [if_neg (by decide), if_pos (by omega)]
          congr 1
          omega
        refine ⟨_, rfl, L, _, _, u0, rfl, rfl, sql hL4, (show atI us ((0 : Nat) : Int) = some u0 from atI_nat hu0), _, rfl, 1, rfl, L, us, -1, us.length - 1, rfl, rfl, hL4, ix, ?_⟩
        have tk5 : TupK H4 (upd H4 L (.lst (us.set (us.length - 1) u0))) := (TupK.refl H4).mut hL4 (fun xs q => nomatch q)
        refine hN _ _ ⟨rfl, fun b' o h n => ?_, hB4.put nLb nLc, _, upd_same, by rw [List.length_set, hul], fun v hv => ?_⟩
        · rw [upd_ne (fun z => by rw [z, hL] at h; cases h)]
          exact e4 _ _ (si2 _ _ h n) n
        · have hv2 : v ∈ us := by
            rcases List.mem_or_eq_of_mem_set hv with h | h
            · exact h
            · rw [h]
              exact List.mem_of_getElem? hu0
          obtain ⟨g, h1, h2⟩ := hus v hv2
          exact ⟨g, h1.keep ((hBi.tup e4).trans tk5), h2⟩
      · exact hN _ _ ⟨rfl, fun b' o h n => e4 _ _ (si2 _ _ h n) n, hB4, us, e4 _ _ hLi nLb, hul, fun v hv => let ⟨g, h1, h2⟩ := hus v hv; ⟨g, h1.keep (hBi.tup e4), h2⟩⟩
    · subst hσ
      exact ⟨_, rfl, hq L us' H' s2' hB' hL hL' (by omega) hus'⟩
end
end K93
end

section
set_option Elab.async false
set_option linter.all false
set_option maxRecDepth 100000
set_option maxHeartbeats 4000000
/-! k93: lines bent. -/
namespace K93
open PySem PySem.Spec PyProof.Rows L2 He HL
section
variable {w : World} {K : PySem.W.Frag} {mg : Str → Option Value} {base : Heap}
abbrev n_law_mixed : List Str := ["_law_bag_here", "_law_things", "_law_found", "_law_thing"]
theorem sc_law_mixed : FnScope n_law_mixed ["_law_bag_here", "_law_things"] (defScope s_law_mixed) := ⟨rfl, rfl, rfl, by decide +kernel, rfl, by decide +kernel, by decide +kernel⟩
theorem bi_law_mixed : ∀ (kV doc pm : Value) (an : Option Addr) (cdv ct : Value) (us : List Value), us.length = 2 → bindArgs (PySem.W.fnOf d_law_mixed.name d_law_mixed.qual d_law_mixed.params d_law_mixed.body d_law_mixed.scope .none kV doc pm an cdv ct) ⟨us, []⟩ = pure ([("_law_bag_here" : Str), ("_law_things" : Str)].zip us) := fun kV doc pm an cdv ct us hu => by
  match us, hu with
  | [u0, u1], _ => rfl
def spMixed (K : PySem.W.Frag) : Sp := fun vs H Q _ => ∃ b c l xs, vs = [.ref b, .ref l] ∧ Bag H b c ∧ H l = some (.lst xs) ∧ l ≠ b ∧ xs.length ≤ 100000 ∧ ∀ m ys H', SameB b H H' → Bag H' b c → H m = none → H' m = some (.lst ys) → ys.Perm xs → Q (.ref m) H'
theorem o_mixed (W : Wl K mg) : OkD w K mg base CX0 2 d_law_mixed ["_law_bag_here", "_law_things"] (spMixed K) := by
  have O__law_take := o_take (w := w) (base := base) W
  refine HL.ok_of0 W.D_law_mixed sc_law_mixed (fun vs H Q E ⟨_, _, _, _, h, _⟩ => by rw [h]; rfl) bi_law_mixed fun cdv A outer s H vs Q E hr h => ?_
  have nd := sc_law_mixed.nd
  refine ⟨_, (pss_cons (ps_set (i := 2) nd rfl (Or.inl rfl) (pe_lst pa_nil))
    (pss_cons (ps_for PassesOwn.never rfl (pi_list (pv 1)) (pg_name (i := 3) nd rfl (Or.inl rfl)) (pss_one (ps_expr (pe_bm PySem.F.plainAttrs_list PySem.F.slot_list_insert PySem.F.type_list_insert mt_insert (pv 2) (pa_cons (pe_cal O__law_take (hr.mono (by omega)) W.g__law_take pass0 (pa_cons (pv 0) (pa_cons (pe_op op_add (pe_callB call_len_seq (by rfl) W.f_len (by decide +kernel) (pa_cons (pv 2) pa_nil)) pe_int) pa_nil))) (pa_cons (pv 3) pa_nil))))))
    (pss_one (ps_ret (pv 2))))), ?_⟩
  obtain ⟨b, c, l, xs, rfl, hB, hl, nl, hxl, hq⟩ := h
  refine ⟨by decide, fun L hL => ?_⟩
  have nLb : L ≠ b := (hB.ne hL).1
  have nLc : L ≠ c := (hB.ne hL).2
  have nLl : L ≠ l := (ne_of_none hl hL).symm
  have s1 := same_new (o := .lst []) hL
  have hL1 : upd H L (.lst []) L = some (.lst []) := upd_same
  have hB1 := hB.keep s1
  generalize upd H L (.lst []) = H1 at s1 hL1 hB1 ⊢
  dsimp only [gName]
  refine ⟨_, rfl, l, rfl, ⟨_, sql (s1 _ _ hl)⟩, for_list (xs := xs) (fun i σ Hi => ∃ x3, σ = [some (.ref b), some (.ref l), some (.ref L), x3] ∧ (∀ b' o, H b' = some o → b' ≠ b → Hi b' = some o) ∧ Bag Hi b c ∧ ∃ ys, Hi L = some (.lst ys) ∧ ys.Perm (xs.take i)) ⟨none, rfl, fun b' o h _ => s1 _ _ h, hB1, [], hL1, .refl _⟩ ?_ ?_ ?_⟩
  · rintro i σ Hi _ ⟨x3, rfl, si, _⟩
    exact sql (si _ _ hl nl)
  · rintro i x σ Hi hx ⟨x3, rfl, si, hBi, ys, hLi, hys⟩
    have hi : i < xs.length := (List.getElem?_eq_some_iff.mp hx).1
    have hyl : ys.length = i := by
      rw [hys.length_eq, List.length_take]
      omega
    dsimp only [gName]
    refine ⟨_, rfl, .inl ⟨rfl, _, sql hLi⟩, _, rfl, _, rfl, L, _, rfl, .inl (sql hLi), _, _, rfl, rfl, b, c, ys.length + 1, rfl, by omega, by omega, hBi, fun k H2 hk e2 hB2 => ⟨_, rfl, L, ys, (k : Nat), x, rfl, rfl, e2 _ _ hLi nLb, Nat.lt_of_lt_of_le (show ys.length < 1000000 by omega) (by decide), by omega, ?_, ?_⟩⟩
    · exact Int.lt_of_le_of_lt (show ((k : Nat) : Int) ≤ 1000000 by omega) (by decide)
    · refine ⟨_, rfl, fun b' o h n => ?_, hB2.put nLb nLc, _, upd_same, ?_⟩
      · rw [upd_ne (fun z => by rw [z, hL] at h; cases h)]
        exact e2 _ _ (si _ _ h n) n
      · rw [HL.take_succ' hx, Int.toNat_natCast]
        have p1 : (ys.take k ++ [x] ++ ys.drop k).Perm (ys ++ [x]) := by
          have e0 : ys ++ [x] = (ys.take k ++ ys.drop k) ++ [x] := by rw [List.take_append_drop]
          rw [e0, List.append_assoc, List.append_assoc]
          exact List.Perm.append_left _ List.perm_append_comm
        exact p1.trans (List.Perm.append_right _ hys)
  · rintro σ Hi ⟨x3, rfl, si, hBi, ys, hLi, hys⟩
    rw [List.take_length] at hys
    exact ⟨_, rfl, hq L ys Hi si hBi hL hLi hys⟩
end
end K93
end

section
set_option Elab.async false
set_option linter.all false
set_option maxRecDepth 100000
set_option maxHeartbeats 4000000
/-! xs.extend(t), t a tuple. -/
namespace XP
open PySem PySem.Spec PyProof.Rows L2

theorem ext_tup (l : Addr) (items : Array Value) (n : Nat) (b : Addr) (items2 : Array Value) (n2 : Nat) (dd : Option Addr) (sl : Array (Option Value)) (hs0 : ¬(!items.isEmpty && Builtin.List.listTooLong (items.size + items2.size)) = true) (hs1 : items.size ≤ sizeLine) (hs2 : items.size + items2.size ≤ sizeLine + 1) :
    Meets (Builtin.«list.extend» ⟨[.ref l, .ref b], []⟩) (fun _ R s => s.heap.get? l = some { cls := .type "list", dict := none, data := .seq items n, slots := #[] } ∧ s.heap.get? b = some { cls := .type "tuple", dict := dd, data := .seq items2 n2, slots := sl } ∧ R (.ok (.ret Value.none)) { s with heap := s.heap.update l (Obj.mapSeq fun x => x ++ items2), toks := s.toks }) :=
  .of_wp fun prog w A R s h => by
    obtain ⟨hp, g, d, tk, os⟩ := s
    obtain ⟨hl, hb, h⟩ := h
    have f1 := PySem.AutoSeq1.idx_int
    have f2 := PySem.AutoSeq1.sub_tuple_tuple
    have f3 := PySem.AutoSeq1.sub_list_list
    have f4 := PySem.AutoSeq1.sub_tuple_list
    have f5 := PySem.AutoSeq1.sub_list_tuple
    have hz' : (items ++ items2).size ≤ sizeLine + 1 := by rw [Array.size_append]; exact hs2
    wp_walk using (wpAny_updateSeq hl rfl (hz := hs1) (_hz' := hz')), PySem.AutoSeq1.wpAny_loadPart' hl, PySem.AutoSeq1.wpAny_loadPart' hb; exact ⟨_, rfl, h⟩
section
variable {X : Cx}
def rExtT (K : PySem.W.Frag) : V → List V → Hp → VK → Prop := fun x vs H Q => ∃ l b xs zs, x = .ref l ∧ vs = [.ref b] ∧ H l = some (.lst xs) ∧ SqT K H b zs ∧ xs.length + zs.length ≤ sizeLine ∧ Q .non (upd H l (.lst (xs ++ zs)))
theorem mt_extT : MtM X "list.extend" (rExtT X.K) := by
  intro pins s σ H x vs v us Q I rx rv h
  obtain ⟨l, b, xs, zs, rfl, rfl, hH, hB, hz, q⟩ := h
  cases rx
  obtain ⟨u, rfl, ru⟩ := rv.one
  cases ru
  obtain ⟨z, its, n, r, hl, e⟩ := I.lstM hH
  obtain ⟨its2, r2, ⟨o2, ho2, hc2, n2, hd2⟩, hl2⟩ := I.tuple hB
  obtain ⟨c2, d2, dt2, sl2⟩ := o2
  have hc2 : c2 = .type "tuple" := hc2
  have hd2 : dt2 = .seq its2.toArray n2 := hd2
  subst hc2 hd2
  have er2 := r2.length
  have hsz : its.toArray.size + its2.toArray.size ≤ sizeLine := by rw [List.size_toArray, List.size_toArray]; omega
  have hlong : ¬ (!its.toArray.isEmpty && Builtin.List.listTooLong (its.toArray.size + its2.toArray.size)) = true := by
    rw [notLongL hsz, Bool.and_false]
    exact Bool.false_ne_true
  refine call_meets F.slot_list_extend ⟨_, e, rfl⟩ F.entry_list_extend (F.args_list_extend_2 _ _)
    (ext_tup l its.toArray n b its2.toArray n2 d2 sl2 hlong (by rw [List.size_toArray]; omega) (by omega)) ⟨e, ho2, ?_⟩
  refine ⟨.non, _, I.lset (its' := its ++ its2) hH e (by simp) (r.append r2) ?_, rfl, q⟩
  rw [List.length_append]
  omega
end
end XP
end

section
set_option Elab.async false
set_option linter.all false
set_option maxRecDepth 100000
set_option maxHeartbeats 4000000
/-! k93: the law's asks, its texts of Facts. -/
namespace K93
open PySem PySem.Spec PyProof.Rows L2 He HL
theorem flat_many' : ∀ cs : List M.Cond, (cs.map fun c => c.askL).flatten = M.askLs cs
  | [] => by
    unfold M.askLs
    rfl
  | c :: cs => by
    unfold M.askLs
    rw [List.map_cons, List.flatten_cons, flat_many' cs]
theorem flat_subs' {c : M.Cond} (h : ∀ n, c ≠ .ask n) : ((subsC c).map fun c => c.askL).flatten = c.askL := by
  cases c with
  | word b =>
    unfold M.Cond.askL
    rfl
  | ask n => exact absurd rfl (h n)
  | neg c1 =>
    have e : (M.Cond.neg c1).askL = c1.askL := by rw [M.Cond.askL]
    rw [e]
    show ([c1].map fun c => c.askL).flatten = _
    simp
  | many b cs =>
    have e : (M.Cond.many b cs).askL = M.askLs cs := by rw [M.Cond.askL]
    rw [e]
    exact flat_many' cs
section
variable {w : World} {K : PySem.W.Frag} {mg : Str → Option Value} {base : Heap}
abbrev n_law_asks_in : List Str := ["_law_condition_here", "_law_some", "_law_found", "_law_one_here"]
theorem sc_law_asks_in : FnScope n_law_asks_in ["_law_condition_here"] (defScope s_law_asks_in) := ⟨rfl, rfl, rfl, by decide +kernel, rfl, by decide +kernel, by decide +kernel⟩
theorem bi_law_asks_in : ∀ (kV doc pm : Value) (an : Option Addr) (cdv ct : Value) (us : List Value), us.length = 1 → bindArgs (PySem.W.fnOf d_law_asks_in.name d_law_asks_in.qual d_law_asks_in.params d_law_asks_in.body d_law_asks_in.scope .none kV doc pm an cdv ct) ⟨us, []⟩ = pure ([("_law_condition_here" : Str)].zip us) := fun kV doc pm an cdv ct us hu => by
  match us, hu with
  | [u0], _ => rfl
def spLAsks (n : Nat) : Sp := fun vs H Q _ => ∃ v c, vs = [v] ∧ CAt H c v ∧ M.om c.sh < n ∧ M.om c.sh ≤ 60 ∧ c.sh.length ≤ 300000 ∧ ∀ t ys H', Same H H' → H' t = some (.tup (sV ys)) → (∀ k, k ∈ ys ↔ k ∈ c.askL) → ys.length ≤ c.askL.length → Q (.ref t) H'
theorem o_lasks (W : Wl K mg) : ∀ (n L : Nat), (n = 0 → 1 ≤ L) → (0 < n → n + 1 ≤ L) → OkD w K mg base CX0 L d_law_asks_in ["_law_condition_here"] (spLAsks n) := by
  intro n
  induction n with
  | zero =>
    intro L h0 h1
    obtain ⟨k, rfl⟩ : ∃ k, L = k + 1 := ⟨L - 1, by have := h0 rfl; omega⟩
    exact o_vac W.D_law_asks_in sc_law_asks_in bi_law_asks_in fun vs H Q E ⟨v, c, _, _, z, _⟩ => by omega
  | succ n ih =>
  intro L h0 h1
  obtain ⟨k, rfl⟩ : ∃ k, L = k + 1 := ⟨L - 1, by have := h1 (by omega); omega⟩
  have hk : n + 1 ≤ k := by have := h1 (by omega); omega
  have O__law_asks_in := ih k (fun _ => by omega) (fun _ => by omega)
  refine HL.ok_of0 W.D_law_asks_in sc_law_asks_in (fun vs H Q E ⟨_, _, h, _⟩ => by rw [h]; rfl) bi_law_asks_in fun cdv A outer s H vs Q E hr h => ?_
  have nd := sc_law_asks_in.nd
  refine ⟨_, (pss_cons (ps_if (pt_cmpR op_eq (pe_ix ix_tup (pv 0) pe_int (fun _ _ => rfl)) pe_str (nomark _)) (pss_one (ps_ret (pe_tup (pa_cons (pe_ix ix_tup (pv 0) pe_int (fun _ _ => rfl)) pa_nil)))) pss_nil)
    (pss_cons (ps_set (i := 1) nd rfl (Or.inl rfl) (pe_ifExp (pt_cmpR op_eq (pe_ix ix_tup (pv 0) pe_int (fun _ _ => rfl)) pe_str (nomark _)) (pe_lst (pa_cons (pe_ix ix_tup (pv 0) pe_int (fun _ _ => rfl)) pa_nil)) (pe_ifExp (pt_cmpR op_in_seq (pe_ix ix_tup (pv 0) pe_int (fun _ _ => rfl)) (pe_tup (pa_cons pe_str (pa_cons pe_str pa_nil))) (by rfl)) (pe_callTy call_list_of (by rfl) W.f_list (by decide +kernel) (pa_cons (pe_ix ix_tup (pv 0) pe_int (fun _ _ => rfl)) pa_nil)) (pe_lst pa_nil))))
    (pss_cons (ps_set (i := 2) nd rfl (Or.inl rfl) (pe_lst pa_nil))
    (pss_cons (ps_for PassesOwn.never rfl (pi_list (pv 1)) (pg_name (i := 3) nd rfl (Or.inl rfl)) (pss_one (ps_expr (pe_bm PySem.F.plainAttrs_list PySem.F.slot_list_extend PySem.F.type_list_extend XP.mt_extT (pv 2) (pa_cons (pe_cal O__law_asks_in (hr.mono (by omega)) W.g__law_asks_in pass0 (pa_cons (pv 3) pa_nil)) pa_nil)))))
    (pss_one (ps_ret (pe_callTy call_tuple_of (by rfl) W.f_tuple (by decide +kernel) (pa_cons (XS.pe_sortSetL rfl (by rfl) W.f_sorted (by rfl) W.f_set (pv 2)) pa_nil)))))))), ?_⟩
  obtain ⟨v, c, rfl, hc, hom, h60, hlen, hq⟩ := h
  by_cases hask : ∃ x, c = .ask x
  · obtain ⟨x, rfl⟩ := hask
    unfold CAt at hc
    obtain ⟨a, rfl, ha⟩ := hc
    refine ⟨_, rfl, a, _, _, _, rfl, rfl, sqt ha, at0, rfl, _, rfl, ?_⟩
    rw [sq "ask", dec_S]
    refine iteE true (by decide) (iteT ⟨_, rfl, a, _, _, _, rfl, rfl, sqt ha, at1, by show 1 ≤ sizeLine; decide, fun t ht => hq t [x] _ (same_new ht) ?_ (fun k => ?_) ?_⟩)
    · rw [upd_same]
      rfl
    · unfold M.Cond.askL
      exact Iff.rfl
    · unfold M.Cond.askL
      exact Nat.le_refl _
  have hask : ∀ x, c ≠ .ask x := fun x z => hask ⟨x, z⟩
  have hd : ∃ a w us, v = .ref a ∧ H a = some (.tup (.str (S w) :: us)) ∧ w ≠ M.q "ask" ∧ ((∃ b cs t ws, c = .many b cs ∧ w = M.nq b ∧ us = [.ref t] ∧ H t = some (.tup ws) ∧ CAtL H cs ws) ∨ (∃ c1 u, c = .neg c1 ∧ w = M.q "not" ∧ us = [u] ∧ CAt H c1 u) ∨ (subsC c = [] ∧ w ≠ M.q "not" ∧ w ≠ M.q "all" ∧ w ≠ M.q "any")) := by
    cases c with
    | word b =>
      unfold CAt at hc
      obtain ⟨a, r, h⟩ := hc
      exact ⟨a, _, _, r, h, by cases b <;> decide, .inr (.inr ⟨rfl, by cases b <;> decide, by cases b <;> decide, by cases b <;> decide⟩)⟩
    | ask n => exact absurd rfl (hask n)
    | neg c1 =>
      unfold CAt at hc
      obtain ⟨a, u, r, h, h1⟩ := hc
      exact ⟨a, _, _, r, h, by decide, .inr (.inl ⟨c1, u, rfl, rfl, rfl, h1⟩)⟩
    | many b cs =>
      unfold CAt at hc
      obtain ⟨a, t, us, r, h, h1, h2⟩ := hc
      exact ⟨a, _, _, r, h, by cases b <;> decide, .inl ⟨b, cs, t, us, rfl, rfl, rfl, h1, h2⟩⟩
  obtain ⟨a, w0, us0, rfl, ha, hw, hcase⟩ := hd
  refine ⟨_, rfl, a, _, _, _, rfl, rfl, sqt ha, at0, rfl, _, rfl, ?_⟩
  rw [sq "ask", dec_S]
  refine iteE false (decide_eq_false hw) (iteF ?_)
  delta tNext
  dsimp only
  refine sasg_cont (R := fun v1 H2 => ∃ l us, v1 = .ref l ∧ Same H H2 ∧ H l = none ∧ H2 l = some (.lst us) ∧ All2 (fun v c => CAt H2 c v) us (subsC c)) (fun Q' hQ' => ?_) ?_
  · refine ⟨_, rfl, a, _, _, _, rfl, rfl, sqt ha, at0, rfl, _, rfl, ?_⟩
    rw [sq "not", dec_S]
    rcases hcase with ⟨b, cs, t1, ws, rfl, rfl, rfl, ht1, hA⟩ | ⟨c1, u, rfl, rfl, rfl, hu⟩ | ⟨hsub, n1, n2, n3⟩
    · refine iteE false (decide_eq_false (by cases b <;> decide)) (iteF ⟨_, rfl, a, _, _, _, rfl, rfl, sqt ha, at0, by show 2 ≤ sizeLine; decide, fun t ht => in_words ["all", "any"] upd_same ⟨_, rfl, iteE true (by cases b <;> decide) (iteT ?_)⟩⟩)
      have s1 := same_new (o := .tup [V.str (Str.ofString "all"), V.str (Str.ofString "any")]) ht
      refine ⟨_, rfl, a, _, _, _, rfl, rfl, sqt (s1 _ _ ha), at1, t1, ws, rfl, .inr (sqt (s1 _ _ ht1)), fun l hl => ?_⟩
      have s2 := same_new (o := .lst ws) hl
      exact hQ' _ _ ⟨l, ws, rfl, s1.trans s2, s1.free hl, upd_same, (cAtL_iff.mp hA).imp fun v c z => z.keep (.of (s1.trans s2))⟩
    · refine iteE true (by decide) (iteT ⟨_, rfl, a, _, _, _, rfl, rfl, sqt ha, at1, by show 1 ≤ sizeLine; decide, fun l hl => ?_⟩)
      have s2 := same_new (o := .lst [u]) hl
      exact hQ' _ _ ⟨l, [u], rfl, s2, hl, upd_same, hu.keep (.of s2), trivial⟩
    · refine iteE false (decide_eq_false n1) (iteF ⟨_, rfl, a, _, _, _, rfl, rfl, sqt ha, at0, by show 2 ≤ sizeLine; decide, fun t ht => in_words ["all", "any"] upd_same ⟨_, rfl, iteE false (by simp [n2, n3]) (iteF ⟨by decide, fun l hl => ?_⟩)⟩⟩)
      have s1 := same_new (o := .tup [V.str (Str.ofString "all"), V.str (Str.ofString "any")]) ht
      have s2 := same_new (o := .lst []) hl
      refine hQ' _ _ ⟨l, [], rfl, s1.trans s2, s1.free hl, upd_same, ?_⟩
      rw [hsub]
      trivial
  · rintro v1 H1 ⟨l, us, rfl, e1, hl0, hl, hA⟩
    have hfs := flat_subs' hask
    have hal := M.askL_om c
    have hul := hA.length
    refine ⟨by decide, fun L hL => ?_⟩
    have s2 := same_new (o := .lst []) hL
    have hL2 : upd H1 L (.lst []) L = some (.lst (sV [])) := upd_same
    have hl2 := s2 _ _ hl
    have e02 := e1.trans s2
    have hA2 := hA.imp fun v c z => z.keep (.of s2)
    have nl : l ≠ L := ne_of_none hl hL
    have hL0 := e1.free hL
    generalize upd H1 L (.lst []) = H2 at s2 hL2 hl2 e02 hA2 ⊢
    dsimp only [gName]
    refine ⟨_, rfl, l, rfl, ⟨_, sql hl2⟩, for_list (xs := us) (fun i σ Hi => ∃ x3, σ = [some (.ref a), some (.ref l), some (.ref L), x3] ∧ SameB L H2 Hi ∧ ∃ acc, Hi L = some (.lst (sV acc)) ∧ (∀ k, k ∈ acc ↔ k ∈ (((subsC c).map fun c => c.askL).take i).flatten) ∧ acc.length ≤ (((subsC c).map fun c => c.askL).take i).flatten.length) ⟨none, rfl, .refl _ _, [], hL2, fun k => ⟨fun z => (nomatch z), fun z => (nomatch z)⟩, Nat.le_refl _⟩ ?_ ?_ ?_⟩
    · rintro i σ Hi _ ⟨x3, rfl, si, _⟩
      exact sql (si _ _ hl2 nl)
    · rintro i x σ Hi hx ⟨x3, rfl, si, acc, hLi, hacc, hal2⟩
      obtain ⟨c1, hc1, hAt1⟩ := hA2.get hx
      have hso := subs_om (List.mem_of_getElem? hc1)
      have hout : ((subsC c).map fun c => c.askL)[i]? = some c1.askL := by rw [List.getElem?_map, hc1]; rfl
      have htf := take_flat hout
      have hfl := flat_le hout
      rw [hfs] at hfl
      dsimp only [gName]
      refine ⟨_, rfl, .inl ⟨rfl, _, sql hLi⟩, _, rfl, x, c1, rfl, hAt1.keep (si.tup hL2 (fun xs q => nomatch q)), by omega, by omega, by omega, fun t ys H3 e3 ht hm hyl => ⟨L, t, _, _, rfl, rfl, e3 _ _ hLi, sqt ht, ?_, ?_⟩⟩
      · rw [List.length_map, List.length_map]
        exact small (by omega)
      · refine ⟨_, rfl, (si.trans (.of e3)).upd, acc ++ ys, by rw [upd_same, sV_app], fun k => ?_, ?_⟩
        · rw [htf, List.mem_append, List.mem_append, hacc, hm]
        · rw [htf, List.length_append, List.length_append]
          omega
    · rintro σ Hi ⟨x3, rfl, si, acc, hLi, hacc, hal2⟩
      have e0i : Same H Hi := fun b o z => si _ _ (e02 _ _ z) (ne_of_none z hL0)
      have htk : ((subsC c).map fun c => c.askL).take us.length = (subsC c).map fun c => c.askL := by
        rw [hul]
        exact List.take_of_length_le (by rw [List.length_map]; exact Nat.le_refl _)
      rw [htk, hfs] at hacc hal2
      rw [sV_str] at hLi
      refine ⟨_, rfl, L, acc.map S, rfl, sql hLi, by rw [List.length_map]; omega, fun ys p nd2 hm hs hp => ?_⟩
      obtain ⟨zs, rfl⟩ := S_onto ys
      have s3 := same_new (o := .lst ((zs.map S).map V.str)) hp
      have hz : (zs.map S).length ≤ (acc.map S).length := XS.nodup_len _ _ nd2 fun k hk => (hm k).mp hk
      rw [List.length_map, List.length_map] at hz
      refine ⟨p, _, rfl, .inl ⟨sql upd_same, fun t ht => ?_⟩⟩
      have s4 := same_new (o := .tup ((zs.map S).map V.str)) ht
      refine hq t zs _ (e0i.trans (s3.trans s4)) (by rw [upd_same, sV_str]) (fun k => ⟨fun hk => ?_, fun hk => ?_⟩) (by omega)
      · obtain ⟨n, hn, e⟩ := List.mem_map.mp ((hm (S k)).mp (List.mem_map.mpr ⟨k, hk, rfl⟩))
        rw [← S_inj e]
        exact (hacc n).mp hn
      · obtain ⟨n, hn, e⟩ := List.mem_map.mp ((hm (S k)).mpr (List.mem_map.mpr ⟨k, (hacc k).mpr hk, rfl⟩))
        rw [← S_inj e]
        exact hn
end
end K93
end

section
set_option Elab.async false
set_option linter.all false
set_option maxRecDepth 100000
set_option maxHeartbeats 4000000
/-! k93: the law's reading of Facts tells the same; lines bent. -/
namespace M
open L2 TL
/-- a fact of a line, its names not looked at -/
def lineF (n : Nat) (s : Cs) : Option Fact :=
  if s.take 7 = q "always " then (lawC n s.length (s.drop 7)).map .alw
  else match sp 32 s with
  | w0 :: w1 :: w2 :: _ :: _ => if w0 = q "makes" then (lawC n s.length (s.drop (8 + w1.length + w2.length))).map (.mk w1 w2) else none
  | _ => none
def nmF : Fact → Prop
  | .alw _ => True
  | .mk x y _ => Nm x ∧ Nm y
theorem lineF_short {n : Nat} {s : Cs} (h7 : s.take 7 ≠ q "always ") (h : (sp 32 s).length < 4) : lineF n s = none := by
  unfold lineF
  rw [if_neg h7]
  split
  · rename_i w0 w1 w2 w3 ws e
    rw [e] at h
    simp at h
    omega
  · rfl
theorem lineF_words {n : Nat} {s w0 w1 w2 w3 : Cs} {ws : List Cs} (h7 : s.take 7 ≠ q "always ") (e : sp 32 s = w0 :: w1 :: w2 :: w3 :: ws) : lineF n s = if w0 = q "makes" then (lawC n s.length (s.drop (8 + w1.length + w2.length))).map (Fact.mk w1 w2) else none := by
  unfold lineF
  rw [if_neg h7, e]
theorem lawF_line {n : Nat} {s : Cs} {f : Fact} : lawF n s.length s = some f ↔ lineF n s = some f ∧ nmF f := by
  by_cases h7 : s.take 7 = q "always "
  · unfold lawF lineF
    rw [if_pos h7, if_pos h7]
    cases lawC n s.length (s.drop 7) with
    | none => simp
    | some c =>
      constructor
      · intro h
        cases h
        exact ⟨rfl, trivial⟩
      · rintro ⟨h, _⟩
        exact h
  · by_cases h4 : (sp 32 s).length < 4
    · rw [lawF_short h7 h4, lineF_short h7 h4]
      simp
    · obtain ⟨w0, w1, w2, w3, ws, hw⟩ : ∃ w0 w1 w2 w3 ws, sp 32 s = w0 :: w1 :: w2 :: w3 :: ws := by
        match h : sp 32 s with
        | [] => rw [h] at h4; simp at h4
        | [_] => rw [h] at h4; simp at h4
        | [_, _] => rw [h] at h4; simp at h4
        | [_, _, _] => rw [h] at h4; simp at h4
        | w0 :: w1 :: w2 :: w3 :: ws => exact ⟨_, _, _, _, _, rfl⟩
      rw [lawF_words h7 hw, lineF_words h7 hw]
      by_cases h0 : w0 = q "makes"
      · rw [if_pos h0]
        cases lawC n s.length (s.drop (8 + w1.length + w2.length)) with
        | none =>
          constructor
          · intro h
            split at h <;> cases h
          · rintro ⟨h, _⟩
            cases h
        | some c =>
          constructor
          · intro h
            split at h
            · rename_i z
              cases h
              exact ⟨rfl, nmB_iff.mp z.2.1, nmB_iff.mp z.2.2⟩
            · cases h
          · rintro ⟨h, h2⟩
            have h : some (Fact.mk w1 w2 c) = some f := h
            cases h
            rw [if_pos ⟨h0, nmB_iff.mpr h2.1, nmB_iff.mpr h2.2⟩]
            rfl
      · rw [if_neg h0, if_neg fun z => h0 z.1]
        simp
theorem okF_nm {a st : List Cs} (ha : ANs a) (hs : ANs st) {f : Fact} (h : okF a st f) : nmF f := by
  cases f with
  | alw c => trivial
  | mk x y c => exact ⟨hs.nm x h.1, ha.nm y h.2.1⟩
theorem mapO_imp {α β : Type} {f g : α → Option β} : ∀ {l : List α} {ys : List β}, mapO f l = some ys → (∀ x ∈ l, ∀ y ∈ ys, f x = some y → g x = some y) → mapO g l = some ys
  | [], ys, h, _ => by
    unfold mapO at h ⊢
    exact h
  | x :: l, ys, h, hi => by
    unfold mapO at h ⊢
    cases hx : f x with
    | none => rw [hx] at h; cases h
    | some y =>
      cases hl : mapO f l with
      | none => rw [hx, hl] at h; cases h
      | some zs =>
        rw [hx, hl] at h
        have h : some (y :: zs) = some ys := h
        cases h
        rw [hi x List.mem_cons_self y List.mem_cons_self hx, mapO_imp hl fun x' hx' y' hy' => hi x' (List.mem_cons_of_mem _ hx') y' (List.mem_cons_of_mem _ hy')]
/-- the law's reading -/
theorem rdFs_law {n : Nat} {s l0 l1 : Cs} {fs : List Cs} {a st : List Cs} {ts : List Fact} (e : sp 10 s = l0 :: l1 :: fs) (c : fs.length ≤ 24) (h1 : namesL (q "asks") 4 l0 = some a) (h2 : namesL (q "steps") 5 l1 = some st) (hs : ∀ l ∈ fs, om l < n) (h3 : mapO (lineF n) fs = some ts) :
    rdFs n s = if ∀ t ∈ ts, okF a st t then some (a, st, ts) else none := by
  have ha := (namesL_some h1).2.2.1
  have hst := (namesL_some h2).2.2.1
  by_cases ho : ∀ t ∈ ts, okF a st t
  · rw [if_pos ho]
    refine rdFs_of e c h1 h2 (mapO_imp h3 fun l hl t ht hlt => ?_) ho
    rw [readF_eq (n' := n) (m := l.length) (hs l hl) (hs l hl) (Nat.le_refl _)]
    exact lawF_line.mpr ⟨hlt, okF_nm ha hst (ho t ht)⟩
  · rw [if_neg ho]
    cases hr : rdFs n s with
    | none => rfl
    | some f =>
      obtain ⟨l0', l1', fs', e', _, g1, g2, g3, g4⟩ := rdFs_some hr
      rw [e] at e'
      injection e' with e1 e2
      injection e2 with e2 e3
      subst e1 e2 e3
      rw [h1] at g1
      rw [h2] at g2
      have : mapO (lineF n) fs = some f.2.2 := mapO_imp g3 fun l hl t ht hlt => by
        rw [readF_eq (n' := n) (m := l.length) (hs l hl) (hs l hl) (Nat.le_refl _)] at hlt
        exact (lawF_line.mp hlt).1
      rw [h3] at this
      cases this
      injection g1 with g1
      injection g2 with g2
      exact absurd (g1 ▸ g2 ▸ g4) ho
theorem rdFs_line {n : Nat} {s l0 l1 l : Cs} {fs : List Cs} (e : sp 10 s = l0 :: l1 :: fs) (hs : ∀ l ∈ fs, om l < n) (hl : l ∈ fs) (h : lineF n l = none) : rdFs n s = none := by
  cases hr : rdFs n s with
  | none => rfl
  | some f =>
    obtain ⟨l0', l1', fs', e', _, g1, g2, g3, g4⟩ := rdFs_some hr
    rw [e] at e'
    injection e' with e1 e2
    injection e2 with e2 e3
    subst e1 e2 e3
    have : mapO (lineF n) fs = some f.2.2 := mapO_imp g3 fun l hl t ht hlt => by
      rw [readF_eq (n' := n) (m := l.length) (hs l hl) (hs l hl) (Nat.le_refl _)] at hlt
      exact (lawF_line.mp hlt).1
    rw [mapO_none hl h] at this
    cases this
theorem rdFs_heads {n : Nat} {s l0 l1 : Cs} {fs : List Cs} (e : sp 10 s = l0 :: l1 :: fs) (h : namesL (q "asks") 4 l0 = none ∨ namesL (q "steps") 5 l1 = none ∨ 24 < fs.length) : rdFs n s = none := by
  cases hr : rdFs n s with
  | none => rfl
  | some f =>
    obtain ⟨l0', l1', fs', e', g0, g1, g2, g3, g4⟩ := rdFs_some hr
    rw [e] at e'
    injection e' with e1 e2
    injection e2 with e2 e3
    subst e1 e2 e3
    rcases h with h | h | h
    · rw [h] at g1
      cases g1
    · rw [h] at g2
      cases g2
    · omega
theorem rdFs_few {n : Nat} {s : Cs} (h : (sp 10 s).length < 2) : rdFs n s = none := by
  cases hr : rdFs n s with
  | none => rfl
  | some f =>
    obtain ⟨l0', l1', fs', e', _⟩ := rdFs_some hr
    rw [e'] at h
    simp at h
    omega
/-! ### what a text's lines may be -/
theorem sp_app (c : Nat) : ∀ a b : Cs, sp c (a ++ c :: b) = sp c a ++ sp c b
  | [], b => by
    rw [List.nil_append, sp_hit]
    rfl
  | x :: a, b => by
    have ih := sp_app c a b
    obtain ⟨h, t, e⟩ := List.exists_cons_of_ne_nil (sp_ne c a)
    by_cases n : x = c
    · subst n
      rw [List.cons_append, sp_hit, sp_hit, ih]
      rfl
    · rw [List.cons_append, sp_miss n (show sp c (a ++ c :: b) = h :: (t ++ sp c b) by rw [ih, e]; rfl), sp_miss n e]
      rfl
theorem sp_joins (c : Nat) : ∀ ys : List Cs, ∀ l ∈ sp c (joinL [c] ys), l = [] ∨ ∃ y ∈ ys, l ∈ sp c y
  | [], l, h => .inl (by simpa [joinL, sp] using h)
  | [x], l, h => .inr ⟨x, List.mem_cons_self, h⟩
  | x :: y :: r, l, h => by
    rw [join_two] at h
    have e : x ++ ([c] ++ joinL [c] (y :: r)) = x ++ c :: joinL [c] (y :: r) := rfl
    rw [e, sp_app] at h
    rcases List.mem_append.mp h with h | h
    · exact .inr ⟨x, List.mem_cons_self, h⟩
    · rcases sp_joins c (y :: r) l h with h | ⟨z, h1, h2⟩
      · exact .inl h
      · exact .inr ⟨z, List.mem_cons_of_mem _ h1, h2⟩
theorem sp_piece (c : Nat) {s : Cs} {p : Cs} (h : p ∈ sp c s) : om p ≤ om s ∧ p.length ≤ s.length := by
  have h2 : ∀ (ys : List Cs), ∀ y ∈ ys, om y ≤ om (joinL [c] ys) ∧ y.length ≤ (joinL [c] ys).length := by
    intro ys
    induction ys with
    | nil => intro y hy; cases hy
    | cons x r ih =>
      intro y hy
      cases r with
      | nil =>
        rw [List.mem_singleton.mp hy]
        exact ⟨Nat.le_refl _, Nat.le_refl _⟩
      | cons z r =>
        rw [join_two, om_app, om_app, List.length_append, List.length_append]
        rcases List.mem_cons.mp hy with rfl | hy
        · omega
        · have := ih y hy
          omega
  have := h2 (sp c s) p h
  rw [join_sp] at this
  exact this
/-- texts of so many lines of so many signs -/
def TxB (k : Nat) (s : Cs) : Prop := s.length ≤ 12000 + 600 * k ∧ ∀ l ∈ sp 10 s, om l ≤ 40 + 4 * k ∧ l.length ≤ 400 + 20 * k
theorem TxB.mono {j k : Nat} {s : Cs} (h : TxB j s) (hk : j ≤ k) : TxB k s := ⟨by have := h.1; omega, fun l hl => by have := h.2 l hl; omega⟩
theorem TxB.of {k : Nat} {ys : List Cs} (hl : (joinL [10] ys).length ≤ 12000 + 600 * k) (h : ∀ y ∈ ys, om y ≤ 40 + 4 * k ∧ y.length ≤ 400 + 20 * k) : TxB k (joinL [10] ys) :=
  ⟨hl, fun l hl => by
    rcases sp_joins 10 ys l hl with rfl | ⟨y, hy, hp⟩
    · exact ⟨Nat.zero_le _, Nat.zero_le _⟩
    · have h1 := sp_piece 10 hp
      have h2 := h y hy
      omega⟩
end M
end

section
set_option Elab.async false
set_option linter.all false
set_option maxRecDepth 100000
set_option maxHeartbeats 4000000
/-! None in xs, xs a list of Nones and tuples. -/
namespace XP
open PySem PySem.Spec PyProof.Rows L2
section
variable {X : Cx}
def isNon : Value → Bool
  | .none => true
  | _ => false
theorem non_eqAt {K : PySem.W.Frag} {H : Hp} {A : Around} {s : Shared} (hu : A.units < cLine) (tp : ∀ a ys, SqT K H a ys → ∃ its, s.heap.IsTuple a its) : ∀ {xs : List V} {us : List Value}, Vals xs us → (∀ v ∈ xs, v = .non ∨ ∃ a ys, v = .ref a ∧ SqT K H a ys) → (∀ u ∈ us, SeqAt.EqAt A s u .none (isNon u)) ∧ us.any isNon = xs.any fun v => decide (v = .non)
  | _, _, .nil, _ => ⟨fun u hu => (nomatch hu), rfl⟩
  | y :: xs, u :: us, .cons r t, f => by
    have ih := non_eqAt hu tp t fun v hv => f v (List.mem_cons_of_mem _ hv)
    rcases f y List.mem_cons_self with rfl | ⟨a, ys, rfl, hq⟩
    · cases r
      refine ⟨fun u' hu' => ?_, by simp [isNon]⟩
      rcases List.mem_cons.mp hu' with rfl | hu'
      · exact SeqAt.EqAt.same _
      · exact ih.1 u' hu'
    · cases r
      refine ⟨fun u' hu' => ?_, ?_⟩
      · rcases List.mem_cons.mp hu' with rfl | hu'
        · obtain ⟨its, h⟩ := tp a ys hq
          exact SeqAt.EqAt.tuple_none h hu
        · exact ih.1 u' hu'
      · rw [List.any_cons, List.any_cons, ih.2]
        rfl
def rInNone (K : PySem.W.Frag) (units : Nat) : R2 := fun x y H Q => ∃ l xs, x = .non ∧ y = .ref l ∧ SqL K H l xs ∧ (∀ v ∈ xs, v = .non ∨ ∃ a ys, v = .ref a ∧ SqT K H a ys) ∧ units + 10 < cLine ∧ Q (.bl (xs.any fun v => decide (v = .non))) H
theorem op_inNone : OpR X (compareOp .In) (rInNone X.K X.A.units) := by
  intro pins s σ H x y v u Q I rx ry h
  obtain ⟨l, xs, rfl, rfl, hq, hx, hu, q⟩ := h
  cases rx
  cases ry
  obtain ⟨its, r, pl, _⟩ := I.list hq
  have z := non_eqAt (A := X.A.in1) (s := s) (Nat.lt_of_le_of_lt (show X.A.in1.units ≤ X.A.units + 10 from by show X.A.units + 1 ≤ X.A.units + 10; omega) hu) (fun a ys h => let ⟨its, _, p, _⟩ := I.tuple h; ⟨_, p⟩) r hx
  refine SeqAt.in_listAt isNon pl.isList (fun w hw => z.1 w (by simpa using hw)) ⟨.bl _, H, I, rfl, ?_⟩
  rw [show its.toArray.any isNon = its.any isNon by simp, z.2]
  exact q
end
end XP
end

section
set_option Elab.async false
set_option linter.all false
set_option maxRecDepth 100000
set_option maxHeartbeats 4000000
/-! k93: the law's reading of lines. -/
namespace K93
open PySem PySem.Spec PyProof.Rows L2 He HL
section
variable {w : World} {K : PySem.W.Frag} {mg : Str → Option Value} {base : Heap}
abbrev n_law_fact_line : List Str := ["_law_line", "_law_at", "_law_head", "_law_words", "_law_found"]
theorem sc_law_fact_line : FnScope n_law_fact_line ["_law_line"] (defScope s_law_fact_line) := ⟨rfl, rfl, rfl, by decide +kernel, rfl, by decide +kernel, by decide +kernel⟩
theorem bi_law_fact_line : ∀ (kV doc pm : Value) (an : Option Addr) (cdv ct : Value) (us : List Value), us.length = 1 → bindArgs (PySem.W.fnOf d_law_fact_line.name d_law_fact_line.qual d_law_fact_line.params d_law_fact_line.body d_law_fact_line.scope .none kV doc pm an cdv ct) ⟨us, []⟩ = pure ([("_law_line" : Str)].zip us) := fun kV doc pm an cdv ct us hu => by
  match us, hu with
  | [u0], _ => rfl
def spFL (n : Nat) : Sp := fun vs H Q _ => ∃ s, vs = [.str (S s)] ∧ s.length ≤ 10000 ∧ M.om s < n ∧ (M.lineF n s = none → ∀ H', Same H H' → Q .non H') ∧ ∀ f, M.lineF n s = some f → ∀ t H', Same H H' → FAt H' f (.ref t) → Q (.ref t) H'
theorem o_fline (W : Wl K mg) (n : Nat) (hn : 0 < n) : OkD w K mg base CX0 (n + 5) d_law_fact_line ["_law_line"] (spFL n) := by
  have O__law_whole := o_whole (w := w) (base := base) W
  have O__law_condition_at := o_lcond (w := w) (base := base) W n (n + 3) (fun _ => by omega) (fun _ => by omega)
  refine HL.ok_of0 W.D_law_fact_line sc_law_fact_line (fun vs H Q E ⟨_, h, _⟩ => by rw [h]; rfl) bi_law_fact_line fun cdv A outer s H vs Q E hr h => ?_
  have nd := sc_law_fact_line.nd
  refine ⟨_, (pss_cons (ps_asg (pe_tup (pa_cons pe_int (pa_cons (pe_tup (pa_cons pe_str pa_nil)) pa_nil))) (pg_tup (by rfl) (pgs_cons (pg_name (i := 1) nd rfl (Or.inl rfl)) (pgs_cons (pg_name (i := 2) nd rfl (Or.inl rfl)) pgs_nil))))
    (pss_cons (ps_if (pt_cmpR op_ne (pe_slice sl_str (pv 0) po_none (po_some pe_int)) pe_str (nomark _)) (pss_cons (ps_set (i := 3) nd rfl (Or.inl rfl) (pe_split (pv 0) pe_str))
      (pss_cons (ps_if (PW.pt (pw_or (pt_cmpR op_lt (pe_callB call_len_seq (by rfl) W.f_len (by decide +kernel) (pa_cons (pv 3) pa_nil)) pe_int (nomark _)) (pw_or1 (pt_cmpR op_ne (pe_ix ix_list (pv 3) pe_int (fun _ _ => rfl)) pe_str (nomark _))))) (pss_one (ps_ret pe_non)) pss_nil)
      (pss_one (ps_par (i := 1) (j := 2) (by rfl) nd rfl rfl (by decide) rfl rfl (pa_cons (pe_op op_add (pe_op op_add pe_int (pe_callB call_len_str (by rfl) W.f_len (by decide +kernel) (pa_cons (pe_ix ix_list (pv 3) pe_int (fun _ _ => rfl)) pa_nil))) (pe_callB call_len_str (by rfl) W.f_len (by decide +kernel) (pa_cons (pe_ix ix_list (pv 3) pe_int (fun _ _ => rfl)) pa_nil))) (pa_cons (pe_tup (pa_cons pe_str (pa_cons (pe_ix ix_list (pv 3) pe_int (fun _ _ => rfl)) (pa_cons (pe_ix ix_list (pv 3) pe_int (fun _ _ => rfl)) pa_nil)))) pa_nil)) (by rfl))))) pss_nil)
    (pss_cons (ps_set (i := 4) nd rfl (Or.inl rfl) (pe_cal O__law_whole (hr.mono (by omega)) W.g__law_whole pass0 (pa_cons (pv 0) (pa_cons (pe_cal O__law_condition_at (hr.mono (by omega)) W.g__law_condition_at pass0 (pa_cons (pv 0) (pa_cons (pv 1) pa_nil))) pa_nil))))
    (pss_one (ps_ret (pe_ifExp (pt_cmpR op_eq (pe_ix ix_tup (pv 4) pe_int (fun _ _ => rfl)) pe_str (nomark _)) (pe_op op_catT (pv 2) (pe_tup (pa_cons (pe_ix ix_tup (pv 4) pe_int (fun _ _ => rfl)) pa_nil))) pe_non)))))), ?_⟩
  obtain ⟨s, rfl, hs, hom, hN, hQ⟩ := h
  have sl : (S s).length ≤ sizeLine := by rw [S_len]; exact small (by omega)
  have hd7 : cutS (S s) none (some (7 : Int)) = S (s.take 7) := cut_j s 7
  -- what is whole
  have whole : ∀ (r : List Nat) (i : Nat) (H1 : Hp) (Q2 : VK), Ps s i r → (∀ p H', Same H1 H' → Due CAt H' p (M.lawC n s.length r) → Q2 (.ref p) H') → spLC n [.str (S s), .int (i : Nat)] H1 (fun x H2 => spWhole [.str (S s), x] H2 Q2 L2.E0) L2.E0 := fun r i H1 Q2 hP hQ2 => by
    have hom2 : M.om r ≤ M.om s := Ps.om ⟨Nat.zero_le _, rfl⟩ hP (Nat.zero_le _)
    refine ⟨s, i, r, rfl, hP, by omega, by omega, fun hc H2 e2 => ?_, fun c r2 hc u v j H2 e2 _ hP2 hu hAt => ?_⟩
    · refine ⟨s, .non, rfl, by omega, .inl ⟨rfl, fun p hp => hQ2 p _ (HL.Same.new e2 hp) ?_⟩⟩
      unfold M.lawC
      rw [hc]
      exact due_none
    · refine ⟨s, .ref u, rfl, by omega, .inr ⟨u, v, j, r2, rfl, hu, hP2, fun hn p hp => hQ2 p _ (HL.Same.new e2 hp) ?_, fun hn p hp => hQ2 p _ (HL.Same.new e2 hp) ?_⟩⟩
      · unfold M.lawC
        rw [hc]
        dsimp only
        rw [if_pos hn]
        exact due_some (hAt.keep (.of (same_new hp)))
      · unfold M.lawC
        rw [hc]
        dsimp only
        rw [if_neg hn]
        exact due_none
  refine ⟨by show 1 ≤ sizeLine; decide, fun h1 hh1 => ?_⟩
  have s1 := same_new (o := .tup [V.str (Str.ofString "always")]) hh1
  have hh1v : upd H h1 (.tup [V.str (Str.ofString "always")]) h1 = some (.tup [V.str (S (M.q "always"))]) := by rw [upd_same, sq "always"]
  generalize upd H h1 (.tup [V.str (Str.ofString "always")]) = H0 at s1 hh1v ⊢
  refine ⟨by show 2 ≤ sizeLine; decide, fun tp htp => ?_⟩
  have hh1v := same_new (o := .tup [V.int 7, V.ref h1]) htp _ _ hh1v
  have s1 := HL.Same.new (o := .tup [V.int 7, V.ref h1]) s1 htp
  refine ⟨tp, _, rfl, sqt upd_same, rfl, _, _, rfl, _, _, rfl, rfl, ?_⟩
  generalize upd H0 tp (.tup [V.int 7, V.ref h1]) = H1 at s1 hh1v ⊢
  dsimp only [gName]
  refine seq_cont (fun σ' H' => ∃ i : Nat, ∃ t ws x3, ∃ g : M.Cond → M.Fact, σ' = [some (.str (S s)), some (.int (i : Nat)), some (.ref t), x3, none] ∧ Same H H' ∧ H' t = some (.tup ws) ∧ ws ≠ [] ∧ ws.length ≤ 3 ∧ Ps s i (s.drop i) ∧ M.lineF n s = (M.lawC n s.length (s.drop i)).map g ∧ ∀ c v T H2, H2 T = some (.tup (ws ++ [v])) → CAt H2 c v → FAt H2 (g c) (.ref T)) (fun N hNx => ?_) (fun σ' H' hR => ?_)
  · refine ⟨_, rfl, 7, rfl, _, rfl, sl, ?_⟩
    rw [hd7]
    refine ⟨rfl, _, rfl, ?_⟩
    rw [sq "always ", dec_S]
    by_cases h7 : s.take 7 = M.q "always "
    · refine iteE false (by rw [decide_eq_true h7] <;> rfl) (iteF ?_)
      refine hNx _ _ ⟨7, h1, _, _, M.Fact.alw, rfl, s1, hh1v, by simp, by decide, ⟨?_, rfl⟩, ?_, fun c v T H2 hT hc => ⟨T, v, rfl, hT, hc⟩⟩
      · have := congrArg List.length h7
        rw [List.length_take, show (M.q "always ").length = 7 by decide] at this
        omega
      · unfold M.lineF
        rw [if_pos h7]
    refine iteE true (by rw [decide_eq_false h7] <;> rfl) (iteT ?_)
    refine ⟨_, rfl, ⟨_, rfl⟩, _, _, rfl, rfl, len_one (c := 32) (by decide), by rw [S_len]; exact small (by omega), fun l hl => ?_⟩
    rw [split_one (c := 32) (by decide) (by decide), ← sV_str]
    have s2 := same_new (o := .lst (sV (M.sp 32 s))) hl
    have hl1 : upd H1 l (.lst (sV (M.sp 32 s))) l = some (.lst (sV (M.sp 32 s))) := upd_same
    generalize upd H1 l (.lst (sV (M.sp 32 s))) = H2 at s2 hl1 ⊢
    have s02 := s1.trans s2
    dsimp only [gName]
    refine ⟨_, rfl, l, _, rfl, .inl (sql hl1), _, _, rfl, rfl, _, rfl, ?_⟩
    by_cases h4 : (M.sp 32 s).length < 4
    · exact iteE true (decide_eq_true (by simp; omega)) (iteT (hN (M.lineF_short h7 h4) _ s02))
    refine iteE false (decide_eq_false (by simp; omega)) (iteF ?_)
    obtain ⟨w0, w1, w2, w3, ws, hw⟩ : ∃ w0 w1 w2 w3 ws, M.sp 32 s = w0 :: w1 :: w2 :: w3 :: ws := by
      match h : M.sp 32 s with
      | [] => rw [h] at h4; simp at h4
      | [_] => rw [h] at h4; simp at h4
      | [_, _] => rw [h] at h4; simp at h4
      | [_, _, _] => rw [h] at h4; simp at h4
      | w0 :: w1 :: w2 :: w3 :: ws => exact ⟨_, _, _, _, _, rfl⟩
    have lw := M.lineF_words (n := n) h7 hw
    have es := M.sp_four hw
    have wl : ∀ x ∈ M.sp 32 s, x.length ≤ 10000 := fun x hx => by have := sp_each hx; omega
    rw [hw] at hl1
    have w1l := wl w1 (by rw [hw]; simp)
    have w2l := wl w2 (by rw [hw]; simp)
    have w1s : (S w1).length ≤ sizeLine := by rw [S_len]; exact small (by omega)
    have w2s : (S w2).length ≤ sizeLine := by rw [S_len]; exact small (by omega)
    refine ⟨_, rfl, l, _, _, _, rfl, rfl, sql hl1, at0, rfl, _, rfl, ?_⟩
    rw [sq "makes", dec_S]
    by_cases h0 : w0 = M.q "makes"
    rotate_left
    · exact iteE true (by rw [decide_eq_false h0] <;> rfl) (iteT (hN (by rw [lw, if_neg h0]) _ s02))
    rw [if_pos h0] at lw
    refine iteE false (by rw [decide_eq_true h0] <;> rfl) (iteF ?_)
    refine ⟨_, rfl, l, _, _, _, rfl, rfl, sql hl1, at1, _, rfl, w1s, _, _, rfl, rfl, _, rfl, l, _, _, _, rfl, rfl, sql hl1, at2, _, rfl, w2s, _, _, rfl, rfl, ?_⟩
    refine ⟨_, rfl, l, _, _, _, rfl, rfl, sql hl1, at1, _, rfl, l, _, _, _, rfl, rfl, sql hl1, at2, by show 3 ≤ sizeLine; decide, fun h2 hh2 => ⟨_, _, rfl, ?_⟩⟩
    have hP : Ps s (8 + w1.length + w2.length) (s.drop (8 + w1.length + w2.length)) := by
      refine ⟨?_, rfl⟩
      have e := congrArg List.length es
      simp only [List.length_append, List.length_cons] at e
      have : w0.length = 5 := by rw [h0]; decide
      omega
    have ei : (8 + ((S w1).length : Int)) + ((S w2).length : Int) = ((8 + w1.length + w2.length : Nat) : Int) := by
      rw [S_len, S_len]
      omega
    refine hNx _ _ ⟨8 + w1.length + w2.length, h2, [V.str (S (M.q "makes")), V.str (S w1), V.str (S w2)], _, M.Fact.mk w1 w2, by rw [← ei] <;> rfl, HL.Same.new s02 hh2, upd_same, by simp, by show 3 ≤ 3; decide, hP, lw, fun c v T H2 hT hc => ⟨T, v, rfl, hT, hc⟩⟩
  · obtain ⟨i, t, ws, x3, g, rfl, e1, ht, hwn, hwl, hP, hl, hg⟩ := hR
    refine ⟨_, rfl, _, rfl, _, rfl, ?_⟩
    dsimp only [tCons, tC, tNil, List.append_nil]
    refine whole _ _ H' _ hP fun p H2 e2 hd => ?_
    have ht2 := e2 _ _ ht
    dsimp only [gName]
    cases hc : M.lawC n s.length (s.drop i) with
    | none =>
      rw [hc] at hd hl
      exact ⟨_, rfl, p, _, _, _, rfl, rfl, sqt hd, at0, rfl, _, rfl, iteE false ntold (iteF (hN hl _ (e1.trans e2)))⟩
    | some c =>
      rw [hc] at hd hl
      obtain ⟨v, hu, hAt⟩ := hd
      refine ⟨_, rfl, p, _, _, _, rfl, rfl, sqt hu, at0, rfl, _, rfl, iteE true ytold (iteT ⟨_, rfl, _, rfl, p, _, _, _, rfl, rfl, sqt hu, at1, by show 1 ≤ sizeLine; decide, fun t2 ht2' => ?_⟩)⟩
      have s3 := same_new (o := .tup [v]) ht2'
      refine ⟨t, t2, ws, [v], rfl, rfl, sqt (s3 _ _ ht2), sqt upd_same, hwn, small (by simp; omega), fun z => (nomatch z), fun _ T hT => ?_⟩
      have s4 := same_new (o := .tup (ws ++ [v])) hT
      exact hQ _ hl T _ (((e1.trans e2).trans s3).trans s4) (hg c v T _ upd_same (hAt.keep (.of (s3.trans s4))))
abbrev n_law_names_read : List Str := ["_law_line", "_law_word", "_law_most", "_law_words", "_law_names_here"]
theorem sc_law_names_read : FnScope n_law_names_read ["_law_line", "_law_word", "_law_most"] (defScope s_law_names_read) := ⟨rfl, rfl, rfl, by decide +kernel, rfl, by decide +kernel, by decide +kernel⟩
theorem bi_law_names_read : ∀ (kV doc pm : Value) (an : Option Addr) (cdv ct : Value) (us : List Value), us.length = 3 → bindArgs (PySem.W.fnOf d_law_names_read.name d_law_names_read.qual d_law_names_read.params d_law_names_read.body d_law_names_read.scope .none kV doc pm an cdv ct) ⟨us, []⟩ = pure ([("_law_line" : Str), ("_law_word" : Str), ("_law_most" : Str)].zip us) := fun kV doc pm an cdv ct us hu => by
  match us, hu with
  | [u0, u1, u2], _ => rfl
def spNR : Sp := fun vs H Q _ => ∃ l, ∃ (wd : String) (most : Nat), vs = [.str (S l), .str (Str.ofString wd), .int (most : Nat)] ∧ l.length ≤ 10000 ∧ M.om l ≤ 60 ∧ (M.namesL (M.q wd) most l = none → ∀ H', Same H H' → Q .non H') ∧ ∀ ns, M.namesL (M.q wd) most l = some ns → ∀ t H', Same H H' → H' t = some (.tup (sV ns)) → Q (.ref t) H'
theorem om_count : ∀ l : List Nat, l.count 32 ≤ M.om l
  | [] => Nat.zero_le _
  | c :: l => by
    have ih := om_count l
    have e : M.om (c :: l) = M.wt c + M.om l := by
      unfold M.om
      rw [List.map_cons, List.sum_cons]
    rw [e, List.count_cons]
    by_cases h : c = 32
    · subst h
      have : M.wt 32 = 1 := by decide
      simp only [beq_self_eq_true, if_true]
      omega
    · simp only [beq_iff_eq, h, if_false]
      omega
theorem o_nread (W : Wl K mg) : OkD w K mg base CX0 3 d_law_names_read ["_law_line", "_law_word", "_law_most"] spNR := by
  have O__law_are_names := o_lare_names (w := w) (base := base) W
  refine HL.ok_of0 W.D_law_names_read sc_law_names_read (fun vs H Q E ⟨_, _, _, h, _⟩ => by rw [h]; rfl) bi_law_names_read fun cdv A outer s H vs Q E hr h => ?_
  have nd := sc_law_names_read.nd
  refine ⟨_, (pss_cons (ps_set (i := 3) nd rfl (Or.inl rfl) (pe_split (pv 0) pe_str))
    (pss_cons (ps_set (i := 4) nd rfl (Or.inl rfl) (pe_callTy call_tuple_of (by rfl) W.f_tuple (by decide +kernel) (pa_cons (pe_slice sl_list (pv 3) (po_some pe_int) po_none) pa_nil)))
    (pss_one (ps_ret (pe_ifExp (PW.pt (pw_and (pt_cmpR op_eq (pe_ix ix_list (pv 3) pe_int (fun _ _ => rfl)) (pv 1) (nomark _)) (pw_and (pt_val (pe_cal O__law_are_names (hr.mono (by omega)) W.g__law_are_names pass0 (pa_cons (pv 4) pa_nil))) (pw_and1 (pt_cmpR op_le (pe_callB call_len_seq (by rfl) W.f_len (by decide +kernel) (pa_cons (pv 4) pa_nil)) (pv 2) (nomark _)))))) (pv 4) pe_non))))), ?_⟩
  obtain ⟨l, wd, most, rfl, hl, hom, hN, hQ⟩ := h
  refine ⟨_, rfl, ⟨_, rfl⟩, _, _, rfl, rfl, len_one (c := 32) (by decide), by rw [S_len]; exact small (by omega), fun a ha => ?_⟩
  rw [split_one (c := 32) (by decide) (by decide), ← sV_str]
  have s1 := same_new (o := .lst (sV (M.sp 32 l))) ha
  have ha1 : upd H a (.lst (sV (M.sp 32 l))) a = some (.lst (sV (M.sp 32 l))) := upd_same
  generalize upd H a (.lst (sV (M.sp 32 l))) = H1 at s1 ha1 ⊢
  obtain ⟨w0, ws, hw⟩ : ∃ w0 ws, M.sp 32 l = w0 :: ws := by
    cases h : M.sp 32 l with
    | nil => exact absurd h (M.sp_ne 32 l)
    | cons w0 ws => exact ⟨_, _, rfl⟩
  have hcnt := M.sp_len 32 l
  have hoc := om_count l
  have hpl : ∀ x ∈ M.sp 32 l, x.length ≤ 10000 := fun x hx => by have := sp_each hx; omega
  have hnl : M.namesL (M.q wd) most l = if w0 = M.q wd ∧ M.ANs ws ∧ ws.length ≤ most then some ws else none := by
    unfold M.namesL
    rw [hw]
  rw [hw] at ha1 hcnt hpl
  rw [List.length_cons] at hcnt
  dsimp only [gName]
  refine ⟨_, rfl, 1, rfl, a, _, rfl, sql ha1, fun b hb => ⟨b, _, rfl, .inl ⟨sql upd_same, fun t ht => ?_⟩⟩⟩
  rw [show cutV (sV (w0 :: ws)) (some 1) none = sV ws from cut_from _ 1]
  rw [show cutV (sV (w0 :: ws)) (some 1) none = sV ws from cut_from _ 1] at ht
  have s2 := (same_new (o := .lst (sV ws)) hb).trans (same_new (o := .tup (sV ws)) ht)
  have ht1 : upd (upd H1 b (.lst (sV ws))) t (.tup (sV ws)) t = some (.tup (sV ws)) := upd_same
  generalize upd (upd H1 b (.lst (sV ws))) t (.tup (sV ws)) = H2 at s2 ht1 ⊢
  have ha2 := s2 _ _ ha1
  have s02 := s1.trans s2
  refine ⟨_, rfl, a, _, _, _, rfl, rfl, sql ha2, at0, _, rfl, rfl, _, rfl, ?_⟩
  rw [oq wd, dec_S]
  by_cases h0 : w0 = M.q wd
  rotate_left
  · exact iteE false (decide_eq_false h0) (iteF (hN (by rw [hnl, if_neg fun z => h0 z.1]) _ s02))
  refine iteE true (decide_eq_true h0) (iteT ?_)
  refine ⟨_, rfl, t, ws, rfl, ht1, by omega, fun x hx => hpl x (List.mem_cons_of_mem _ hx), fun _ => by omega, fun H3 e3 => ⟨_, rfl, ?_⟩⟩
  have ht3 := e3 _ _ ht1
  have s03 := s02.trans e3
  by_cases h1 : M.ANs ws
  rotate_left
  · exact iteE false (decide_eq_false h1) (iteF (hN (by rw [hnl, if_neg fun z => h1 z.2.1]) _ s03))
  refine iteE true (decide_eq_true h1) (iteT ?_)
  refine ⟨_, rfl, t, _, rfl, .inr (sqt ht3), _, rfl, _, _, rfl, rfl, _, rfl, ?_⟩
  have hwl : (sV ws).length = ws.length := by rw [List.length_map]
  by_cases h2 : ws.length ≤ most
  · exact iteE true (decide_eq_true (by rw [hwl]; omega)) (iteT ⟨_, rfl, hQ ws (by rw [hnl, if_pos ⟨h0, h1, h2⟩]) t _ s03 ht3⟩)
  · exact iteE false (decide_eq_false (by rw [hwl]; omega)) (iteF (hN (by rw [hnl, if_neg fun z => h2 z.2.2]) _ s03))
end
end K93
end

section
set_option Elab.async false
set_option linter.all false
set_option maxRecDepth 100000
set_option maxHeartbeats 8000000
/-! k93: the law's reading of Facts. -/
namespace M
def condF : Fact → Cond
  | .alw c => c
  | .mk _ _ c => c
theorem lineF_sh {n : Nat} {s : Cs} {f : Fact} (h : lineF n s = some f) : f.sh = s ∧ (condF f).wf := by
  by_cases h7 : s.take 7 = q "always "
  · unfold lineF at h
    rw [if_pos h7] at h
    cases hc : lawC n s.length (s.drop 7) with
    | none => rw [hc] at h; cases h
    | some c =>
      rw [hc] at h
      cases h
      obtain ⟨e1, e2⟩ := lawC_sh hc
      exact ⟨by show alS c.sh = _; rw [e1]; exact (al_of h7).symm, e2⟩
  · by_cases h4 : (sp 32 s).length < 4
    · rw [lineF_short h7 h4] at h
      cases h
    · obtain ⟨w0, w1, w2, w3, ws, hw⟩ : ∃ w0 w1 w2 w3 ws, sp 32 s = w0 :: w1 :: w2 :: w3 :: ws := by
        match h : sp 32 s with
        | [] => rw [h] at h4; simp at h4
        | [_] => rw [h] at h4; simp at h4
        | [_, _] => rw [h] at h4; simp at h4
        | [_, _, _] => rw [h] at h4; simp at h4
        | w0 :: w1 :: w2 :: w3 :: ws => exact ⟨_, _, _, _, _, rfl⟩
      rw [lineF_words h7 hw] at h
      by_cases h0 : w0 = q "makes"
      · rw [if_pos h0] at h
        cases hc : lawC n s.length (s.drop (8 + w1.length + w2.length)) with
        | none => rw [hc] at h; cases h
        | some c =>
          rw [hc] at h
          have h : some (Fact.mk w1 w2 c) = some f := h
          cases h
          obtain ⟨e1, e2⟩ := lawC_sh hc
          have es : s = mkS w1 w2 (TL.joinL [32] (w3 :: ws)) := by
            have j := join_sp 32 s
            rw [hw, h0] at j
            exact j.symm
          have ed : s.drop (8 + w1.length + w2.length) = TL.joinL [32] (w3 :: ws) := by
            conv => lhs; rw [es]
            exact drop_mk w1 w2 _
          refine ⟨?_, e2⟩
          show mkS w1 w2 c.sh = s
          rw [e1, ed]
          exact es.symm
      · rw [if_neg h0] at h
        cases h
theorem condF_om (f : Fact) : om (condF f).sh ≤ om f.sh ∧ (condF f).sh.length ≤ f.sh.length := by
  cases f with
  | alw c => exact om_alS c.sh
  | mk a b c => exact om_mkS a b c.sh
end M
namespace K93
open PySem PySem.Spec PyProof.Rows L2 He HL
section
variable {w : World} {K : PySem.W.Frag} {mg : Str → Option Value} {base : Heap}
/-- what was read of Facts -/
def FsM (H : Hp) (f : M.FactsM) (v : V) : Prop := ∃ t ta ts tt us, v = .ref t ∧ H t = some (.tup [.ref ta, .ref ts, .ref tt]) ∧ H ta = some (.tup (sV f.1)) ∧ H ts = some (.tup (sV f.2.1)) ∧ H tt = some (.tup us) ∧ All2 (fun v x => FAt H x v) us f.2.2
def NRes (H : Hp) (o : Option (List (List Nat))) (v : V) : Prop := match o with
  | none => v = .non
  | some a => ∃ t, v = .ref t ∧ H t = some (.tup (sV a))
theorem NRes.keep {H H' : Hp} {o : Option (List (List Nat))} {v : V} (h : NRes H o v) (e : Same H H') : NRes H' o v := by
  cases o with
  | none => exact h
  | some a =>
    obtain ⟨t, r, h⟩ := h
    exact ⟨t, r, e _ _ h⟩
theorem nr_in {H : Hp} {l : List Nat} {wd : String} {most : Nat} {Q : VK} {E : XK} (hl : l.length ≤ 10000) (hom : M.om l ≤ 60) (h : ∀ v H', Same H H' → NRes H' (M.namesL (M.q wd) most l) v → Q v H') : spNR [.str (S l), .str (Str.ofString wd), .int (most : Nat)] H Q E :=
  ⟨l, wd, most, rfl, hl, hom, fun hn H' e => h _ H' e (by rw [hn]; rfl), fun ns hn t H' e ht => h _ H' e (by rw [hn]; exact ⟨t, rfl, ht⟩)⟩
theorem in_tup {H : Hp} {t : Addr} {n : List Nat} {a : List (List Nat)} {Q : VK} (ht : H t = some (.tup (sV a))) (h : Q (.bl (decide (n ∈ a))) H) : rIn K false (.str (S n)) (.ref t) H Q := by
  refine ⟨t, _, rfl, .inr (sqt ht), rfl, ?_, ?_⟩
  · rw [List.all_map]
    exact List.all_eq_true.mpr fun _ _ => rfl
  · show Q (.bl (inV _ _)) H
    rw [inV_sV]
    exact h
theorem notin_tup {H : Hp} {t : Addr} {n : List Nat} {a : List (List Nat)} {Q : VK} (ht : H t = some (.tup (sV a))) (h : Q (.bl (!decide (n ∈ a))) H) : rIn K true (.str (S n)) (.ref t) H Q := by
  refine ⟨t, _, rfl, .inr (sqt ht), rfl, ?_, ?_⟩
  · rw [List.all_map]
    exact List.all_eq_true.mpr fun _ _ => rfl
  · show Q (.bl (!inV _ _)) H
    rw [inV_sV]
    exact h
theorem FAt.last {H : Hp} {f : M.Fact} {v : V} (h : FAt H f v) : ∃ T xs u, v = .ref T ∧ H T = some (.tup xs) ∧ atI xs (-1) = some u ∧ CAt H (M.condF f) u := by
  cases f with
  | alw c =>
    obtain ⟨a, u, r, ha, hc⟩ := h
    exact ⟨a, _, u, r, ha, rfl, hc⟩
  | mk x y c =>
    obtain ⟨a, u, r, ha, hc⟩ := h
    exact ⟨a, _, u, r, ha, rfl, hc⟩
theorem all2_mapO {α β : Type} {f : α → Option β} {R : V → β → Prop} : ∀ {us : List V} {xs : List α} {ys : List β}, All2 (fun v x => ∀ y, f x = some y → R v y) us xs → M.mapO f xs = some ys → All2 R us ys
  | [], [], ys, _, h => by
    unfold M.mapO at h
    cases h
    trivial
  | u :: us, x :: xs, ys, hA, h => by
    unfold M.mapO at h
    cases hx : f x with
    | none => rw [hx] at h; cases h
    | some y =>
      cases hl : M.mapO f xs with
      | none => rw [hx, hl] at h; cases h
      | some zs =>
        rw [hx, hl] at h
        have h : some (y :: zs) = some ys := h
        cases h
        exact ⟨hA.1 y hx, all2_mapO hA.2 hl⟩
  | [], _ :: _, _, h, _ => h.elim
  | _ :: _, [], _, h, _ => h.elim
abbrev n_law_facts_read : List Str := ["_law_text_here", "_law_lines", "_law_asks", "_law_steps", "_law_told_here", "_law_fact", "_law_line", "_law_name"]
theorem sc_law_facts_read : FnScope n_law_facts_read ["_law_text_here"] (defScope s_law_facts_read) := ⟨rfl, rfl, rfl, by decide +kernel, rfl, by decide +kernel, by decide +kernel⟩
theorem bi_law_facts_read : ∀ (kV doc pm : Value) (an : Option Addr) (cdv ct : Value) (us : List Value), us.length = 1 → bindArgs (PySem.W.fnOf d_law_facts_read.name d_law_facts_read.qual d_law_facts_read.params d_law_facts_read.body d_law_facts_read.scope .none kV doc pm an cdv ct) ⟨us, []⟩ = pure ([("_law_text_here" : Str)].zip us) := fun kV doc pm an cdv ct us hu => by
  match us, hu with
  | [u0], _ => rfl
def spFR (n : Nat) : Sp := fun vs H Q _ => ∃ s, vs = [.str (S s)] ∧ s.length ≤ 100000 ∧ (∀ l ∈ M.sp 10 s, M.om l < n ∧ M.om l ≤ 60 ∧ l.length ≤ 3000) ∧ ∀ u H', Same H H' → Due FsM H' u (M.rdFs n s) → Q (.ref u) H'
/-- a line's fact, or None -/
def LRes (n : Nat) (H : Hp) (l : List Nat) (v : V) : Prop := match M.lineF n l with
  | none => v = .non
  | some f => ∃ t, v = .ref t ∧ FAt H f v
theorem LRes.keep {n : Nat} {H H' : Hp} {l : List Nat} {v : V} (h : LRes n H l v) (e : TupK H H') : LRes n H' l v := by
  unfold LRes at h ⊢
  cases hl : M.lineF n l with
  | none =>
    rw [hl] at h
    exact h
  | some f =>
    rw [hl] at h
    obtain ⟨t, r, h⟩ := h
    exact ⟨t, r, h.keep e⟩
theorem o_fsread (W : Wl K mg) (n : Nat) (hn : 0 < n) : OkD w K mg base CX0 (n + 6) d_law_facts_read ["_law_text_here"] (spFR n) := by
  have O__law_names_read := o_nread (w := w) (base := base) W
  have O__law_fact_line := o_fline (w := w) (base := base) W n hn
  have O__law_asks_in := o_lasks (w := w) (base := base) W n (n + 5) (fun _ => by omega) (fun _ => by omega)
  refine HL.ok_of0 W.D_law_facts_read sc_law_facts_read (fun vs H Q E ⟨_, h, _⟩ => by rw [h]; rfl) bi_law_facts_read fun cdv A outer s H vs Q E hr h => ?_
  have nd := sc_law_facts_read.nd
  refine ⟨_, (pss_cons (ps_set (i := 1) nd rfl (Or.inl rfl) (pe_split (pv 0) pe_str))
    (pss_cons (ps_if (PW.pt (pw_or (pt_cmpR op_lt (pe_callB call_len_seq (by rfl) W.f_len (by decide +kernel) (pa_cons (pv 1) pa_nil)) pe_int (nomark _)) (pw_or1 (pt_cmpR op_gt (pe_callB call_len_seq (by rfl) W.f_len (by decide +kernel) (pa_cons (pv 1) pa_nil)) pe_int (nomark _))))) (pss_one (ps_ret (pe_tup (pa_cons pe_str (pa_cons pe_non pa_nil))))) pss_nil)
    (pss_cons (ps_asg (pe_tup (pa_cons (pe_cal O__law_names_read (hr.mono (by omega)) W.g__law_names_read pass0 (pa_cons (pe_ix ix_list (pv 1) pe_int (fun _ _ => rfl)) (pa_cons pe_str (pa_cons pe_int pa_nil)))) (pa_cons (pe_cal O__law_names_read (hr.mono (by omega)) W.g__law_names_read pass0 (pa_cons (pe_ix ix_list (pv 1) pe_int (fun _ _ => rfl)) (pa_cons pe_str (pa_cons pe_int pa_nil)))) pa_nil))) (pg_tup (by rfl) (pgs_cons (pg_name (i := 2) nd rfl (Or.inr rfl)) (pgs_cons (pg_name (i := 3) nd rfl (Or.inl rfl)) pgs_nil))))
    (pss_cons (ps_setLc (i := 4) (own := [("_law_line", 6)]) (g := gName 6) (tt := tYes) rfl nd rfl rfl (sw_true rfl rfl rfl (by decide +kernel)) (pi_list (pe_slice sl_list (pv 1) (po_some pe_int) po_none)) (blkOk_by (own := [("_law_line", 6)]) (N := n_law_facts_read) (sc := defScope s_law_facts_read) (by decide +kernel)) (fun _ _ _ _ _ => pg_name (i := 6) nd rfl (Or.inl rfl)) (fun _ _ _ _ _ => pts_nil) (fun _ _ _ _ _ => (pe_cal O__law_fact_line (hr.mono (by omega)) W.g__law_fact_line pass0 (pa_cons (pv 6) pa_nil))))
    (pss_cons (ps_if (PW.pt (pw_or (pt_cmpR op_isN (pv 2) pe_non (nomark _)) (pw_or (pt_cmpR op_isN (pv 3) pe_non (nomark _)) (pw_or1 (pt_cmpR XP.op_inNone pe_non (pv 4) (by rfl)))))) (pss_one (ps_ret (pe_tup (pa_cons pe_str (pa_cons pe_non pa_nil))))) pss_nil)
    (pss_cons (ps_for PassesOwn.never rfl (pi_list (pv 4)) (pg_name (i := 5) nd rfl (Or.inl rfl)) (pss_cons (ps_if (pt_cmpR XP.op_neNil (pe_lc (own := [("_law_name", 7)]) (g := gName 7) (by rfl) nd (pi_tup (pe_cal O__law_asks_in (hr.mono (by omega)) W.g__law_asks_in pass0 (pa_cons (pe_ix ix_tup (pv 5) (pe_un un_neg pe_int) (fun _ _ => rfl)) pa_nil))) (blkOk_by (own := [("_law_name", 7)]) (N := n_law_facts_read) (sc := defScope s_law_facts_read) (by decide +kernel)) (fun _ _ _ _ _ => pg_name (i := 7) nd rfl (Or.inl rfl)) (fun _ _ _ _ _ => pts_one (pt_cmpR (r := rIn K true) op_notIn_seq (pv 7) (pv 2) (by rfl))) (fun _ _ _ _ _ => (pv 7))) (pe_lst pa_nil) (nomark _)) (pss_one (ps_ret (pe_tup (pa_cons pe_str (pa_cons pe_non pa_nil))))) pss_nil)
      (pss_one (ps_if (PW.pt (pw_and (pt_cmpR op_eq (pe_callB call_len_seq (by rfl) W.f_len (by decide +kernel) (pa_cons (pv 5) pa_nil)) pe_int (nomark _)) (pw_and1 (PW.pt (pw_or (pt_cmpR op_notIn_seq (pe_ix ix_tup (pv 5) pe_int (fun _ _ => rfl)) (pv 3) (by rfl)) (pw_or1 (pt_cmpR op_notIn_seq (pe_ix ix_tup (pv 5) pe_int (fun _ _ => rfl)) (pv 2) (by rfl)))))))) (pss_one (ps_ret (pe_tup (pa_cons pe_str (pa_cons pe_non pa_nil))))) pss_nil))))
    (pss_one (ps_ret (pe_tup (pa_cons pe_str (pa_cons (pe_tup (pa_cons (pv 2) (pa_cons (pv 3) (pa_cons (pe_callTy call_tuple_of (by rfl) W.f_tuple (by decide +kernel) (pa_cons (pv 4) pa_nil)) pa_nil)))) pa_nil))))))))))), ?_⟩
  obtain ⟨s, rfl, hs, hlo, hq⟩ := h
  refine ⟨_, rfl, ⟨_, rfl⟩, _, _, rfl, rfl, len_one (c := 10) (by decide), by rw [S_len]; exact small (by omega), fun l hl => ?_⟩
  rw [split_one (c := 10) (by decide) (by decide), ← sV_str]
  have s1 := same_new (o := .lst (sV (M.sp 10 s))) hl
  have hl1 : upd H l (.lst (sV (M.sp 10 s))) l = some (.lst (sV (M.sp 10 s))) := upd_same
  generalize upd H l (.lst (sV (M.sp 10 s))) = H1 at s1 hl1 ⊢
  have hlen : (sV (M.sp 10 s)).length = (M.sp 10 s).length := by rw [List.length_map]
  have none_out : ∀ H2, Same H H2 → M.rdFs n s = none → ∀ p, H2 p = none → Q (.ref p) (upd H2 p (.tup [.str (Str.ofString "none"), .non])) := fun H2 e2 hn p hp => hq _ _ (HL.Same.new e2 hp) (by rw [hn]; exact due_none)
  dsimp only [gName]
  refine ⟨_, rfl, l, _, rfl, .inl (sql hl1), _, _, rfl, rfl, _, rfl, ?_⟩
  by_cases h2 : (M.sp 10 s).length < 2
  · exact iteE true (decide_eq_true (by rw [hlen]; omega)) (iteT ⟨by show 2 ≤ sizeLine; decide, none_out H1 s1 (M.rdFs_few h2)⟩)
  refine iteE false (decide_eq_false (by rw [hlen]; omega)) (iteF ?_)
  obtain ⟨l0, l1, fs, e⟩ : ∃ l0 l1 fs, M.sp 10 s = l0 :: l1 :: fs := by
    cases e : M.sp 10 s with
    | nil => rw [e] at h2; simp at h2
    | cons l0 r =>
      cases r with
      | nil => rw [e] at h2; simp at h2
      | cons l1 fs => exact ⟨l0, l1, fs, rfl⟩
  refine ⟨_, rfl, l, _, rfl, .inl (sql hl1), _, _, rfl, rfl, _, rfl, ?_⟩
  by_cases h26 : 26 < (M.sp 10 s).length
  · exact iteE true (decide_eq_true (by rw [hlen]; omega)) (iteT ⟨by show 2 ≤ sizeLine; decide, none_out H1 s1 (M.rdFs_heads e (.inr (.inr (by rw [e] at h26; simp at h26; omega))))⟩)
  refine iteE false (decide_eq_false (by rw [hlen]; omega)) (iteF ?_)
  have hfn : fs.length ≤ 24 := by
    rw [e] at h26
    simp at h26
    omega
  rw [e] at hl1 hlo
  obtain ⟨a1, a2, a3⟩ := hlo l0 (by simp)
  obtain ⟨b1, b2, b3⟩ := hlo l1 (by simp)
  have hlf : ∀ x ∈ fs, M.om x < n ∧ M.om x ≤ 60 ∧ x.length ≤ 3000 := fun x hx => hlo x (by simp [hx])
  refine ⟨_, rfl, l, _, _, _, rfl, rfl, sql hl1, at0, ?_⟩
  dsimp only [tCons, tC, tNil, List.append_nil]
  refine nr_in (E := L2.E0) (wd := "asks") (most := 4) (by omega) a2 fun va H2 e2 hva => ⟨_, rfl, l, _, _, _, rfl, rfl, sql (e2 _ _ hl1), at1, ?_⟩
  dsimp only [tCons, tC, tNil, List.append_nil]
  refine nr_in (E := L2.E0) (wd := "steps") (most := 5) (by omega) b2 fun vb H3 e3 hvb => ⟨by show 2 ≤ sizeLine; decide, fun tp htp => ?_⟩
  have s4 := same_new (o := .tup [va, vb]) htp
  have e34 := e3.trans s4
  have e14 := e2.trans e34
  have e04 := s1.trans e14
  have hva4 := hva.keep e34
  have hvb4 := hvb.keep s4
  have hl4 := e14 _ _ hl1
  refine ⟨tp, _, rfl, sqt upd_same, rfl, _, _, rfl, _, _, rfl, rfl, ?_⟩
  generalize upd H3 tp (.tup [va, vb]) = H4 at s4 e34 e14 e04 hva4 hvb4 hl4 ⊢
  refine ⟨_, rfl, 2, rfl, l, _, rfl, sql hl4, fun fl hfl => ?_⟩
  rw [show cutV (sV (l0 :: l1 :: fs)) (some 2) none = sV fs from cut_from _ 2]
  have s5 := same_new (o := .lst (sV fs)) hfl
  have hfl5 : upd H4 fl (.lst (sV fs)) fl = some (.lst (sV fs)) := upd_same
  have e05 := e04.trans s5
  have hva5 := hva4.keep s5
  have hvb5 := hvb4.keep s5
  generalize upd H4 fl (.lst (sV fs)) = H5 at s5 hfl5 e05 hva5 hvb5 ⊢
  refine ⟨fl, rfl, ⟨_, sql hfl5⟩, fun D hD => ?_⟩
  refine lcJ (R := fun v x H => LRes n H x v) fs hD (small (by omega)) (itl_stop (sql hfl5) (by simp)) (itl_go (sql hfl5) (by simp)) (itl_yld (sql hfl5)) (fun _ _ _ _ z e => z.keep e) (fun k x c H6 Q6 B hc e6 hx hq6 => ?_) fun H6 us e6 hD6 hA => ?_
  · rw [List.getElem?_map, hc] at hx
    have hx : some (V.str (S c)) = some x := hx
    cases hx
    obtain ⟨g1, g2, g3⟩ := hlf c (List.mem_of_getElem? hc)
    exact name_in ⟨_, rfl, c, rfl, by omega, g1, fun hno H7 e7 => hq6 _ _ e7 (by unfold LRes; rw [hno]), fun f hf t H7 e7 hAt => hq6 _ _ e7 (by unfold LRes; rw [hf]; exact ⟨t, rfl, hAt⟩)⟩
  have e06 := e05.trans e6
  have hva6 := hva5.keep e6
  have hvb6 := hvb5.keep e6
  have hul : us.length = fs.length := hA.length
  -- are there all?
  have isn : ∀ (v : V) (o : Option (List (List Nat))), NRes H6 o v → decide (v = V.non) = o.isNone := fun v o h => by
    cases o with
    | none =>
      rw [show v = .non from h]
      rfl
    | some a =>
      obtain ⟨t, rfl, _⟩ := h
      exact ref_non
  refine ⟨_, rfl, rfl, _, rfl, ?_⟩
  cases ha : M.namesL (M.q "asks") 4 l0 with
  | none =>
    exact iteE true (by rw [isn va _ hva6, ha]; rfl) (iteT ⟨by show 2 ≤ sizeLine; decide, none_out H6 e06 (M.rdFs_heads e (.inl ha))⟩)
  | some a =>
  refine iteE false (by rw [isn va _ hva6, ha]; rfl) (iteF ?_)
  refine ⟨_, rfl, rfl, _, rfl, ?_⟩
  cases hb : M.namesL (M.q "steps") 5 l1 with
  | none =>
    exact iteE true (by rw [isn vb _ hvb6, hb]; rfl) (iteT ⟨by show 2 ≤ sizeLine; decide, none_out H6 e06 (M.rdFs_heads e (.inr (.inl hb)))⟩)
  | some st =>
  refine iteE false (by rw [isn vb _ hvb6, hb]; rfl) (iteF ?_)
  rw [ha] at hva6
  rw [hb] at hvb6
  obtain ⟨ta, rfl, hta⟩ := hva6
  obtain ⟨ts, rfl, hts⟩ := hvb6
  refine ⟨_, rfl, D, us, rfl, rfl, sql hD6, fun v hv => ?_, Nat.lt_of_le_of_lt (Nat.add_le_add_left (by decide) _) hr.units, _, rfl, ?_⟩
  · obtain ⟨k, hk⟩ := List.getElem?_of_mem hv
    obtain ⟨x, hx, hr⟩ := hA.get hk
    unfold LRes at hr
    cases hf : M.lineF n x with
    | none =>
      rw [hf] at hr
      exact .inl hr
    | some f =>
      rw [hf] at hr
      obtain ⟨t, rfl, h⟩ := hr
      obtain ⟨T, xs, u, r, hT, _⟩ := h.last
      cases r
      exact .inr ⟨_, _, rfl, sqt hT⟩
  have hom : ∀ x ∈ fs, M.om x < n := fun x hx => (hlf x hx).1
  by_cases hno : ∃ x ∈ fs, M.lineF n x = none
  · obtain ⟨x, hx, hxn⟩ := hno
    refine iteE true ?_ (iteT ⟨by show 2 ≤ sizeLine; decide, none_out H6 e06 (M.rdFs_line e hom hx hxn)⟩)
    obtain ⟨k, hk⟩ := List.getElem?_of_mem hx
    obtain ⟨v, hv, hr⟩ := hA.getR hk
    unfold LRes at hr
    rw [hxn] at hr
    exact List.any_eq_true.mpr ⟨v, List.mem_of_getElem? hv, decide_eq_true hr⟩
  have hall : ∀ x ∈ fs, M.lineF n x ≠ none := fun x hx z => hno ⟨x, hx, z⟩
  refine iteE false ?_ (iteF ?_)
  · rw [Bool.eq_false_iff]
    intro z
    obtain ⟨v, hv, hv2⟩ := List.any_eq_true.mp z
    have hv2 := of_decide_eq_true hv2
    obtain ⟨k, hk⟩ := List.getElem?_of_mem hv
    obtain ⟨x, hx, hr⟩ := hA.get hk
    unfold LRes at hr
    cases hf : M.lineF n x with
    | none => exact hall x (List.mem_of_getElem? hx) hf
    | some f =>
      rw [hf] at hr
      obtain ⟨t, r, _⟩ := hr
      rw [hv2] at r
      cases r
  obtain ⟨tl, htl⟩ := M.mapO_all hall
  have hlaw := M.rdFs_law e hfn ha hb hom htl
  have hF6 : All2 (fun v x => FAt H6 x v) us tl := all2_mapO (hA.imp fun v x z y hy => by
    unfold LRes at z
    rw [hy] at z
    exact let ⟨_, _, h⟩ := z; h) htl
  have hsh : ∀ t ∈ tl, M.om t.sh < n ∧ M.om t.sh ≤ 60 ∧ t.sh.length ≤ 3000 := fun t ht => by
    have e1 := (M.mapO_some htl M.Fact.sh (fun _ => True) fun x y z => ⟨(M.lineF_sh z).1, trivial⟩).1
    have : t.sh ∈ fs := by
      rw [← e1]
      exact List.mem_map.mpr ⟨t, ht, rfl⟩
    exact hlf _ this
  refine ⟨_, rfl, D, rfl, ⟨_, sql hD6⟩, for_list (xs := us) (fun i σ Hi => ∃ x5 x6 x7, σ = [some (.str (S s)), some (.ref l), some (.ref ta), some (.ref ts), some (.ref D), x5, x6, x7] ∧ Same H6 Hi ∧ ∀ j t, j < i → tl[j]? = some t → M.okF a st t) ⟨_, _, _, rfl, .refl _, fun j t hj => by omega⟩ ?_ ?_ ?_⟩
  · rintro i σ Hi _ ⟨x5, x6, x7, rfl, si, _⟩
    exact sql (si _ _ hD6)
  · rintro i v σ Hi hv ⟨x5, x6, x7, rfl, si, hok⟩
    obtain ⟨f, hf, hAt6⟩ := hF6.get hv
    have hAt := hAt6.keep (.of si)
    obtain ⟨T, xs, u, rfl, hT, hu, hc⟩ := hAt.last
    obtain ⟨g1, g2, g3⟩ := hsh f (List.mem_of_getElem? hf)
    have g4 := M.condF_om f
    have e0i := e06.trans si
    have bad : ¬ M.okF a st f → ∀ H2, Same H H2 → ∀ p, H2 p = none → Q (.ref p) (upd H2 p (.tup [.str (Str.ofString "none"), .non])) := fun hbad H2 e2 => none_out H2 e2 (by rw [hlaw, if_neg fun z => hbad (z f (List.mem_of_getElem? hf))])
    dsimp only [gName]
    refine ⟨_, rfl, 1, rfl, T, _, -1, u, rfl, rfl, sqt hT, hu, u, M.condF f, rfl, hc, by omega, by omega, by omega, fun t ys H7 e7 ht hm hyl => ⟨t, rfl, ⟨_, sqt ht⟩, fun D2 hD2 => ?_⟩⟩
    have hal := M.askL_om (M.condF f)
    refine HL.lcTF (as := ys) (g := fun n => V.str (S n)) (f := fun n => !decide (n ∈ a)) hD2 (sqt ht) (small (by omega)) (fun k x H8 R hk e8 h8 => ?_) (fun k x H8 Q8 hk h1 e8 h8 => ?_) fun H8 e8 hl8 => ?_
    · exact ⟨_, rfl, _, rfl, notin_tup (e8 _ _ (e7 _ _ (si _ _ hta))) ⟨_, rfl, h8 _ (Same.refl _)⟩⟩
    · exact ⟨_, rfl, h8 _ (Same.refl _)⟩
    refine ⟨by decide, fun l9 hl9 => ⟨hr.units0, D2, l9, _, rfl, rfl, .inl ⟨sql (same_new hl9 _ _ hl8), sql upd_same⟩, ?_⟩⟩
    have s9 := (e7.trans e8).trans (same_new (o := .lst []) hl9)
    generalize upd H8 l9 (.lst []) = H9 at s9 ⊢
    have z : ((ys.filter fun n => !decide (n ∈ a)).map fun n => V.str (S n)).isEmpty = decide (∀ k ∈ (M.condF f).askL, k ∈ a) := by
      rw [List.isEmpty_map, isEmpty_filt, Bool.eq_iff_iff, List.all_eq_true, decide_eq_true_iff]
      exact ⟨fun z k hk => of_decide_eq_true (z k ((hm k).mpr hk)), fun z k hk => decide_eq_true (z k ((hm k).mp hk))⟩
    refine ⟨_, rfl, ?_⟩
    by_cases hka : ∀ k ∈ (M.condF f).askL, k ∈ a
    rotate_left
    · refine iteE true (by rw [z, decide_eq_false hka] <;> rfl) (iteT ⟨by show 2 ≤ sizeLine; decide, bad (fun zz => hka ?_) _ (e0i.trans s9)⟩)
      cases f with
      | alw c => exact zz
      | mk x y c => exact zz.2.2
    refine iteE false (by rw [z, decide_eq_true hka] <;> rfl) (iteF ?_)
    have next : M.okF a st f → ∀ x7', (fun σ Hi => ∃ x5 x6 x7, σ = [some (.str (S s)), some (.ref l), some (.ref ta), some (.ref ts), some (.ref D), x5, x6, x7] ∧ Same H6 Hi ∧ ∀ j t, j < i + 1 → tl[j]? = some t → M.okF a st t) [some (.str (S s)), some (.ref l), some (.ref ta), some (.ref ts), some (.ref D), some (.ref T), x6, x7'] H9 := fun hk x7' => ⟨_, _, _, rfl, si.trans s9, fun j t hj ht => by
      by_cases hji : j < i
      · exact hok j t hji ht
      · have : j = i := by omega
        rw [this, hf] at ht
        cases ht
        exact hk⟩
    have hAt9 := hAt.keep (.of s9)
    cases f with
    | alw c =>
      obtain ⟨T', u', r, hT', _⟩ := hAt9
      cases r
      refine ⟨_, rfl, T, _, rfl, .inr (sqt hT'), rfl, _, rfl, iteE false rfl (iteF ?_)⟩
      exact next hka _
    | mk x y c =>
      obtain ⟨T', u', r, hT', _⟩ := hAt9
      cases r
      refine ⟨_, rfl, T, _, rfl, .inr (sqt hT'), rfl, _, rfl, iteE true rfl (iteT ?_)⟩
      refine ⟨_, rfl, T, _, _, _, rfl, rfl, sqt hT', at1, _, rfl, notin_tup (s9 _ _ (si _ _ hts)) ⟨_, rfl, ?_⟩⟩
      by_cases hx : x ∈ st
      rotate_left
      · exact iteE true (by rw [decide_eq_false hx] <;> rfl) (iteT ⟨by show 2 ≤ sizeLine; decide, bad (fun zz => hx zz.1) _ (e0i.trans s9)⟩)
      refine iteE false (by rw [decide_eq_true hx] <;> rfl) (iteF ?_)
      refine ⟨_, rfl, T, _, _, _, rfl, rfl, sqt hT', at2, _, rfl, notin_tup (s9 _ _ (si _ _ hta)) ⟨_, rfl, ?_⟩⟩
      by_cases hy : y ∈ a
      rotate_left
      · exact iteE true (by rw [decide_eq_false hy] <;> rfl) (iteT ⟨by show 2 ≤ sizeLine; decide, bad (fun zz => hy zz.2.1) _ (e0i.trans s9)⟩)
      refine iteE false (by rw [decide_eq_true hy] <;> rfl) (iteF ?_)
      exact next ⟨hx, hy, hka⟩ _
  · rintro σ Hi ⟨x5, x6, x7, rfl, si, hok⟩
    have hall2 : ∀ t ∈ tl, M.okF a st t := fun t ht => by
      obtain ⟨k, hk⟩ := List.getElem?_of_mem ht
      refine hok k t ?_ hk
      rw [hF6.length]
      exact (List.getElem?_eq_some_iff.mp hk).1
    rw [if_pos hall2] at hlaw
    refine ⟨_, rfl, _, rfl, _, rfl, D, us, rfl, .inl ⟨sql (si _ _ hD6), fun tt htt => ⟨by show 3 ≤ sizeLine; decide, fun t3 h3 => ⟨by show 2 ≤ sizeLine; decide, fun t4 h4 => ?_⟩⟩⟩⟩
    have s7 := same_new (o := .tup us) htt
    have s8 := same_new (o := .tup [V.ref ta, .ref ts, .ref tt]) h3
    have s9 := same_new (o := .tup [V.str (Str.ofString "told"), .ref t3]) h4
    have sA := si.trans (s7.trans (s8.trans s9))
    refine hq _ _ (e06.trans sA) ?_
    rw [hlaw]
    exact due_some ⟨t3, ta, ts, tt, us, rfl, s9 _ _ upd_same, sA _ _ hta, sA _ _ hts, s9 _ _ (s8 _ _ upd_same), hF6.imp fun v x z => z.keep (.of sA)⟩
end
end K93
end

section
set_option Elab.async false
set_option linter.all false
set_option maxRecDepth 100000
set_option maxHeartbeats 8000000
/-! k93: texts of Facts, bent lines. -/
namespace M
/-- what lines take -/
def Wd (ys : List Cs) : Nat := (ys.map fun y => y.length + 1).sum
theorem Wd_cons (y : Cs) (ys : List Cs) : Wd (y :: ys) = y.length + 1 + Wd ys := by
  unfold Wd
  rw [List.map_cons, List.sum_cons]
theorem Wd_app (a b : List Cs) : Wd (a ++ b) = Wd a + Wd b := by
  unfold Wd
  rw [List.map_append, List.sum_append]
theorem join_Wd (c : Nat) : ∀ ys : List Cs, (TL.joinL [c] ys).length ≤ Wd ys ∧ (ys ≠ [] → (TL.joinL [c] ys).length + 1 = Wd ys)
  | [] => ⟨Nat.le_refl _, fun h => absurd rfl h⟩
  | [x] => by
    rw [Wd_cons]
    show x.length ≤ x.length + 1 + Wd [] ∧ (_ → x.length + 1 = x.length + 1 + Wd [])
    have : Wd [] = 0 := rfl
    omega
  | x :: y :: r => by
    have ih := (join_Wd c (y :: r)).2 (by simp)
    rw [Wd_cons, join_two]
    simp only [List.length_append, List.length_singleton]
    omega
theorem Wd_set (y : Cs) : ∀ (ys : List Cs) (i : Nat), Wd (ys.set i y) ≤ Wd ys + y.length + 1
  | [], i => by
    rw [List.set_nil]
    omega
  | x :: ys, 0 => by
    rw [List.set_cons_zero, Wd_cons, Wd_cons]
    omega
  | x :: ys, i + 1 => by
    have ih := Wd_set y ys i
    rw [List.set_cons_succ, Wd_cons, Wd_cons]
    omega
theorem Wd_erase : ∀ (ys : List Cs) (i : Nat), Wd (ys.eraseIdx i) ≤ Wd ys
  | [], i => Nat.le_refl _
  | x :: ys, 0 => by
    rw [List.eraseIdx_cons_zero, Wd_cons]
    omega
  | x :: ys, i + 1 => by
    have ih := Wd_erase ys i
    rw [List.eraseIdx_cons_succ, Wd_cons, Wd_cons]
    omega
theorem Wd_perm {a b : List Cs} (h : a.Perm b) : Wd a = Wd b := (h.map _).sum_nat
theorem Wd_sp (c : Nat) (s : Cs) : Wd (sp c s) = s.length + 1 := by
  have := (join_Wd c (sp c s)).2 (sp_ne c s)
  rw [join_sp] at this
  exact this.symm
end M
namespace K93
open PySem PySem.Spec PyProof.Rows L2 He HL
section
variable {w : World} {K : PySem.W.Frag} {mg : Str → Option Value} {base : Heap}
abbrev n_law_facts_text : List Str := ["_law_asks", "_law_steps", "_law_told_here", "_law_lines", "_law_fact"]
theorem sc_law_facts_text : FnScope n_law_facts_text ["_law_asks", "_law_steps", "_law_told_here"] (defScope s_law_facts_text) := ⟨rfl, rfl, rfl, by decide +kernel, rfl, by decide +kernel, by decide +kernel⟩
theorem bi_law_facts_text : ∀ (kV doc pm : Value) (an : Option Addr) (cdv ct : Value) (us : List Value), us.length = 3 → bindArgs (PySem.W.fnOf d_law_facts_text.name d_law_facts_text.qual d_law_facts_text.params d_law_facts_text.body d_law_facts_text.scope .none kV doc pm an cdv ct) ⟨us, []⟩ = pure ([("_law_asks" : Str), ("_law_steps" : Str), ("_law_told_here" : Str)].zip us) := fun kV doc pm an cdv ct us hu => by
  match us, hu with
  | [u0, u1, u2], _ => rfl
def spFsT : Sp := fun vs H Q _ => ∃ ta tS lt na nS us fs, vs = [.ref ta, .ref tS, .ref lt] ∧ Names H ta na ∧ Names H tS nS ∧ H lt = some (.lst us) ∧ All2 (fun v x => FAt H x v) us fs ∧ fs.length ≤ 25 ∧ (∀ f ∈ fs, FewF f) ∧ ∀ H', Same H H' → M.TxB 0 (M.shFs (na, nS, fs)) → Q (.str (S (M.shFs (na, nS, fs)))) H'
theorem line_len {wd : List Nat} {ns : List (List Nat)} (hw : wd.length ≤ 8) (ho : M.om wd = 0) (h : ∀ n ∈ ns, M.Nm n) (hl : ns.length ≤ 10) : (M.lineN wd ns).length ≤ 99 ∧ M.om (M.lineN wd ns) ≤ 11 := by
  have h1 := joinN (f := List.length) rfl (fun a b => List.length_append ..) (b := M.q " ") (k := 8) (ys := wd :: ns) fun y hy => by
    rcases List.mem_cons.mp hy with rfl | hy
    · exact hw
    · exact (h y hy).most
  have h2 := joinN (f := M.om) rfl M.om_app (b := M.q " ") (k := 0) (ys := wd :: ns) fun y hy => by
    rcases List.mem_cons.mp hy with rfl | hy
    · exact Nat.le_of_eq ho
    · exact Nat.le_of_eq (nm_om (h y hy).all)
  rw [show (M.q " ").length = 1 by decide, List.length_cons] at h1
  rw [show M.om (M.q " ") = 1 by decide, List.length_cons] at h2
  show (TL.joinL (M.q " ") (wd :: ns)).length ≤ 99 ∧ M.om (TL.joinL (M.q " ") (wd :: ns)) ≤ 11
  omega
theorem shFs_txb {na nS : List (List Nat)} {fs : List M.Fact} (h1 : ∀ n ∈ na, M.Nm n) (l1 : na.length ≤ 10) (h2 : ∀ n ∈ nS, M.Nm n) (l2 : nS.length ≤ 10) (hf : fs.length ≤ 25) (hfs : ∀ f ∈ fs, FewF f) : M.TxB 0 (M.shFs (na, nS, fs)) := by
  have hx : ∀ y ∈ M.lineN (M.q "asks") na :: M.lineN (M.q "steps") nS :: fs.map M.Fact.sh, M.om y ≤ 40 + 4 * 0 ∧ y.length ≤ 400 + 20 * 0 := fun y hy => by
    rcases List.mem_cons.mp hy with rfl | hy
    · have := line_len (wd := M.q "asks") (by decide) (by decide) h1 l1
      omega
    rcases List.mem_cons.mp hy with rfl | hy
    · have := line_len (wd := M.q "steps") (by decide) (by decide) h2 l2
      omega
    · obtain ⟨f, hf, rfl⟩ := List.mem_map.mp hy
      exact (hfs f hf).2
  refine M.TxB.of ?_ hx
  have := joinN (f := List.length) rfl (fun a b => List.length_append ..) (b := M.q "\n") (k := 400) fun y hy => (hx y hy).2
  rw [show (M.q "\n").length = 1 by decide, List.length_cons, List.length_cons, List.length_map] at this
  show (TL.joinL (M.q "\n") (M.lineN (M.q "asks") na :: M.lineN (M.q "steps") nS :: fs.map M.Fact.sh)).length ≤ _
  omega
theorem o_fstext (W : Wl K mg) : OkD w K mg base CX0 44 d_law_facts_text ["_law_asks", "_law_steps", "_law_told_here"] spFsT := by
  have O__law_fact_text := o_lftext (w := w) (base := base) W 41 (by omega)
  refine HL.ok_of0 W.D_law_facts_text sc_law_facts_text (fun vs H Q E ⟨_, _, _, _, _, _, _, h, _⟩ => by rw [h]; rfl) bi_law_facts_text fun cdv A outer s H vs Q E hr h => ?_
  have nd := sc_law_facts_text.nd
  refine ⟨_, (pss_cons (ps_set (i := 3) nd rfl (Or.inl rfl) (pe_lst (pa_cons (pe_join pe_str (pe_op op_catT (pe_tup (pa_cons pe_str pa_nil)) (pv 0))) (pa_cons (pe_join pe_str (pe_op op_catT (pe_tup (pa_cons pe_str pa_nil)) (pv 1))) pa_nil))))
    (pss_one (ps_ret (pe_join pe_str (pe_op op_cat (pv 3) (pe_lc (own := [("_law_fact", 4)]) (g := gName 4) (tt := tYes) (by rfl) nd (pi_list (pv 2)) (blkOk_by (own := [("_law_fact", 4)]) (N := n_law_facts_text) (sc := defScope s_law_facts_text) (by decide +kernel)) (fun _ _ _ _ _ => pg_name (i := 4) nd rfl (Or.inl rfl)) (fun _ _ _ _ _ => pts_nil) (fun _ _ _ _ _ => (pe_cal O__law_fact_text (hr.mono (by omega)) W.g__law_fact_text pass0 (pa_cons (pv 4) pa_nil))))))))), ?_⟩
  obtain ⟨ta, tS, lt, na, nS, us, fs, rfl, hNa, hNs, hlt, hA, hfl, hfw, hq⟩ := h
  have htx := shFs_txb hNa.2.1 hNa.2.2 hNs.2.1 hNs.2.2 hfl hfw
  -- a line of names
  have line : ∀ (wd : String) (t p : Addr) (ns : List (List Nat)) (H1 : Hp) (Q2 : VK), Names H1 t ns → H1 p = some (.tup [.str (Str.ofString wd)]) → (∀ q H', Same H1 H' → H' q = some (.tup (sV (M.q wd :: ns))) → Q2 (.ref q) H') → rCatT K (.ref p) (.ref t) H1 Q2 := by
    intro wd t p ns H1 Q2 hN hp hQ1
    have hwd : V.str (Str.ofString wd) = V.str (S (M.q wd)) := sq wd
    refine ⟨p, t, [.str (Str.ofString wd)], sV ns, rfl, rfl, sqt hp, sqt hN.1, by simp, ?_, fun z => ?_, fun z q hq' => ?_⟩
    · have := hN.2.2
      rw [List.length_map]
      exact small (by show 1 + ns.length ≤ _; omega)
    · refine hQ1 p H1 (.refl _) ?_
      have : ns = [] := by
        cases ns with
        | nil => rfl
        | cons => cases z
      rw [this, hp, hwd]
      rfl
    · refine hQ1 q _ (same_new hq') ?_
      rw [upd_same, hwd]
      rfl
  have jok : ∀ (wd : String) (ns : List (List Nat)), (M.q wd).length ≤ 8 → M.om (M.q wd) = 0 → (∀ n ∈ ns, M.Nm n) → ns.length ≤ 10 → (((M.q wd :: ns).map S).map (·.length)).sum + ((M.q wd :: ns).map S).length * (Str.ofString " ").length ≤ 16777216 := fun wd ns hw ho h1 h2 => by
    refine join_ok (c := 32) (by decide) ?_
    have := (line_len hw ho h1 h2).1
    have e2 : TL.joinL [32] (M.q wd :: ns) = M.lineN (M.q wd) ns := rfl
    rw [e2]
    omega
  refine ⟨⟨_, rfl⟩, by show 1 ≤ sizeLine; decide, fun p hp => ⟨_, rfl, ?_⟩⟩
  have s1 := same_new (o := .tup [V.str (Str.ofString "asks")]) hp
  refine line "asks" ta p na _ _ (hNa.keep (.of s1)) upd_same fun q1 H2 e2 hq1 => ⟨_, q1, (M.q "asks" :: na).map S, rfl, rfl, .inr (sqt (by rw [hq1, sV_str])), jok "asks" na (by decide) (by decide) hNa.2.1 hNa.2.2, ?_⟩
  rw [join_one (c := 32) (by decide)]
  have e02 := s1.trans e2
  clear e2 hq1
  refine ⟨⟨_, rfl⟩, by show 1 ≤ sizeLine; decide, fun p2 hp2 => ⟨_, rfl, ?_⟩⟩
  have s3 := same_new (o := .tup [V.str (Str.ofString "steps")]) hp2
  refine line "steps" tS p2 nS _ _ (hNs.keep (.of (e02.trans s3))) upd_same fun q2 H4 e4 hq2 => ⟨_, q2, (M.q "steps" :: nS).map S, rfl, rfl, .inr (sqt (by rw [hq2, sV_str])), jok "steps" nS (by decide) (by decide) hNs.2.1 hNs.2.2, ?_⟩
  rw [join_one (c := 32) (by decide)]
  have e04 := e02.trans (s3.trans e4)
  clear e4 s3 hq2
  refine ⟨by show 2 ≤ sizeLine; decide, fun L hL => ?_⟩
  have s5 := same_new (o := .lst [V.str (S (TL.joinL [32] (M.q "asks" :: na))), V.str (S (TL.joinL [32] (M.q "steps" :: nS)))]) hL
  have hL5 : upd H4 L (.lst [V.str (S (TL.joinL [32] (M.q "asks" :: na))), V.str (S (TL.joinL [32] (M.q "steps" :: nS)))]) L = some (.lst [V.str (S (TL.joinL [32] (M.q "asks" :: na))), V.str (S (TL.joinL [32] (M.q "steps" :: nS)))]) := upd_same
  have e05 := e04.trans s5
  generalize upd H4 L (.lst [V.str (S (TL.joinL [32] (M.q "asks" :: na))), V.str (S (TL.joinL [32] (M.q "steps" :: nS)))]) = H5 at s5 hL5 e05 ⊢
  have hul := hA.length
  refine ⟨⟨_, rfl⟩, _, rfl, _, rfl, lt, rfl, ⟨_, sql (e05 _ _ hlt)⟩, fun D hD => ?_⟩
  refine lcJ (R := fun v x H => v = V.str (S (M.Fact.sh x))) fs hD (small (by omega)) (itl_stop (sql (e05 _ _ hlt)) hul.symm) (itl_go (sql (e05 _ _ hlt)) hul.symm) (itl_yld (sql (e05 _ _ hlt))) (fun _ _ _ _ z _ => z) (fun k x c H6 Q6 B hc e6 hx hq6 => ?_) fun H6 vs e6 hD6 hvs => ?_
  · obtain ⟨v, hv, hAt⟩ := hA.getR hc
    have hx : us[k]? = some x := hx
    rw [hv] at hx
    cases hx
    have hf := hfw c (List.mem_of_getElem? hc)
    exact name_in ⟨_, rfl, x, c, rfl, hAt.keep (.of (e05.trans e6)), by have := hf.2.1; omega, by have := hf.2.2; omega, fun H7 e7 => hq6 _ _ e7 rfl⟩
  have hvs2 : vs = sV (fs.map M.Fact.sh) := by
    clear hD6
    induction vs generalizing fs with
    | nil =>
      cases fs with
      | nil => rfl
      | cons => exact hvs.elim
    | cons v vs ih =>
      cases fs with
      | nil => exact hvs.elim
      | cons f fs =>
        have e1 : v = V.str (S f.sh) := hvs.1
        have : vs = sV (fs.map M.Fact.sh) := by
          clear ih
          have h2 := hvs.2
          clear hvs e1
          revert h2
          generalize fs = gs
          intro h2
          induction vs generalizing gs with
          | nil =>
            cases gs with
            | nil => rfl
            | cons => exact h2.elim
          | cons u us ih =>
            cases gs with
            | nil => exact h2.elim
            | cons g gs =>
              rw [show u = V.str (S g.sh) from h2.1, ih gs h2.2]
              rfl
        rw [e1, this]
        rfl
  subst hvs2
  refine ⟨L, D, _, _, rfl, rfl, e6 _ _ hL5, hD6, ?_, fun J hJ => ?_⟩
  · rw [List.length_map, List.length_map]
    exact small (by show 2 + fs.length ≤ _; omega)
  have hJ7 : upd H6 J (.lst ([V.str (S (TL.joinL [32] (M.q "asks" :: na))), V.str (S (TL.joinL [32] (M.q "steps" :: nS)))] ++ sV (fs.map M.Fact.sh))) J = some (.lst (sV (M.lineN (M.q "asks") na :: M.lineN (M.q "steps") nS :: fs.map M.Fact.sh))) := upd_same
  refine ⟨_, J, (M.lineN (M.q "asks") na :: M.lineN (M.q "steps") nS :: fs.map M.Fact.sh).map S, rfl, rfl, .inl (sql (by rw [hJ7, sV_str])), join_ok (c := 10) (by decide) ?_, ?_⟩
  · have := htx.1
    show (M.shFs (na, nS, fs)).length ≤ _
    omega
  · rw [join_one (c := 10) (by decide)]
    exact hq _ (e05.trans (HL.Same.new e6 hJ)) htx
end
end K93
end

section
set_option Elab.async false
set_option linter.all false
set_option maxRecDepth 100000
set_option maxHeartbeats 8000000
/-! k93: lines bent. -/
namespace K93
open PySem PySem.Spec PyProof.Rows L2 He HL
theorem ixNat {n j : Nat} (hj : j < n) : ixN n (j : Int) = some j := by
  unfold ixN
  rw [if_pos (by omega), if_pos (by omega)]
  simp
def unS : V → List Nat
  | .str s => s.cps.toList
  | _ => []
theorem erase_map {α β : Type} (f : α → β) : ∀ (l : List α) (i : Nat), (l.map f).eraseIdx i = (l.eraseIdx i).map f
  | [], i => rfl
  | x :: l, 0 => rfl
  | x :: l, i + 1 => by
    rw [List.map_cons, List.eraseIdx_cons_succ, List.eraseIdx_cons_succ, List.map_cons, erase_map f l i]
theorem perm_sV {vs : List V} {ys : List (List Nat)} (h : vs.Perm (sV ys)) : ∃ ys' : List (List Nat), vs = sV ys' ∧ ys'.Perm ys := by
  have hs : ∀ zs : List (List Nat), (sV zs).map unS = zs := fun zs => by
    rw [List.map_map]
    refine (List.map_congr_left fun x _ => ?_).trans (List.map_id _)
    show (S x).cps.toList = x
    simp [S]
  refine ⟨vs.map unS, ?_, ?_⟩
  · show vs = (vs.map unS).map fun n => V.str (S n)
    rw [List.map_map]
    refine (List.map_id _).symm.trans (List.map_congr_left fun v hv => ?_)
    obtain ⟨n, _, rfl⟩ := List.mem_map.mp (h.mem_iff.mp hv)
    show V.str (S n) = V.str (S (S n).cps.toList)
    simp [S]
  · have := h.map unS
    rw [hs] at this
    exact this
section
variable {w : World} {K : PySem.W.Frag} {mg : Str → Option Value} {base : Heap}
abbrev n_law_bent_lines : List Str := ["_law_bag_here", "_law_text_here", "_law_more", "_law_lines", "_law_way", "_law_at"]
theorem sc_law_bent_lines : FnScope n_law_bent_lines ["_law_bag_here", "_law_text_here", "_law_more"] (defScope s_law_bent_lines) := ⟨rfl, rfl, rfl, by decide +kernel, rfl, by decide +kernel, by decide +kernel⟩
theorem bi_law_bent_lines : ∀ (kV doc pm : Value) (an : Option Addr) (cdv ct : Value) (us : List Value), us.length = 3 → bindArgs (PySem.W.fnOf d_law_bent_lines.name d_law_bent_lines.qual d_law_bent_lines.params d_law_bent_lines.body d_law_bent_lines.scope .none kV doc pm an cdv ct) ⟨us, []⟩ = pure ([("_law_bag_here" : Str), ("_law_text_here" : Str), ("_law_more" : Str)].zip us) := fun kV doc pm an cdv ct us hu => by
  match us, hu with
  | [u0, u1, u2], _ => rfl
def spBent : Sp := fun vs H Q _ => ∃ b c m s more k, vs = [.ref b, .str (S s), .ref m] ∧ Bag H b c ∧ H m = some (.lst (sV more)) ∧ m ≠ b ∧ M.TxB k s ∧ k ≤ 2 ∧ 0 < more.length ∧ more.length ≤ 100 ∧ (∀ y ∈ more, M.om y ≤ 40 ∧ y.length ≤ 400) ∧ ∀ s' H', SameB b H H' → Bag H' b c → M.TxB (k + 1) s' → Q (.str (S s')) H'
theorem o_bent (W : Wl K mg) : OkD w K mg base CX0 4 d_law_bent_lines ["_law_bag_here", "_law_text_here", "_law_more"] spBent := by
  have O__law_take := o_take (w := w) (base := base) W
  have O__law_one := o_one (w := w) (base := base) W
  have O__law_spoilt := o_spoilt (w := w) (base := base) W
  have O__law_mixed := o_mixed (w := w) (base := base) W
  refine HL.ok_of0 W.D_law_bent_lines sc_law_bent_lines (fun vs H Q E ⟨_, _, _, _, _, _, h, _⟩ => by rw [h]; rfl) bi_law_bent_lines fun cdv A outer s H vs Q E hr h => ?_
  have nd := sc_law_bent_lines.nd
  refine ⟨_, (pss_cons (ps_par (i := 3) (j := 4) (by rfl) nd rfl rfl (by decide) rfl rfl (pa_cons (pe_split (pv 1) pe_str) (pa_cons (pe_cal O__law_take (hr.mono (by omega)) W.g__law_take pass0 (pa_cons (pv 0) (pa_cons pe_int pa_nil))) pa_nil)) (by rfl))
    (pss_cons (ps_set (i := 5) nd rfl (Or.inl rfl) (pe_cal O__law_take (hr.mono (by omega)) W.g__law_take pass0 (pa_cons (pv 0) (pa_cons (pe_callB call_len_seq (by rfl) W.f_len (by decide +kernel) (pa_cons (pv 3) pa_nil)) pa_nil))))
    (pss_cons (ps_if (pt_cmpR op_lt (pv 4) pe_int (nomark _)) (pss_one (ps_asg (pe_cal O__law_spoilt (hr.mono (by omega)) W.g__law_spoilt pass0 (pa_cons (pv 0) (pa_cons (pe_ix ix_list (pv 3) (pv 5) (fun _ _ => rfl)) pa_nil))) (pg_sub (pv 3) (pv 5) set_list))) (pss_one (ps_if (pt_cmpR op_eq (pv 4) pe_int (nomark _)) (pss_one (ps_expr (pe_bm PySem.F.plainAttrs_list PySem.F.slot_list_pop PySem.F.type_list_pop mt_popAt (pv 3) (pa_cons (pv 5) pa_nil)))) (pss_one (ps_if (pt_cmpR op_eq (pv 4) pe_int (nomark _)) (pss_one (ps_expr (pe_bm PySem.F.plainAttrs_list PySem.F.slot_list_insert PySem.F.type_list_insert mt_insert (pv 3) (pa_cons (pv 5) (pa_cons (pe_ix ix_list (pv 3) (pe_cal O__law_take (hr.mono (by omega)) W.g__law_take pass0 (pa_cons (pv 0) (pa_cons (pe_callB call_len_seq (by rfl) W.f_len (by decide +kernel) (pa_cons (pv 3) pa_nil)) pa_nil))) (fun _ _ => rfl)) pa_nil))))) (pss_one (ps_if (pt_cmpR op_eq (pv 4) pe_int (nomark _)) (pss_one (ps_expr (pe_bm PySem.F.plainAttrs_list PySem.F.slot_list_insert PySem.F.type_list_insert mt_insert (pv 3) (pa_cons (pe_op op_add (pv 5) pe_int) (pa_cons (pe_cal O__law_one (hr.mono (by omega)) W.g__law_one pass0 (pa_cons (pv 0) (pa_cons (pv 2) pa_nil))) pa_nil))))) (pss_one (ps_set (i := 3) nd rfl (Or.inl rfl) (pe_cal O__law_mixed (hr.mono (by omega)) W.g__law_mixed pass0 (pa_cons (pv 0) (pa_cons (pv 3) pa_nil))))))))))))
    (pss_one (ps_ret (pe_join pe_str (pv 3))))))), ?_⟩
  obtain ⟨b, c, m, s, more, k, rfl, hB, hm, nmb, hT, hk, hm0, hm1, hmo, hq⟩ := h
  have hs := hT.1
  refine ⟨_, rfl, ⟨_, rfl⟩, _, _, rfl, rfl, len_one (c := 10) (by decide), by rw [S_len]; exact small (by omega), fun l hl => ?_⟩
  rw [split_one (c := 10) (by decide) (by decide), ← sV_str]
  have nlb : l ≠ b := (hB.ne hl).1
  have nlc : l ≠ c := (hB.ne hl).2
  have nlm : m ≠ l := ne_of_none hm hl
  have s1 := same_new (o := .lst (sV (M.sp 10 s))) hl
  have hl1 : upd H l (.lst (sV (M.sp 10 s))) l = some (.lst (sV (M.sp 10 s))) := upd_same
  have hB1 := hB.keep s1
  generalize upd H l (.lst (sV (M.sp 10 s))) = H1 at s1 hl1 hB1 ⊢
  have hW := M.Wd_sp 10 s
  have hne := M.sp_ne 10 s
  have hcnt := M.sp_len 10 s
  have hcl := List.count_le_length (a := 10) (l := s)
  have hys := hT.2
  generalize M.sp 10 s = ys at hl1 hW hne hcnt hys ⊢
  have hyl : (sV ys).length = ys.length := by rw [List.length_map]
  have hpos : 0 < ys.length := List.length_pos_iff.mpr hne
  refine ⟨_, rfl, b, c, 6, rfl, by decide, by decide, hB1, fun way H2 hway e2 hB2 => ⟨_, _, rfl, ?_⟩⟩
  have hl2 := e2 _ _ hl1 nlb
  refine ⟨_, rfl, _, rfl, l, _, rfl, .inl (sql hl2), b, c, (sV ys).length, rfl, by omega, by omega, hB2, fun at' H3 hat e3 hB3 => ?_⟩
  rw [hyl] at hat
  have hl3 := e3 _ _ hl2 nlb
  have e03 : SameB b H H3 := (SameB.of s1).trans (e2.trans e3)
  have hm3 := e03 _ _ hm nmb
  obtain ⟨y, hy⟩ : ∃ y, ys[at']? = some y := ⟨_, List.getElem?_eq_getElem hat⟩
  have hyv : (sV ys)[at']? = some (V.str (S y)) := by rw [List.getElem?_map, hy]; rfl
  have hyb := hys y (List.mem_of_getElem? hy)
  clear e2 e3 hl1 hl2 hB1 hB2
  have putB : ∀ {H4 : Hp} {o : HO}, SameB b H H4 → SameB b H (upd H4 l o) := fun e b' u z n => by
    rw [upd_ne (ne_of_none z hl)]
    exact e _ _ z n
  dsimp only [gName]
  refine seq_cont (fun σ' H' => ∃ l' ys' x4 x5, σ' = [some (.ref b), some (.str (S s)), some (.ref m), some (.ref l'), x4, x5] ∧ SameB b H H' ∧ Bag H' b c ∧ H' l' = some (.lst (sV ys')) ∧ M.Wd ys' ≤ s.length + 600 ∧ ∀ y ∈ ys', M.om y ≤ 40 + 4 * (k + 1) ∧ y.length ≤ 400 + 20 * (k + 1)) (fun N hN => ?_) (fun σ' H' hR => ?_)
  · have old : ∀ z ∈ ys, M.om z ≤ 40 + 4 * (k + 1) ∧ z.length ≤ 400 + 20 * (k + 1) := fun z hz => by have := hys z hz; omega
    refine ⟨_, rfl, _, _, rfl, rfl, _, rfl, ?_⟩
    by_cases h2 : way < 2
    · refine iteE true (decide_eq_true (by omega)) (iteT ?_)
      refine ⟨_, rfl, _, rfl, _, rfl, l, _, _, _, rfl, rfl, sql hl3, atI_nat hyv, b, c, y, rfl, hB3, by omega, fun s' H4 e4 hB4 g1 g2 g3 => ?_⟩
      have hl4 := e4 _ _ hl3 nlb
      refine ⟨_, rfl, _, rfl, l, _, _, at', rfl, rfl, hl4, ixNat (by rw [hyl]; exact hat), ?_⟩
      refine hN _ _ ⟨l, ys.set at' s', _, _, rfl, putB (e03.trans e4), hB4.put nlb nlc, ?_, ?_, fun z hz => ?_⟩
      · rw [upd_same]
        show _ = some (HO.lst ((ys.set at' s').map fun n => V.str (S n)))
        rw [List.map_set]
      · have := M.Wd_set s' ys at'
        omega
      · rcases List.mem_or_eq_of_mem_set hz with hz | rfl
        · exact old z hz
        · omega
    refine iteE false (decide_eq_false (by omega)) (iteF ⟨_, rfl, rfl, _, rfl, ?_⟩)
    by_cases h3 : way = 2
    · refine iteE true (decide_eq_true (by rw [h3] <;> rfl)) (iteT ?_)
      refine ⟨_, rfl, .inl ⟨rfl, _, sql hl3⟩, _, rfl, l, _, _, at', _, rfl, rfl, hl3, ?_, ?_, (ixN_seq (ixNat (by rw [hyl]; exact hat))).1, hyv, ?_⟩
      · exact Int.le_trans (show -(2 ^ 63 : Int) ≤ 0 by decide) (by omega)
      · exact Int.lt_of_le_of_lt (show ((at' : Nat) : Int) ≤ 1000000 by omega) (by decide)
      · refine hN _ _ ⟨l, ys.eraseIdx at', _, _, rfl, putB e03, hB3.put nlb nlc, ?_, ?_, fun z hz => old z (List.mem_of_mem_eraseIdx hz)⟩
        · rw [upd_same, erase_map]
        · have := M.Wd_erase ys at'
          omega
    refine iteE false (decide_eq_false (fun z => h3 (by injection z with z; omega))) (iteF ⟨_, rfl, rfl, _, rfl, ?_⟩)
    have ins : ∀ (i : Nat) (z : List Nat) (H4 : Hp), SameB b H H4 → Bag H4 b c → H4 l = some (.lst (sV ys)) → M.om z ≤ 40 + 4 * (k + 1) ∧ z.length ≤ 400 + 20 * (k + 1) → ∃ ys', (upd H4 l (.lst ((sV ys).take (i : Int).toNat ++ [V.str (S z)] ++ (sV ys).drop (i : Int).toNat))) l = some (.lst (sV ys')) ∧ M.Wd ys' ≤ s.length + 600 ∧ ∀ y ∈ ys', M.om y ≤ 40 + 4 * (k + 1) ∧ y.length ≤ 400 + 20 * (k + 1) := fun i z H4 e4 hB4 hl4 hz => by
      refine ⟨ys.take i ++ [z] ++ ys.drop i, ?_, ?_, fun u hu => ?_⟩
      · rw [upd_same, Int.toNat_natCast]
        simp only [List.map_append, List.map_take, List.map_drop, List.map_cons, List.map_nil]
      · have h1 : M.Wd (ys.take i ++ ys.drop i) = M.Wd ys := by rw [List.take_append_drop]
        rw [M.Wd_app] at h1
        rw [M.Wd_app, M.Wd_app, M.Wd_cons]
        have : M.Wd [] = 0 := rfl
        omega
      · rcases List.mem_append.mp hu with hu | hu
        · rcases List.mem_append.mp hu with hu | hu
          · exact old u (List.mem_of_mem_take hu)
          · rw [List.mem_singleton.mp hu]
            exact hz
        · exact old u (List.mem_of_mem_drop hu)
    by_cases h4 : way = 3
    · refine iteE true (decide_eq_true (by rw [h4] <;> rfl)) (iteT ?_)
      refine ⟨_, rfl, .inl ⟨rfl, _, sql hl3⟩, _, rfl, _, rfl, _, rfl, _, rfl, l, _, rfl, .inl (sql hl3), b, c, (sV ys).length, rfl, by omega, by omega, hB3, fun j H4 hj e4 hB4 => ?_⟩
      rw [hyl] at hj
      have hl4 := e4 _ _ hl3 nlb
      obtain ⟨z, hz⟩ : ∃ z, ys[j]? = some z := ⟨_, List.getElem?_eq_getElem hj⟩
      have hzv : (sV ys)[j]? = some (V.str (S z)) := by rw [List.getElem?_map, hz]; rfl
      obtain ⟨ys', i1, i2, i3⟩ := ins at' z H4 (e03.trans e4) hB4 hl4 (old z (List.mem_of_getElem? hz))
      refine ⟨l, _, _, _, rfl, rfl, sql hl4, atI_nat hzv, l, _, (at' : Nat), _, rfl, rfl, hl4, Nat.lt_of_lt_of_le (show (sV ys).length < 1000000 by omega) (by decide), by omega, Int.lt_of_le_of_lt (show ((at' : Nat) : Int) ≤ 1000000 by omega) (by decide), ?_⟩
      exact hN _ _ ⟨l, ys', _, _, rfl, putB (e03.trans e4), hB4.put nlb nlc, i1, i2, i3⟩
    refine iteE false (decide_eq_false (fun z => h4 (by injection z with z; omega))) (iteF ⟨_, rfl, rfl, _, rfl, ?_⟩)
    by_cases h5 : way = 4
    · refine iteE true (decide_eq_true (by rw [h5] <;> rfl)) (iteT ?_)
      refine ⟨_, rfl, .inl ⟨rfl, _, sql hl3⟩, _, rfl, _, _, rfl, rfl, _, rfl, _, rfl, b, c, m, sV more, rfl, hB3, by rw [List.length_map]; exact hm0, by rw [List.length_map]; omega, .inl fun H' e => sql (e _ _ hm3 nmb), fun x hx H4 e4 hB4 => ?_⟩
      obtain ⟨z, hz, rfl⟩ := List.mem_map.mp hx
      have hl4 := e4 _ _ hl3 nlb
      have hzb := hmo z hz
      obtain ⟨ys', i1, i2, i3⟩ := ins (at' + 1) z H4 (e03.trans e4) hB4 hl4 (by omega)
      refine ⟨l, _, ((at' + 1 : Nat) : Int), _, rfl, rfl, hl4, Nat.lt_of_lt_of_le (show (sV ys).length < 1000000 by omega) (by decide), by omega, Int.lt_of_le_of_lt (show ((at' + 1 : Nat) : Int) ≤ 1000000 by omega) (by decide), ?_⟩
      exact hN _ _ ⟨l, ys', _, _, rfl, putB (e03.trans e4), hB4.put nlb nlc, i1, i2, i3⟩
    refine iteE false (decide_eq_false (fun z => h5 (by injection z with z; omega))) (iteF ?_)
    refine ⟨_, rfl, _, rfl, b, c, l, sV ys, rfl, hB3, hl3, nlb, by omega, fun m2 vs H4 e4 hB4 hm0 hm4 hperm => ?_⟩
    obtain ⟨ys', rfl, hp⟩ := perm_sV hperm
    refine hN _ _ ⟨m2, ys', _, _, rfl, e03.trans e4, hB4, hm4, ?_, fun z hz => old z (hp.mem_iff.mp hz)⟩
    rw [M.Wd_perm hp]
    omega
  · obtain ⟨l', ys', x4, x5, rfl, e4, hB4, hl4, hW', hys'⟩ := hR
    have hjl := (M.join_Wd 10 ys').1
    refine ⟨⟨_, rfl⟩, _, rfl, _, l', ys'.map S, rfl, rfl, .inl (sql (by rw [hl4, sV_str])), join_ok (c := 10) (by decide) (by omega), ?_⟩
    rw [join_one (c := 10) (by decide)]
    exact hq _ _ e4 hB4 (M.TxB.of (by omega) hys')
end
end K93
end

section
set_option Elab.async false
set_option linter.all false
set_option maxRecDepth 100000
set_option maxHeartbeats 8000000
/-! k93: the texts drawn. -/
namespace K93
open PySem PySem.Spec PyProof.Rows L2 He HL
theorem txb_small {s : List Nat} (h1 : s.length ≤ 400) (h2 : M.om s ≤ 40) : M.TxB 0 s := ⟨by omega, fun l hl => by
  have := M.sp_piece 10 hl
  omega⟩
theorem all2_ex {α : Type} {R : V → α → Prop} {P : α → Prop} : ∀ {us : List V}, (∀ v ∈ us, ∃ x, R v x ∧ P x) → ∃ xs, All2 R us xs ∧ ∀ x ∈ xs, P x
  | [], _ => ⟨[], trivial, fun _ z => nomatch z⟩
  | u :: us, h => by
    obtain ⟨x, h1, h2⟩ := h u List.mem_cons_self
    obtain ⟨xs, h3, h4⟩ := all2_ex (us := us) fun v hv => h v (List.mem_cons_of_mem _ hv)
    exact ⟨x :: xs, ⟨h1, h3⟩, fun y hy => by
      rcases List.mem_cons.mp hy with rfl | hy
      · exact h2
      · exact h4 y hy⟩
theorem all2_rep {α : Type} {R : V → α → Prop} {v : V} {x : α} (h : R v x) : ∀ n : Nat, All2 R (List.replicate n [v]).flatten (List.replicate n x)
  | 0 => trivial
  | n + 1 => by
    rw [List.replicate_succ, List.replicate_succ, List.flatten_cons]
    exact ⟨h, all2_rep h n⟩
section
variable {w : World} {K : PySem.W.Frag} {mg : Str → Option Value} {base : Heap}
/-- t[:k] -/
theorem sliceK {i k : Nat} {σ : L2.St} {H : Hp} {Q : VK} {t : Addr} {ns : List (List Nat)} (hσ : σ[i]? = some (some (.ref t))) (hN : Names H t ns) (h : ∀ a H', Same H H' → Names H' a (ns.take k) → Q (.ref a) H') : tSl (rSlA K) (tVar i) tNoPart (tPart (tC (.int (k : Nat)))) σ H Q := by
  have e1 : HT.sIx (sV ns).length (sV ns).length (some ((k : Nat) : Int)) = min k (sV ns).length := HT.sIx_nat _ _ k
  have hl2 : (sV ns).length = ns.length := by rw [List.length_map]
  refine ⟨_, hσ, (k : Nat), rfl, t, sV ns, rfl, sqt hN.1, fun hz => h t H (.refl _) ?_, fun hz p hp => h p _ (same_new hp) ?_⟩
  · have h2 := hz.2
    rw [e1, hl2] at h2
    rw [List.take_of_length_le (by omega)]
    exact hN
  · refine ⟨?_, fun n hn => hN.2.1 n (List.mem_of_mem_take hn), ?_⟩
    · rw [upd_same, show cutV (sV ns) none (some ((k : Nat) : Int)) = sV (ns.take k) from cutV_to _ ns k]
    · have := hN.2.2
      rw [List.length_take]
      omega
abbrev n_law_text : List Str := ["_law_bag_here", "_law_asks", "_law_steps", "_law_told_here", "_law_some", "_law_more"]
theorem sc_law_text : FnScope n_law_text ["_law_bag_here"] (defScope s_law_text) := ⟨rfl, rfl, rfl, by decide +kernel, rfl, by decide +kernel, by decide +kernel⟩
theorem bi_law_text : ∀ (kV doc pm : Value) (an : Option Addr) (cdv ct : Value) (us : List Value), us.length = 1 → bindArgs (PySem.W.fnOf d_law_text.name d_law_text.qual d_law_text.params d_law_text.body d_law_text.scope .none kV doc pm an cdv ct) ⟨us, []⟩ = pure ([("_law_bag_here" : Str)].zip us) := fun kV doc pm an cdv ct us hu => by
  match us, hu with
  | [u0], _ => rfl
def Tx0 (v : V) : Prop := (∃ s, v = .str (S s) ∧ M.TxB 0 s) ∨ v = .non ∨ v = .int 5
def spText : Sp := fun vs H Q _ => ∃ b c, vs = [.ref b] ∧ Bag H b c ∧ ∀ v H', SameB b H H' → Bag H' b c → Tx0 v → Q v H'
theorem o_text (W : Wl K mg) : OkD w K mg base CX0 45 d_law_text ["_law_bag_here"] spText := by
  have O__law_take := o_take (w := w) (base := base) W
  have O__law_one := o_one (w := w) (base := base) W
  have O__law_names := o_names (w := w) (base := base) W
  have O__law_told := o_told (w := w) (base := base) W
  have O__law_facts_text := o_fstext (w := w) (base := base) W
  refine HL.ok_of0 W.D_law_text sc_law_text (fun vs H Q E ⟨_, _, h, _⟩ => by rw [h]; rfl) bi_law_text fun cdv A outer s H vs Q E hr h => ?_
  have nd := sc_law_text.nd
  refine ⟨_, (pss_cons (ps_par (i := 1) (j := 2) (by rfl) nd rfl rfl (by decide) rfl rfl (pa_cons (pe_cal O__law_names (hr.mono (by omega)) W.g__law_names pass0 (pa_cons (pv 0) (pa_cons (pe_cal O__law_take (hr.mono (by omega)) W.g__law_take pass0 (pa_cons (pv 0) (pa_cons pe_int pa_nil))) pa_nil))) (pa_cons (pe_cal O__law_names (hr.mono (by omega)) W.g__law_names pass0 (pa_cons (pv 0) (pa_cons (pe_cal O__law_take (hr.mono (by omega)) W.g__law_take pass0 (pa_cons (pv 0) (pa_cons pe_int pa_nil))) pa_nil))) pa_nil)) (by rfl))
    (pss_cons (ps_set (i := 3) nd rfl (Or.inl rfl) (pe_cal O__law_told (hr.mono (by omega)) W.g__law_told pass0 (pa_cons (pv 0) (pa_cons (pe_slice sl_tupA (pv 1) po_none (po_some pe_int)) (pa_cons (pe_slice sl_tupA (pv 2) po_none (po_some pe_int)) (pa_cons (pe_ix ix_list (pe_lst (pa_cons pe_int (pa_cons pe_int pa_nil))) (pe_callTy call_int1 (by rfl) W.f_int (by decide +kernel) (pa_cons (pe_cmpR op_eq (pe_cal O__law_take (hr.mono (by omega)) W.g__law_take pass0 (pa_cons (pv 0) (pa_cons pe_int pa_nil))) pe_int (nomark _)) pa_nil)) (fun _ _ => rfl)) pa_nil))))))
    (pss_cons (ps_set (i := 4) nd rfl (Or.inl rfl) (pe_lst (pa_cons (pe_cal O__law_facts_text (hr.mono (by omega)) W.g__law_facts_text pass0 (pa_cons (pv 1) (pa_cons (pv 2) (pa_cons (pv 3) pa_nil)))) (pa_cons (pe_cal O__law_facts_text (hr.mono (by omega)) W.g__law_facts_text pass0 (pa_cons (pe_slice sl_tupA (pv 1) po_none (po_some pe_int)) (pa_cons (pe_slice sl_tupA (pv 2) po_none (po_some pe_int)) (pa_cons (pv 3) pa_nil)))) pa_nil))))
    (pss_cons (ps_set (i := 5) nd rfl (Or.inl rfl) (pe_lst (pa_cons pe_non (pa_cons pe_str (pa_cons pe_int (pa_cons pe_str (pa_cons pe_str (pa_cons pe_str (pa_cons pe_str pa_nil)))))))))
    (pss_cons (ps_expr (pe_bm PySem.F.plainAttrs_list PySem.F.slot_list_append PySem.F.type_list_append mt_append (pv 5) (pa_cons (pe_cal O__law_facts_text (hr.mono (by omega)) W.g__law_facts_text pass0 (pa_cons (pe_tup pa_nil) (pa_cons (pe_tup pa_nil) (pa_cons (pe_op op_rep (pe_lst (pa_cons (pe_tup (pa_cons pe_str (pa_cons (pe_tup (pa_cons pe_str pa_nil)) pa_nil))) pa_nil)) pe_int) pa_nil)))) pa_nil)))
    (pss_one (ps_ret (pe_cal O__law_one (hr.mono (by omega)) W.g__law_one pass0 (pa_cons (pv 0) (pa_cons (pe_op op_cat (pe_op op_rep (pv 4) pe_int) (pv 5)) pa_nil)))))))))), ?_⟩
  obtain ⟨b, c, rfl, hB, hq⟩ := h
  refine ⟨_, rfl, _, rfl, b, c, 6, rfl, by decide, by decide, hB, fun m1 H1 hm1 e1 hB1 => ⟨b, c, m1, rfl, by omega, hB1, fun t1 n1 H2 e2 hB2 hN1 => ?_⟩⟩
  refine ⟨_, rfl, _, rfl, b, c, 7, rfl, by decide, by decide, hB2, fun m2 H3 hm2 e3 hB3 => ⟨b, c, m2, rfl, by omega, hB3, fun t2 n2 H4 e4 hB4 hN2 => ⟨_, _, rfl, ?_⟩⟩⟩
  have hN1 := hN1.keep ((hB2.tup e3).trans (hB3.tup e4))
  have e04 : SameB b H H4 := e1.trans (e2.trans (e3.trans e4))
  clear e1 e2 e3 e4 hB hB1 hB2 hB3
  refine ⟨_, rfl, ?_⟩
  refine sliceK (K := K) (k := 4) rfl hN1 fun a1 H5 e5 hA1 => ?_
  refine sliceK (K := K) (k := 5) rfl (hN2.keep (.of e5)) fun a2 H6 e6 hA2 => ?_
  have hA1 := hA1.keep (.of e6)
  have e46 := e5.trans e6
  have hB6 := hB4.keep e46
  refine ⟨by show 2 ≤ sizeLine; decide, fun l7 hl7 => ?_⟩
  have s7 := same_new (o := .lst [V.int 4, V.int 24]) hl7
  have nl7 := (hB6.ne hl7).1
  have hl7v : upd H6 l7 (.lst [V.int 4, V.int 24]) l7 = some (.lst [V.int 4, V.int 24]) := upd_same
  generalize upd H6 l7 (.lst [V.int 4, V.int 24]) = H7 at s7 hl7v ⊢
  have hB7 := hB6.keep s7
  have e47 := e46.trans s7
  refine ⟨_, rfl, b, c, 4, rfl, by decide, by decide, hB7, fun n4 H8 hn4 e8 hB8 => ⟨rfl, .inr ⟨_, rfl, ?_⟩⟩⟩
  obtain ⟨u, hu, hu24⟩ : ∃ u : Nat, atI [V.int 4, V.int 24] (if decide (V.int ((n4 : Nat) : Int) = V.int 0) = true then 1 else 0) = some (V.int (u : Nat)) ∧ u ≤ 24 := by
    cases decide (V.int ((n4 : Nat) : Int) = V.int 0) with
    | true => exact ⟨24, rfl, by decide⟩
    | false => exact ⟨4, rfl, by decide⟩
  have tk48 : TupK H4 H8 := (TupK.of e47).trans (hB7.tup e8)
  have tk68 : TupK H6 H8 := (TupK.of s7).trans (hB7.tup e8)
  refine ⟨l7, _, _, _, rfl, rfl, sql (e8 _ _ hl7v nl7), hu, b, c, a1, a2, _, _, u, rfl, by omega, hB8, hA1.keep tk68, hA2.keep tk68, fun l us H9 e9 hB9 hl0 hl hul hus => ?_⟩
  have e09 : SameB b H H9 := e04.trans ((SameB.of e47).trans (e8.trans e9))
  have nlb : l ≠ b := (hB8.ne hl0).1
  have tk49 := tk48.trans (hB8.tup e9)
  have hN1 := hN1.keep tk49
  have hN2 := hN2.keep tk49
  obtain ⟨fs, hA, hfw⟩ := all2_ex hus
  have hfl : fs.length ≤ 25 := by
    have := hA.length
    omega
  clear e04 e5 e6 hA1 hA2 e46 hB6 hl7 s7 nl7 hl7v hB7 e47 e8 hB8 tk48 tk68 e9 tk49 hl0 hB4 hu hus
  dsimp only [gName]
  -- the two texts
  refine ⟨_, rfl, _, rfl, _, rfl, t1, t2, l, n1, n2, us, fs, rfl, hN1, hN2, hl, hA, hfl, hfw, fun H10 e10 htx1 => ?_⟩
  have hN1 := hN1.keep (.of e10)
  have hN2 := hN2.keep (.of e10)
  refine sliceK (K := K) (k := 4) rfl hN1 fun a1 H11 e11 hA1 => ?_
  refine sliceK (K := K) (k := 5) rfl (hN2.keep (.of e11)) fun a2 H12 e12 hA2 => ?_
  have e912 := e10.trans (e11.trans e12)
  refine ⟨_, rfl, a1, a2, l, _, _, us, fs, rfl, hA1.keep (.of e12), hA2, e912 _ _ hl, hA.imp fun v x z => z.keep (.of e912), hfl, hfw, fun H13 e13 htx2 => ⟨by show 2 ≤ sizeLine; decide, fun L hL => ?_⟩⟩
  have e913 := e912.trans e13
  generalize M.shFs (n1, n2, fs) = x1 at htx1 hL ⊢
  generalize M.shFs (List.take 4 n1, List.take 5 n2, fs) = x2 at htx2 hL ⊢
  have s14 := same_new (o := .lst [V.str (S x1), V.str (S x2)]) hL
  have hLv : upd H13 L (.lst [V.str (S x1), V.str (S x2)]) L = some (.lst [V.str (S x1), V.str (S x2)]) := upd_same
  generalize upd H13 L (.lst [V.str (S x1), V.str (S x2)]) = H14 at s14 hLv ⊢
  have e0E : SameB b H H14 := e09.trans (.of (e913.trans s14))
  have hBE := hB9.keep (e913.trans s14)
  clear hA1 hA2 e10 e11 e12 e912 e13 e913 e09 hN1 hN2 hl hA hL s14 hB9
  dsimp only [gName]
  refine ⟨by show 7 ≤ sizeLine; decide, fun R hR => ?_⟩
  have nRb := (hBE.ne hR).1
  have nRc := (hBE.ne hR).2
  have nLR : L ≠ R := ne_of_none hLv hR
  have s15 := same_new (o := .lst [V.non, .str "", .int 5, .str "asks", .str "asks\nsteps", .str "asks \nsteps", .str "steps\nasks"]) hR
  have hRv : upd H14 R (.lst [V.non, .str "", .int 5, .str "asks", .str "asks\nsteps", .str "asks \nsteps", .str "steps\nasks"]) R = some (.lst [V.non, .str "", .int 5, .str "asks", .str "asks\nsteps", .str "asks \nsteps", .str "steps\nasks"]) := upd_same
  have hLv := s15 _ _ hLv
  have hRn : H R = none := e0E.free hR nRb
  have e0F := e0E.trans (.of s15)
  have hBF := hBE.keep s15
  generalize upd H14 R (.lst [V.non, .str "", .int 5, .str "asks", .str "asks\nsteps", .str "asks \nsteps", .str "steps\nasks"]) = H15 at s15 hRv hLv e0F hBF ⊢
  clear e0E hBE s15 hR
  dsimp only [gName]
  refine ⟨_, rfl, .inl ⟨rfl, _, sql hRv⟩, by decide, fun p1 hp1 => ⟨by decide, fun p2 hp2 => ⟨by show 1 ≤ sizeLine; decide, fun p3 hp3 => ⟨by show 2 ≤ sizeLine; decide, fun p4 hp4 => ⟨by show 1 ≤ sizeLine; decide, fun p5 hp5 => ⟨p5, 25, [V.ref p4], rfl, rfl, upd_same, by decide, by decide, by show 25 ≤ sizeLine; decide, fun p6 hp6 => ?_⟩⟩⟩⟩⟩⟩
  have s1 := same_new (o := .tup []) hp1
  have s2 := same_new (o := .tup []) hp2
  have s3 := same_new (o := .tup [V.str (Str.ofString "yes")]) hp3
  have s4 := same_new (o := .tup [V.str (Str.ofString "always"), V.ref p3]) hp4
  have s5 := same_new (o := .lst [V.ref p4]) hp5
  have s6 := same_new (o := .lst (List.replicate (25 : Int).toNat [V.ref p4]).flatten) hp6
  have v1 := s6 _ _ (s5 _ _ (s4 _ _ (s3 _ _ (s2 _ _ (upd_same (H := H15) (a := p1) (o := .tup []))))))
  have v2 := s6 _ _ (s5 _ _ (s4 _ _ (s3 _ _ (upd_same (H := upd H15 p1 (.tup [])) (a := p2) (o := .tup [])))))
  have v3 := s6 _ _ (s5 _ _ (s4 _ _ (upd_same (H := upd (upd H15 p1 (.tup [])) p2 (.tup [])) (a := p3) (o := .tup [V.str (Str.ofString "yes")]))))
  have v4 := s6 _ _ (s5 _ _ (upd_same (H := upd (upd (upd H15 p1 (.tup [])) p2 (.tup [])) p3 (.tup [V.str (Str.ofString "yes")])) (a := p4) (o := .tup [V.str (Str.ofString "always"), V.ref p3])))
  have v6 := upd_same (H := upd (upd (upd (upd (upd H15 p1 (.tup [])) p2 (.tup [])) p3 (.tup [V.str (Str.ofString "yes")])) p4 (.tup [V.str (Str.ofString "always"), V.ref p3])) p5 (.lst [V.ref p4])) (a := p6) (o := .lst (List.replicate (25 : Int).toNat [V.ref p4]).flatten)
  have sA := s1.trans (s2.trans (s3.trans (s4.trans (s5.trans s6))))
  generalize upd (upd (upd (upd (upd (upd H15 p1 (.tup [])) p2 (.tup [])) p3 (.tup [V.str (Str.ofString "yes")])) p4 (.tup [V.str (Str.ofString "always"), V.ref p3])) p5 (.lst [V.ref p4])) p6 (.lst (List.replicate (25 : Int).toNat [V.ref p4]).flatten) = H16 at v1 v2 v3 v4 v6 sA ⊢
  clear s1 s2 s3 s4 s5 s6 hp1 hp2 hp3 hp4 hp5 hp6
  have hF : FAt H16 (.alw (.word true)) (.ref p4) := by
    refine ⟨p4, .ref p3, rfl, by rw [v4, sq "always"], ?_⟩
    unfold CAt
    exact ⟨p3, rfl, by rw [v3, sq "yes"]; rfl⟩
  refine ⟨p1, p2, p6, [], [], _, List.replicate 25 (.alw (.word true)), rfl, ⟨v1, (fun _ z => (nomatch z)), Nat.zero_le _⟩, ⟨v2, (fun _ z => (nomatch z)), Nat.zero_le _⟩, v6, all2_rep hF 25, by rw [List.length_replicate]; exact Nat.le_refl _, fun f hf => ?_, fun H17 e17 htx3 => ?_⟩
  · rw [(List.mem_replicate.mp hf).2]
    exact ⟨trivial, by decide, by decide⟩
  generalize M.shFs ([], [], List.replicate 25 (M.Fact.alw (.word true))) = x3 at htx3 ⊢
  have e15 := sA.trans e17
  have hR17 := e15 _ _ hRv
  have hL17 := e15 _ _ hLv
  refine ⟨R, _, _, rfl, rfl, hR17, by show 7 < sizeLine; decide, ?_⟩
  have hB18 := (hBF.keep e15).put nRb nRc (o := .lst ([V.non, .str "", .int 5, .str "asks", .str "asks\nsteps", .str "asks \nsteps", .str "steps\nasks"] ++ [V.str (S x3)]))
  have e018 : SameB b H (upd H17 R (.lst ([V.non, .str "", .int 5, .str "asks", .str "asks\nsteps", .str "asks \nsteps", .str "steps\nasks"] ++ [V.str (S x3)]))) := fun b' o h n => by
    rw [upd_ne (ne_of_none h hRn)]
    exact e15 _ _ (e0F _ _ h n)
  have hR18 : upd H17 R (.lst ([V.non, .str "", .int 5, .str "asks", .str "asks\nsteps", .str "asks \nsteps", .str "steps\nasks"] ++ [V.str (S x3)])) R = some (.lst ([V.non, .str "", .int 5, .str "asks", .str "asks\nsteps", .str "asks \nsteps", .str "steps\nasks"] ++ [V.str (S x3)])) := upd_same
  have hL18 : upd H17 R (.lst ([V.non, .str "", .int 5, .str "asks", .str "asks\nsteps", .str "asks \nsteps", .str "steps\nasks"] ++ [V.str (S x3)])) L = some (.lst [V.str (S x1), V.str (S x2)]) := by
    rw [upd_ne nLR]
    exact hL17
  generalize upd H17 R (.lst ([V.non, .str "", .int 5, .str "asks", .str "asks\nsteps", .str "asks \nsteps", .str "steps\nasks"] ++ [V.str (S x3)])) = H18 at hB18 e018 hR18 hL18 ⊢
  clear e0F hBF v1 v2 v3 v4 v6 sA e17 e15 hR17 hL17 hF hLv hRv
  refine ⟨_, rfl, _, rfl, L, 6, _, rfl, rfl, hL18, by decide, by decide, by show 12 ≤ sizeLine; decide, fun J hJ => ⟨_, rfl, J, R, _, _, rfl, rfl, upd_same, same_new hJ _ _ hR18, by show 20 ≤ sizeLine; decide, fun J2 hJ2 => ?_⟩⟩
  have t1 := same_new (o := .lst (List.replicate (6 : Int).toNat [V.str (S x1), V.str (S x2)]).flatten) hJ
  have t2 := same_new (o := .lst ((List.replicate (6 : Int).toNat [V.str (S x1), V.str (S x2)]).flatten ++ ([V.non, .str "", .int 5, .str "asks", .str "asks\nsteps", .str "asks \nsteps", .str "steps\nasks"] ++ [V.str (S x3)]))) hJ2
  have hBJ := (hB18.keep t1).keep t2
  have nJ2 := ((hB18.keep t1).ne hJ2).1
  refine ⟨b, c, J2, _, rfl, hBJ, by show 0 < 20; decide, by show 20 < 1000000; decide, .inl fun H' e => sql (e _ _ upd_same nJ2), fun x hx H' e' hB' => ?_⟩
  refine hq _ _ (e018.trans ((SameB.of (t1.trans t2)).trans e')) hB' ?_
  have oqs : ∀ z : String, V.str (Str.ofString z) = V.str (S (M.q z)) := fun z => sq z
  rcases List.mem_append.mp hx with hx | hx
  · obtain ⟨ys, hy, hx⟩ := List.mem_flatten.mp hx
    rw [(List.mem_replicate.mp hy).2] at hx
    rcases List.mem_cons.mp hx with rfl | hx
    · exact .inl ⟨x1, rfl, htx1⟩
    · rw [List.mem_singleton.mp hx]
      exact .inl ⟨x2, rfl, htx2⟩
  · rcases List.mem_append.mp hx with hx | hx
    · rcases List.mem_cons.mp hx with rfl | hx
      · exact .inr (.inl rfl)
      rcases List.mem_cons.mp hx with rfl | hx
      · exact .inl ⟨M.q "", oqs "", txb_small (by decide) (by decide)⟩
      rcases List.mem_cons.mp hx with rfl | hx
      · exact .inr (.inr rfl)
      rcases List.mem_cons.mp hx with rfl | hx
      · exact .inl ⟨M.q "asks", oqs "asks", txb_small (by decide) (by decide)⟩
      rcases List.mem_cons.mp hx with rfl | hx
      · exact .inl ⟨M.q "asks\nsteps", oqs "asks\nsteps", txb_small (by decide) (by decide)⟩
      rcases List.mem_cons.mp hx with rfl | hx
      · exact .inl ⟨M.q "asks \nsteps", oqs "asks \nsteps", txb_small (by decide) (by decide)⟩
      · rw [List.mem_singleton.mp hx]
        exact .inl ⟨M.q "steps\nasks", oqs "steps\nasks", txb_small (by decide) (by decide)⟩
    · rw [List.mem_singleton.mp hx]
      exact .inl ⟨x3, rfl, htx3⟩
end
end K93
end

section
set_option Elab.async false
set_option linter.all false
set_option maxRecDepth 100000
set_option maxHeartbeats 8000000
/-! k93: what is compared. -/
namespace K93
open PySem PySem.Spec PyProof.Rows L2 He HL
def gF : M.Fact → PyData
  | .alw c => .tuple [.str (S (M.q "always")), cd c]
  | .mk a b c => .tuple [.str (S (M.q "makes")), .str (S a), .str (S b), cd c]
def dF (f : M.FactsM) : PyData := .tuple [.tuple (f.1.map fun n => PyData.str (S n)), .tuple (f.2.1.map fun n => PyData.str (S n)), .tuple (f.2.2.map gF)]
def dN : PyData := .tuple [.str (S (M.q "none")), .none]
theorem ok_none : PyData.strOk (S (M.q "none")) = true := okS _ (by decide)
theorem ok_alw : PyData.strOk (S (M.q "always")) = true := okS _ (by decide)
theorem ok_mks : PyData.strOk (S (M.q "makes")) = true := okS _ (by decide)
theorem dN_lay : dN.canLay0 = true := by
  unfold dN
  simp only [PyData.canLay0, PyData.canLayAll0, ok_none, Bool.and_true]
theorem gF_lay {f : M.Fact} (h : f.wf) : (gF f).canLay0 = true := by
  cases f with
  | alw c => 
    have h' : c.wf := h
    simp only [gF, PyData.canLay0, PyData.canLayAll0, ok_alw, cd_lay c h', Bool.and_true]
  | mk a b c =>
    have h' : M.Nm a ∧ M.Nm b ∧ c.wf := h
    simp only [gF, PyData.canLay0, PyData.canLayAll0, ok_mks, nm_ok h'.1, nm_ok h'.2.1, cd_lay c h'.2.2, Bool.and_true]
theorem gFs_lay : ∀ {fs : List M.Fact}, (∀ f ∈ fs, f.wf) → PyData.canLayAll0 (fs.map gF) = true
  | [], _ => by simp [PyData.canLayAll0]
  | f :: fs, h => by
    rw [List.map_cons]
    simp only [PyData.canLayAll0, gF_lay (h f List.mem_cons_self), gFs_lay fun g hg => h g (List.mem_cons_of_mem _ hg), Bool.and_true]
theorem dF_lay {f : M.FactsM} (h1 : ∀ n ∈ f.1, M.Nm n) (h2 : ∀ n ∈ f.2.1, M.Nm n) (h3 : ∀ t ∈ f.2.2, t.wf) : (dF f).canLay0 = true := by
  unfold dF
  simp only [PyData.canLay0, PyData.canLayAll0, names_lay h1, names_lay h2, gFs_lay h3, Bool.and_true]
theorem gF_depth (f : M.Fact) : (gF f).depth ≤ M.om f.sh + 2 := by
  cases f with
  | alw c =>
    have h := cd_deep c
    have hs := sh_alw (c := c)
    simp only [gF, PyData.depth, PyData.depthAll]
    omega
  | mk a b c =>
    have h := cd_deep c
    have hs := sh_mk (a := a) (b := b) (c := c)
    simp only [gF, PyData.depth, PyData.depthAll]
    omega
theorem gFs_depth {D : Nat} : ∀ {fs : List M.Fact}, (∀ f ∈ fs, M.om f.sh + 2 ≤ D) → PyData.depthAll (fs.map gF) ≤ D
  | [], _ => by simp [PyData.depthAll]
  | f :: fs, h => by
    have h1 := h f List.mem_cons_self
    have h2 := gF_depth f
    have h3 := gFs_depth (D := D) (fs := fs) fun g hg => h g (List.mem_cons_of_mem _ hg)
    rw [List.map_cons]
    simp only [PyData.depthAll]
    omega
theorem ns_depth : ∀ ns : List (List Nat), PyData.depthAll (ns.map fun n => PyData.str (S n)) = 0
  | [] => by simp [PyData.depthAll]
  | n :: ns => by
    rw [List.map_cons]
    simp [PyData.depthAll, PyData.depth, ns_depth ns]
theorem dF_depth {f : M.FactsM} (h : ∀ t ∈ f.2.2, M.om t.sh ≤ 50) : (dF f).depth ≤ 60 := by
  have h1 := gFs_depth (D := 52) (fs := f.2.2) fun t ht => by have := h t ht; omega
  unfold dF
  simp only [PyData.depth, PyData.depthAll, ns_depth]
  omega
section
variable {w : World} {K : PySem.W.Frag} {mg : Str → Option Value} {base : Heap}
theorem gF_dp {H : Hp} {f : M.Fact} {v : V} (h : FAt H f v) : Dp K H v (gF f) := by
  cases f with
  | alw c => obtain ⟨a, u, rfl, h1, h2⟩ := h; exact .tup (sqt h1) (.cons (.str _) (.cons h2.dp .nil))
  | mk x y c => obtain ⟨a, u, rfl, h1, h2⟩ := h; exact .tup (sqt h1) (.cons (.str _) (.cons (.str _) (.cons (.str _) (.cons h2.dp .nil))))
theorem gFs_dp {H : Hp} : ∀ {us : List V} {fs : List M.Fact}, All2 (fun v x => FAt H x v) us fs → DpAll K H us (fs.map gF)
  | [], [], _ => .nil
  | u :: us, x :: xs, h => .cons (gF_dp h.1) (gFs_dp h.2)
  | [], _ :: _, h => h.elim
  | _ :: _, [], h => h.elim
theorem dF_dp {H : Hp} {f : M.FactsM} {t ta ts tt : Addr} {us : List V} (h : H t = some (.tup [.ref ta, .ref ts, .ref tt])) (h1 : H ta = some (.tup (sV f.1))) (h2 : H ts = some (.tup (sV f.2.1))) (h3 : H tt = some (.tup us)) (hA : All2 (fun v x => FAt H x v) us f.2.2) : Dp K H (.ref t) (dF f) :=
  .tup (sqt h) (.cons (.tup (sqt h1) (names_dp _)) (.cons (.tup (sqt h2) (names_dp _)) (.cons (.tup (sqt h3) (gFs_dp hA)) .nil)))
theorem dN_dp {H : Hp} {t : Addr} (h : H t = some (.tup [.str (S (M.q "none")), .non])) : Dp K H (.ref t) dN := .tup (sqt h) (.cons (.str _) (.cons .non .nil))
/-! ### frames, tables -/
theorem tabL {T : List (Addr × Str)} {b c : Addr} {H H' : Hp} (t : LamX.Tabs T H) (e : SameB b H H') (hB : Bag H b c) : LamX.Tabs T H' := fun x hx => by
  obtain ⟨xs, h⟩ := hB.lst
  obtain ⟨ps, h1, h2, h3⟩ := t x hx
  refine ⟨ps, e _ _ h1 (fun z => by rw [z, h] at h1; cases h1), h2, fun pos cv hc => ?_⟩
  obtain ⟨c, e1, e2⟩ := h3 pos cv hc
  exact ⟨c, e1, e _ _ e2 (fun z => by rw [z, h] at e2; exact codeO_lst (Option.some.inj e2).symm)⟩
theorem Bag.ext {H H' : Hp} {b c : Addr} (h : Bag H b c) (e : LamX.ExtN H H') : Bag H' b c := let ⟨d, m, k, ks, h1, h2, h3, h4⟩ := h; ⟨d, m, k, ks, e _ _ h1 (fun _ z => nomatch z), e _ _ h2 (fun _ z => nomatch z), h3, h4⟩
/-- is it a text? -/
theorem is_str {H : Hp} {b : Addr} {v : V} {Q : VK} (h1 : ∀ s, v = .str (S s) → Q (.bl true) H) (h2 : NoTx H b v → Q (.bl false) H) (h : (∃ s, v = .str (S s)) ∨ NoTx H b v) : rIsi K [v, .ty "str"] H Q := by
  rcases h with ⟨s, rfl⟩ | h
  · exact ⟨_, _, _, _, true, rfl, .ty _, .base (.str _), kit_ty (by decide +kernel), h1 s rfl⟩
  · obtain ⟨t, ht, hk⟩ := h.no (K := K)
    exact ⟨_, _, _, _, false, rfl, .ty _, ht, hk, h2 h⟩
/-! ### what is read -/
/-- a text and what it tells, or none -/
def VT (v : V) (r : Option M.FactsM) : Prop := (∃ s, v = .str (S s) ∧ M.TxB 2 s ∧ r = M.rdFs 61 s) ∨ ((v = .non ∨ v = .int 5) ∧ r = none)
theorem txb_lines {s : List Nat} (h : M.TxB 2 s) : s.length ≤ 30000 ∧ ∀ l ∈ M.sp 10 s, M.om l < 61 ∧ M.om l ≤ 60 ∧ l.length ≤ 3000 := ⟨by have := h.1; omega, fun l hl => by have := h.2 l hl; show M.om l < 61 ∧ _; omega⟩
theorem rdFs_facts {s : List Nat} {f : M.FactsM} (hT : M.TxB 2 s) (h : M.rdFs 61 s = some f) : M.shFs f = s ∧ (∀ n ∈ f.1, M.Nm n) ∧ (∀ n ∈ f.2.1, M.Nm n) ∧ (∀ t ∈ f.2.2, t.wf) ∧ ∀ t ∈ f.2.2, M.om t.sh ≤ 50 := by
  obtain ⟨l0, l1, fs, e, _, h1, h2, h3, _⟩ := M.rdFs_some h
  have hl : ∀ l ∈ fs, l ∈ M.sp 10 s := fun l hl => by rw [e]; simp [hl]
  refine ⟨M.rdFs_sh h, (M.namesL_some h1).2.2.1.nm, (M.namesL_some h2).2.2.1.nm, M.mapO_wf (fun l hl' => ((txb_lines hT).2 l (hl l hl')).1) h3, fun t ht => ?_⟩
  have hm : t.sh ∈ fs := by
    rw [← M.mapO_sh h3]
    exact List.mem_map.mpr ⟨t, ht, rfl⟩
  have := (hT.2 _ (hl _ hm)).1
  omega
theorem FsAt.keep {H H' : Hp} {f : M.FactsM} {v : V} (h : FsAt K H f v) (e : LamX.ExtN H H') : FsAt K H' f v := by
  obtain ⟨p, dx, ta, ts, tt, us, r, h1, h2, h3, h4, h5⟩ := h
  exact ⟨p, dx, ta, ts, tt, us, r, e _ _ h1 nofun, e _ _ h2 nofun, e _ _ h3 nofun, e _ _ h4 nofun, h5.imp fun v x z => z.keep (extT e)⟩
theorem lam_r {σ : L2.St} {H : Hp} {v : V} {r : Option M.FactsM} {Q : VK} (hT : LamX.Tabs (TK K) H) (hσ : σ[4]? = some (some v)) (hv : VT v r) (h : ∀ p H', LamX.ExtN H H' → LamX.Tabs (TK K) H' → Due (FsAt K) H' p r → Q (.ref p) H') :
    LamX.tLam (TK K) (TTr K) (fun E' => tCall (spRdFs K 61) [] E' (tCons (tVar 4) tNil)) σ H Q := by
  refine ⟨hT, fun H1 e1 T1 => ?_⟩
  refine ⟨v, hσ, v, rfl, T1, ?_⟩
  have fr : ∀ H2 p o, LamX.ExtN H1 H2 → H2 p = none → LamX.ExtN H (upd H2 p o) := fun H2 p o e hp => (e1.trans e).trans (.of (same_new hp))
  rcases hv with ⟨s, rfl, hs, rfl⟩ | ⟨hn, rfl⟩
  · obtain ⟨g1, g2⟩ := txb_lines hs
    refine .inl ⟨s, rfl, g1, fun l hl => ⟨(g2 l hl).1, (g2 l hl).2.2⟩, fun hc H2 e2 T2 => ⟨rfl, rfl, fun p hp => ?_⟩, fun c hc u H2 e2 T2 hAt => ⟨by show 2 ≤ sizeLine; decide, fun p hp => ?_⟩⟩
    · exact h p _ (fr H2 p _ e2 hp) (T2.ext (same_new hp)) (by rw [hc]; exact due_none)
    · exact h p _ (fr H2 p _ e2 hp) (T2.ext (same_new hp)) (by rw [hc]; exact due_some (hAt.keep (.of (same_new hp))))
  · have hno : NoStr K H1 v := by
      rcases hn with rfl | rfl
      · exact NoTx.no (b := 0) (.inl rfl)
      · exact NoTx.no (b := 0) (.inr (.inl ⟨_, rfl⟩))
    exact .inr ⟨hno, rfl, rfl, fun p hp => h p _ (fr H1 p _ (.refl _) hp) (T1.ext (same_new hp)) due_none⟩
end
end K93
end

section
set_option Elab.async false
set_option linter.all false
set_option maxRecDepth 100000
set_option maxHeartbeats 8000000
/-! k93: the law. -/
namespace K93
open PySem PySem.Spec PyProof.Rows L2 He HL
def moreS : List String := ["asks", "steps a", "always yes", "makes a b yes", "always ?zz", "", "always"]
theorem moreS_ok : ∀ y ∈ moreS.map M.q, M.om y ≤ 40 ∧ y.length ≤ 400 := by
  have h : (moreS.all fun s => decide ((M.q s).length ≤ 400) && decide (M.om (M.q s) ≤ 40)) = true := by decide +kernel
  intro y hy
  obtain ⟨s, hs, rfl⟩ := List.mem_map.mp hy
  have := List.all_eq_true.mp h s hs
  simp at this
  exact ⟨this.2, this.1⟩
section
variable {w : World} {K : PySem.W.Frag} {mg : Str → Option Value} {base : Heap}
abbrev n_law : List Str := ["_law_script", "_law_bag_here", "_law_lines", "_law_turn", "_law_text_here", "_law_due", "_law_again", "_law_found"]
theorem sc_law : FnScope n_law ["_law_script"] (defScope s_law) := ⟨rfl, rfl, rfl, by decide +kernel, rfl, by decide +kernel, by decide +kernel⟩
theorem bi_law : ∀ (kV doc pm : Value) (an : Option Addr) (cdv ct : Value) (us : List Value), us.length = 1 → bindArgs (PySem.W.fnOf d_law.name d_law.qual d_law.params d_law.body d_law.scope .none kV doc pm an cdv ct) ⟨us, []⟩ = pure ([("_law_script" : Str)].zip us) := fun kV doc pm an cdv ct us hu => by
  match us, hu with
  | [u0], _ => rfl
abbrev LX (w : World) (K : PySem.W.Frag) (mg : Str → Option Value) (base : Heap) (fa' : Addr) (outer : List Env) (s : Shared) (H : Hp) (E : L2.XK) : Cx := (cxOf (CXN w) P0 w K mg base n_law d_law.qual d_law.scope fa' (.ref (He.cT K ("law", none)).1) callerA outer s H E).nox
def spLaw (K : PySem.W.Frag) (ts : List Addr) : Sp := fun vs H Q _ => ∃ (a : Addr) (ns : List Int), vs = [.ref a] ∧ SqL K H a (ns.map V.int) ∧ ns.length ≤ 63 ∧ (∀ t ∈ ts, H t = some (.tbl #[])) ∧ ∀ H', Q (.bl true) H'
theorem law_body (W : Wl K mg) (B : Tb K mg base) {outer : List Env} {s : Shared} {H : Hp} {vs : List V} {Q : VK} {E : L2.XK} {fa' : Addr} (hr : Room 90 (LX w K mg base fa' outer s H E).A) (h : spLaw K ((TK K).map (·.1)) vs H Q E) :
    ∃ t, PSs (LX w K mg base fa' outer s H E) d_law.body t ∧ t { nx := fun _ H' => Q .non H', rt := Q } (L2.start n_law vs) H := by
  have nd := sc_law.nd
  obtain ⟨_, g_asks, b_asks⟩ := g_asks (w := w) (base := base) W
  obtain ⟨_, g_steps, b_steps⟩ := g_steps (w := w) (base := base) W
  obtain ⟨_, g_told, b_told⟩ := g_told (w := w) (base := base) W
  have O__law_bag := o_bag (w := w) (base := base) W
  have O__law_text := o_text (w := w) (base := base) W
  have O__law_take := o_take (w := w) (base := base) W
  have O__law_bent_lines := o_bent (w := w) (base := base) W
  have O__law_facts_read := o_fsread (w := w) (base := base) W 61 (by decide)
  have O_show_facts := o_show_facts (w := w) (base := base) W 61 (by decide)
  have O_read_facts := o_read_facts (w := w) (base := base) W B 61 (by decide) (by decide)
  obtain ⟨fdR, DR⟩ := W.D_law_read
  obtain ⟨ocR, odR, dVR, kVR, docR, pmR, anR, cdvR, ctR, oslR, rfl, lkR, hcgR, _, _⟩ := id DR.ex
  have bR : L2.Binds K _ ["_law_act"] [] := DR.bindsN bi_law_read
  refine ⟨_, (pss_cons (ps_set (i := 1) nd rfl (Or.inl rfl) (pe_cal O__law_bag (hr.mono (by omega)) W.g__law_bag pass0 (pa_cons (pv 0) pa_nil)))
    (pss_cons (ps_set (i := 2) nd rfl (Or.inl rfl) (pe_lst (pa_cons pe_str (pa_cons pe_str (pa_cons pe_str (pa_cons pe_str (pa_cons pe_str (pa_cons pe_str (pa_cons pe_str pa_nil)))))))))
    (pss_cons (ps_for PassesOwn.never rfl (pi_range1 (by rfl) W.f_range (pa_cons pe_int pa_nil)) (pg_name (i := 3) nd rfl (Or.inl rfl)) (pss_cons (ps_asg (pe_tup (pa_cons (pe_cal O__law_text (hr.mono (by omega)) W.g__law_text pass0 (pa_cons (pv 1) pa_nil)) (pa_cons (pe_tup (pa_cons pe_str (pa_cons pe_non pa_nil))) pa_nil))) (pg_tup (by rfl) (pgs_cons (pg_name (i := 4) nd rfl (Or.inr rfl)) (pgs_cons (pg_name (i := 5) nd rfl (Or.inl rfl)) pgs_nil))))
      (pss_cons (ps_if (pt_val (pe_callB call_isi (by rfl) W.f_isinstance (by decide +kernel) (pa_cons (pv 4) (pa_cons (pe_bltn (v := .ty "str") (by rfl) W.f_str (by decide +kernel) rfl) pa_nil)))) (pss_cons (ps_for PassesOwn.never rfl (pi_range1 (by rfl) W.f_range (pa_cons (pe_ix ix_list (pe_lst (pa_cons pe_int (pa_cons pe_int (pa_cons pe_int (pa_cons pe_int pa_nil))))) (pe_cal O__law_take (hr.mono (by omega)) W.g__law_take pass0 (pa_cons (pv 1) (pa_cons pe_int pa_nil))) (fun _ _ => rfl)) pa_nil)) (pg_name (i := 6) nd rfl (Or.inl rfl)) (pss_one (ps_set (i := 4) nd rfl (Or.inr rfl) (pe_cal O__law_bent_lines (hr.mono (by omega)) W.g__law_bent_lines pass0 (pa_cons (pv 1) (pa_cons (pv 4) (pa_cons (pv 2) pa_nil)))))))
        (pss_one (ps_set (i := 5) nd rfl (Or.inl rfl) (pe_cal O__law_facts_read (hr.mono (by omega)) W.g__law_facts_read pass0 (pa_cons (pv 4) pa_nil))))) pss_nil)
      (pss_one (ps_for PassesOwn.never rfl (pi_range1 (by rfl) W.f_range (pa_cons pe_int pa_nil)) (pg_name (i := 6) nd rfl (Or.inl rfl)) (pss_cons (ps_set (i := 7) nd rfl (Or.inl rfl) (LamX.pe_lamcall (T := TK K) (TT := TTr K) (x := "_law_read") (a := "_law_act") (g := ga K "_law_read") (c := (He.cT K ("law", none)).1) (P := (He.cT K ("law", none)).2) (k := 80) (t := fun E' => tCall (spRdFs K 61) [] E' (tCons (tVar 4) tNil)) rfl W.g__law_read DR.kp lkR hcgR bR sc_law_read rfl (.inl rfl) (read_gives W) (B.tab _ (by simp [tf])) rfl (by simp [TK]; right; right; rfl) (tab_uniq W.nodT (by simp [TK]; right; right; rfl)) (hr.mono (by omega)) (show LamX.LamS (defScope s_law) _ from LamX.lamS_by (by decide +kernel)) rfl (fun _ _ _ _ _ => rfl) (fun A' outer' s' H' E' f c' hr2 => pe_cal O_read_facts (hr2.mono (by omega)) W.g_read_facts (passes_call (takes_of rfl rfl rfl rfl) (fun _ _ _ _ h => h)) (pa_cons (pv 4) pa_nil))))
        (pss_cons (ps_if (PW.pt (pw_or (pt_cmpR op_ne (pe_ix ix_tup (pv 7) pe_int (fun _ _ => rfl)) (pe_ix ix_tup (pv 5) pe_int (fun _ _ => rfl)) (nomark _)) (pw_or1 (PW.pt (pw_and (pt_cmpR op_eq (pe_ix ix_tup (pv 7) pe_int (fun _ _ => rfl)) pe_str (nomark _)) (pw_and1 (pt_cmpR XP.op_neE (pv 7) (pv 5) (nomark _)))))))) (pss_one (ps_ret pe_bl)) pss_nil)
        (pss_one (ps_if (pt_cmpR op_eq (pe_ix ix_tup (pv 7) pe_int (fun _ _ => rfl)) pe_str (nomark _)) (pss_one (ps_if (PW.pt (pw_or (pt_cmpR XP.op_neE (pe_tup (pa_cons (pe_prop (pe_ix ix_tup (pv 7) pe_int (fun _ _ => rfl)) W.k_Facts W.q_Facts_asks.1 g_asks (hr.mono (by omega)) b_asks .nil pass0 rfl) (pa_cons (pe_prop (pe_ix ix_tup (pv 7) pe_int (fun _ _ => rfl)) W.k_Facts W.q_Facts_steps.1 g_steps (hr.mono (by omega)) b_steps .nil pass0 rfl) (pa_cons (pe_prop (pe_ix ix_tup (pv 7) pe_int (fun _ _ => rfl)) W.k_Facts W.q_Facts_told.1 g_told (hr.mono (by omega)) b_told .nil pass0 rfl) pa_nil)))) (pe_ix ix_tup (pv 5) pe_int (fun _ _ => rfl)) (nomark _)) (pw_or1 (pt_cmpR op_ne (pe_cal O_show_facts (hr.mono (by omega)) W.g_show_facts pass0 (pa_cons (pe_ix ix_tup (pv 7) pe_int (fun _ _ => rfl)) pa_nil)) (pv 4) (nomark _))))) (pss_one (ps_ret pe_bl)) pss_nil)) pss_nil)))))))))
    (pss_one (ps_ret pe_bl))))), ?_⟩
  obtain ⟨a, ns, rfl, ha, hn, hts, hq⟩ := h
  have hT0 : LamX.Tabs (TK K) H := fun p hp => LamX.TabS.nil (hts _ (List.mem_map.mpr ⟨p, hp, rfl⟩))
  refine ⟨_, rfl, a, ns, rfl, ha, hn, fun b c H0 e0 hb hB0 => ?_⟩
  refine ⟨by show 7 ≤ sizeLine; decide, fun m hm => ?_⟩
  have nmb := (hB0.ne hm).1
  have s1 := same_new (o := .lst [V.str "asks", .str "steps a", .str "always yes", .str "makes a b yes", .str "always ?zz", .str "", .str "always"]) hm
  have hm1 : upd H0 m (.lst [V.str "asks", .str "steps a", .str "always yes", .str "makes a b yes", .str "always ?zz", .str "", .str "always"]) m = some (.lst (sV (moreS.map M.q))) := by
    rw [upd_same]
    rfl
  generalize upd H0 m (.lst [V.str "asks", .str "steps a", .str "always yes", .str "makes a b yes", .str "always ?zz", .str "", .str "always"]) = H1 at s1 hm1 ⊢
  have hB1 := hB0.keep s1
  have hT1 := hT0.ext (e0.trans s1)
  clear hB0 s1 hm hT0 e0
  dsimp only [gName]
  refine ⟨10, rfl, by decide, by decide, for_range (lo := 0) (n := 10) (fun _ σ H2 => ∃ x3 x4 x5 x6 x7, σ = [some (.ref a), some (.ref b), some (.ref m), x3, x4, x5, x6, x7] ∧ Bag H2 b c ∧ LamX.Tabs (TK K) H2 ∧ H2 m = some (.lst (sV (moreS.map M.q)))) ⟨none, none, none, none, none, rfl, hB1, hT1, hm1⟩ ?_ ?_⟩
  rotate_left
  · rintro σ H2 _
    exact hq _
  rintro i σ H2 _ ⟨x3, x4, x5, x6, x7, rfl, hB2, hT2, hm2⟩
  refine ⟨_, rfl, b, c, rfl, hB2, fun v H3 e3 hB3 hv3 => ⟨by show 2 ≤ sizeLine; decide, fun p1 hp1 => ⟨by show 2 ≤ sizeLine; decide, fun tp htp => ?_⟩⟩⟩
  have s4 := (same_new (o := .tup [V.str (Str.ofString "none"), V.non]) hp1).trans (same_new (o := .tup [v, V.ref p1]) htp)
  have hp1v := same_new (o := .tup [v, V.ref p1]) htp _ _ (upd_same (H := H3) (a := p1) (o := .tup [V.str (Str.ofString "none"), V.non]))
  have htpv := upd_same (H := upd H3 p1 (.tup [V.str (Str.ofString "none"), V.non])) (a := tp) (o := .tup [v, V.ref p1])
  generalize upd (upd H3 p1 (.tup [V.str (Str.ofString "none"), V.non])) tp (.tup [v, V.ref p1]) = H4 at s4 hp1v htpv ⊢
  refine ⟨tp, _, rfl, sqt htpv, rfl, _, _, rfl, _, _, rfl, rfl, ?_⟩
  have hB4 := hB3.keep s4
  have hT4 := (tabL hT2 e3 hB2).ext s4
  have hm4 := s4 _ _ (e3 _ _ hm2 nmb)
  rw [sq "none"] at hp1v
  clear hB3 s4 hm2 hT2 hB2 e3 hp1 htp htpv
  dsimp only [gName]
  refine seq_cont (fun σ' H' => ∃ x6 v d r, σ' = [some (.ref a), some (.ref b), some (.ref m), some (.int (0 + (i : Int))), some v, some (.ref d), x6, x7] ∧ Bag H' b c ∧ LamX.Tabs (TK K) H' ∧ H' m = some (.lst (sV (moreS.map M.q))) ∧ VT v r ∧ Due FsM H' d r) (fun N hN => ?_) (fun σ' H' hR => ?_)
  · refine ⟨_, rfl, ?_⟩
    dsimp only [tCons, tC, tNil]
    refine is_str (b := b) (fun s hs => ⟨true, rfl, iteT ?_⟩) (fun hno => ⟨false, rfl, iteF ?_⟩) ?_
    · subst hs
      have hs0 : M.TxB 0 s := by
        rcases hv3 with ⟨s', h, h'⟩ | h | h
        · injection h with h
          cases S_inj h
          exact h'
        · cases h
        · cases h
      refine ⟨by show 4 ≤ sizeLine; decide, fun l hl => ⟨_, rfl, b, c, 4, rfl, by decide, by decide, hB4.keep (same_new hl), fun n H5 hn5 e5 hB5 => ?_⟩⟩
      have nl := (hB4.ne hl).1
      have e45 : SameB b H4 H5 := (SameB.of (same_new hl)).trans e5
      have key : ∃ k : Nat, atI [V.int 0, V.int 1, V.int 1, V.int 2] ((n : Nat) : Int) = some (V.int (k : Nat)) ∧ k ≤ 2 := by
        have h4 : n = 0 ∨ n = 1 ∨ n = 2 ∨ n = 3 := by omega
        rcases h4 with rfl | rfl | rfl | rfl
        · exact ⟨0, at0, by decide⟩
        · exact ⟨1, at1, by decide⟩
        · exact ⟨1, at2, by decide⟩
        · exact ⟨2, at3, by decide⟩
      obtain ⟨k, hk, hk2⟩ := key
      refine ⟨l, _, _, _, rfl, rfl, sql (e5 _ _ upd_same nl), hk, _, rfl, ?_, ?_, ?_⟩
      · exact Int.le_trans (show -(2 ^ 62 : Int) ≤ 0 by decide) (show (0 : Int) ≤ ((k : Nat) : Int) by omega)
      · exact Int.lt_of_le_of_lt (show ((k : Nat) : Int) ≤ 1000000 by omega) (by decide)
      refine for_range (lo := 0) (n := ((k : Nat) : Int).toNat) (g := gName 6) (fun j σ H6 => ∃ x6 s', σ = [some (.ref a), some (.ref b), some (.ref m), some (.int (0 + (i : Int))), some (.str (S s')), some (.ref p1), x6, x7] ∧ Bag H6 b c ∧ LamX.Tabs (TK K) H6 ∧ H6 m = some (.lst (sV (moreS.map M.q))) ∧ M.TxB j s') ⟨_, s, rfl, hB5, tabL hT4 e45 hB4, e45 _ _ hm4 nmb, hs0⟩ ?_ ?_
      · rintro j σ H6 hj ⟨x6, s', rfl, hB6, hT6, hm6, hs6⟩
        rw [Int.toNat_natCast] at hj
        exact ⟨_, rfl, _, rfl, _, rfl, b, c, m, s', _, j, rfl, hB6, hm6, nmb, hs6, by omega, by decide, by decide, moreS_ok, fun s2 H7 e7 hB7 hs7 => ⟨_, s2, rfl, hB7, tabL hT6 e7 hB6, e7 _ _ hm6 nmb, hs7⟩⟩
      · rintro σ H6 ⟨x6, s', rfl, hB6, hT6, hm6, hs6⟩
        rw [Int.toNat_natCast] at hs6
        have hs6 := hs6.mono hk2
        obtain ⟨g1, g2⟩ := txb_lines hs6
        exact ⟨_, rfl, s', rfl, by omega, g2, fun u H7 e7 hd => hN _ _ ⟨_, _, u, _, rfl, hB6.keep e7, hT6.ext e7, e7 _ _ hm6, .inl ⟨s', rfl, hs6, rfl⟩, hd⟩⟩
    · refine hN _ _ ⟨_, v, p1, none, rfl, hB4, hT4, hm4, .inr ⟨?_, rfl⟩, hp1v⟩
      rcases hv3 with ⟨s', rfl, h'⟩ | h
      · rcases hno with h | ⟨_, h⟩ | ⟨_, _, h, _⟩ | ⟨_, _, h, _⟩ <;> cases h
      · exact h
    · rcases hv3 with ⟨s', h, _⟩ | h | h
      · exact .inl ⟨s', h⟩
      · exact .inr (.inl h)
      · exact .inr (.inr (.inl ⟨_, h⟩))
  obtain ⟨x6', v', d, r, rfl, hB8, hT8, hm8, hv8, hd8⟩ := hR
  clear hv3 hT4 hB4 hm4 hp1v
  refine ⟨2, rfl, by decide, by decide, for_range (lo := 0) (n := 2) (g := gName 6) (fun j σ H9 => ∃ x6 x7, σ = [some (.ref a), some (.ref b), some (.ref m), some (.int (0 + (i : Int))), some v', some (.ref d), x6, x7] ∧ LamX.ExtN H' H9 ∧ LamX.Tabs (TK K) H9) ⟨_, _, rfl, .refl _, hT8⟩ ?_ ?_⟩
  rotate_left
  · rintro σ H9 ⟨x6, x7, rfl, e9, hT9⟩
    exact ⟨_, _, _, _, _, rfl, hB8.ext e9, hT9, e9 _ _ hm8 nofun⟩
  rintro j σ H9 hj ⟨x6, x7, rfl, e9, hT9⟩
  dsimp only [gName]
  refine lam_r hT9 rfl hv8 fun p H10 e10 hT10 f1 => ?_
  have e0A := e9.trans e10
  cases r with
  | none =>
    have hp : H10 p = some (.tup [.str (S (M.q "none")), .non]) := f1
    have hd : H10 d = some (.tup [.str (S (M.q "none")), .non]) := e0A _ _ (show H' d = some (.tup [.str (S (M.q "none")), .non]) from hd8) nofun
    refine ⟨_, rfl, p, _, _, _, rfl, rfl, sqt hp, at0, _, rfl, d, _, _, _, rfl, rfl, sqt hd, at0, rfl, _, rfl, iteE false (by rw [decide_eq_true rfl] <;> rfl) (iteF ?_)⟩
    refine ⟨_, rfl, p, _, _, _, rfl, rfl, sqt hp, at0, rfl, _, rfl, iteE true (by rw [sq "none"]; exact decide_eq_true rfl) (iteT ?_)⟩
    refine ⟨_, rfl, _, rfl, dN, dN, dN_dp hp, dN_dp hd, dN_lay, dN_lay, ?_, _, rfl, iteE false (by rw [SeqAt.eqv_refl dN dN_lay] <;> rfl) (iteF ?_)⟩
    · have : dN.depth ≤ 60 := by simp [dN, PyData.depth, PyData.depthAll]
      have h2 := hr.units
      have h3 : min dN.depth dN.depth ≤ 60 := by omega
      exact Nat.lt_of_le_of_lt (Nat.add_le_add_left (show min dN.depth dN.depth ≤ 64 by omega) _) h2
    exact ⟨_, rfl, p, _, _, _, rfl, rfl, sqt hp, at0, rfl, _, rfl, iteE false ntold (iteF ⟨_, _, rfl, e0A, hT10⟩)⟩
  | some f =>
    obtain ⟨u, hp, hFs⟩ := f1
    obtain ⟨u2, hd0, hFm0⟩ := hd8
    obtain ⟨s, rfl, hs, hrd⟩ : ∃ s, v' = .str (S s) ∧ M.TxB 2 s ∧ some f = M.rdFs 61 s := by
      rcases hv8 with h | ⟨_, h⟩
      · exact h
      · cases h
    obtain ⟨g1, g2, g3, g4, g5⟩ := rdFs_facts hs hrd.symm
    obtain ⟨P, dx, ta, ts, tt, us, rfl, hP, hta, hts', htt, hA⟩ := hFs
    obtain ⟨T2, ta2, ts2, tt2, us2, rfl, hT2, hta2, hts2, htt2, hA2⟩ := hFm0
    have hd : H10 d = some (.tup [.str (S (M.q "told")), .ref T2]) := e0A _ _ hd0 nofun
    have tkA := extT e0A
    refine ⟨_, rfl, p, _, _, _, rfl, rfl, sqt hp, at0, _, rfl, d, _, _, _, rfl, rfl, sqt hd, at0, rfl, _, rfl, iteE false (by rw [decide_eq_true rfl] <;> rfl) (iteF ?_)⟩
    refine ⟨_, rfl, p, _, _, _, rfl, rfl, sqt hp, at0, rfl, _, rfl, iteE false (by rw [sq "none", dec_S]; decide) (iteF ?_)⟩
    refine ⟨_, rfl, p, _, _, _, rfl, rfl, sqt hp, at0, rfl, _, rfl, iteE true ytold (iteT ?_)⟩
    refine ⟨_, rfl, p, _, _, _, rfl, rfl, sqt hp, at1, P, dx, _, rfl, hP, P, dx, _, _, rfl, hP, rfl, _, rfl, p, _, _, _, rfl, rfl, sqt hp, at1, P, dx, _, rfl, hP, P, dx, _, _, rfl, hP, rfl, _, rfl, p, _, _, _, rfl, rfl, sqt hp, at1, P, dx, _, rfl, hP, P, dx, _, _, rfl, hP, rfl, by show 3 ≤ sizeLine; decide, fun T hT => ?_⟩
    have s11 := same_new (o := .tup [V.ref ta, .ref ts, .ref tt]) hT
    have lay := dF_lay (f := f) g2 g3 g4
    have dep := dF_depth (f := f) g5
    refine ⟨_, rfl, d, _, _, _, rfl, rfl, sqt (s11 _ _ hd), at1, dF f, dF f, dF_dp upd_same (s11 _ _ hta) (s11 _ _ hts') (s11 _ _ htt) (hA.imp fun v x z => z.keep (.of s11)), dF_dp (s11 _ _ (tkA _ _ hT2)) (s11 _ _ (tkA _ _ hta2)) (s11 _ _ (tkA _ _ hts2)) (s11 _ _ (tkA _ _ htt2)) (hA2.imp fun v x z => z.keep (tkA.trans (.of s11))), lay, lay, ?_, _, rfl, iteE false (by rw [SeqAt.eqv_refl (dF f) lay] <;> rfl) (iteF ?_)⟩
    · have h2 := hr.units
      exact Nat.lt_of_le_of_lt (Nat.add_le_add_left (show min (dF f).depth (dF f).depth ≤ 64 by omega) _) h2
    have hp2 := s11 _ _ hp
    have hT11 := hT10.ext s11
    have e0B := e0A.trans (.of s11)
    have hF11 : FsAt K (upd H10 T (.tup [V.ref ta, .ref ts, .ref tt])) f (.ref P) := ⟨P, dx, ta, ts, tt, us, rfl, s11 _ _ hP, s11 _ _ hta, s11 _ _ hts', s11 _ _ htt, hA.imp fun v x z => z.keep (.of s11)⟩
    refine ⟨_, rfl, p, _, _, _, rfl, rfl, sqt hp2, at1, .ref P, f, rfl, hF11, fun t ht => by have := g5 t ht; show M.om t.sh < 61; omega, by rw [g1]; have := hs.1; omega, fun H12 e12 => ?_⟩
    rw [g1]
    exact ⟨_, rfl, rfl, _, rfl, iteE false (by rw [decide_eq_true rfl] <;> rfl) (iteF ⟨_, _, rfl, e0B.trans (.of e12), hT11.ext e12⟩)⟩
end
end K93
end

section
set_option Elab.async false
set_option linter.all false
set_option maxRecDepth 100000
set_option maxHeartbeats 0
namespace K93
open PySem PySem.Spec PyProof.Rows L2 He HL
abbrev Says (w : World) (h : Heap) (K : PySem.W.Frag) : Prop := HZ.SaysZ fa fn tf xs pl ks "/claim/cut.py" w h K
theorem room_c : Room 91 callerA := ⟨rfl, by decide +kernel, by decide +kernel⟩
theorem law_runs {w : World} {K : PySem.W.Frag} {h : Heap} {mg : Str → Option Value} {fa' : Addr} (X : K.In h) (G : h.Ns mainGlobals mg) (hfa : mg "law" = some (.ref fa')) (c : Says w h K) :
    EG.LawG PySem.Challenge.rw_bynamealone_k93_facts_texts_spoilt w K (L2.CX PySem.Challenge.pw_bynamealone_k93_facts_texts_spoilt w) 63 "_law_script" mg fa' h := by
  have W : Wl K mg := ⟨⟨w, h, X, G, c⟩⟩
  obtain ⟨fd, D⟩ := W.D_law
  have hfa2 : fa' = fAd K d_law.at_ := by
    have := W.g_law
    rw [hfa] at this
    exact Value.ref.inj (Option.some.inj this)
  subst hfa2
  obtain ⟨oc, od, dV, kV, doc, pm, an, cdv, ct, osl, rfl, lk, hcd, hDf, hKw⟩ := id D.ex
  obtain ⟨cc, rfl⟩ := He.codeIn_ref hcd
  have hc : He.codeOf K d_law.at_ = cc := He.codeOf_eq lk rfl
  have hdv : dV = .none := by
    rcases hDf with ⟨_, e⟩ | ⟨e, _⟩
    · exact e
    · exact absurd rfl e
  subst hdv
  refine ⟨_, tf.map (He.cT K), spLaw K ((TK K).map (·.1)), fun p hp => ?_, fun p hp => ?_, fun p hp => ?_, fun s u => .of_eq (bi_law kV doc pm an (.ref cc) ct [u] rfl), fun H a ns hn _ hts hs => ?_, fun base KB GB hT => ⟨fun outer s H args us vs Q E e0 hb hv hsp => ?_⟩⟩
  · obtain ⟨q, hq, rfl⟩ := List.mem_map.mp hp
    exact c.y.empty q hq
  · obtain ⟨q, hq, rfl⟩ := List.mem_map.mp hp
    exact c.y.out q hq
  · obtain ⟨q, hq, rfl⟩ := List.mem_map.mp hp
    exact PySem.W.codeHd_of_K X (c.y.hd q hq)
  · refine ⟨a, ns, rfl, hs, hn, fun t ht => ?_, fun H' => rfl⟩
    simp only [TK, List.map_cons, List.map_nil, List.mem_cons, List.not_mem_nil, or_false] at ht
    rcases ht with rfl | rfl | rfl
    · exact hts _ (List.mem_map.mpr ⟨("Reader", some "condition_here"), by simp [tf], rfl⟩)
    · exact hts _ (List.mem_map.mpr ⟨("read_facts", none), by simp [tf], rfl⟩)
    · exact hts _ (List.mem_map.mpr ⟨("law", none), by simp [tf], rfl⟩)
  · have B : Tb K mg base := ⟨fun p hp => hT _ (List.mem_map.mpr ⟨p, hp, rfl⟩)⟩
    subst hc
    refine LamX.run_ofS (k := 90) lk hcd sc_law room_c e0 hb hv (by obtain ⟨a, ns, rfl, _⟩ := hsp; rfl) fun hr => ?_
    obtain ⟨t, h1, h2⟩ := law_body (w := w) (outer := outer) (s := s) (fa' := fAd K d_law.at_) W B (E := E) (hr.mono (Nat.le_refl _)) hsp
    exact ⟨t, h1.nox, h2⟩
end K93
open PySem PySem.W PySem.Calls PyProof.Rows
theorem PySem.Challenge.cw_bynamealone_k93_facts_texts_spoilt_holds : PySem.Challenge.rw_bynamealone_k93_facts_texts_spoilt.Holds := by
  w_on; o_law
  refine HandSHeadRun.head_any (r := OpenLaw.row PySem.Challenge.rw_bynamealone_k93_facts_texts_spoilt) (q := view (OpenLaw.row PySem.Challenge.rw_bynamealone_k93_facts_texts_spoilt).prog [61]) (H := K93.hk) (ob := K93.ob) (M := 9000) (loose := K93.loose) (d := HandSHeadRun.topDef (OpenLaw.row PySem.Challenge.rw_bynamealone_k93_facts_texts_spoilt).prog 61) (kwd := []) K93.ob_eq
    (by kernel_rfl) (fun s => by kernel_rfl) K93.run (by kernel_rfl) (by kernel_rfl) (by kernel_rfl) (by rfl) (by first | assumption | decide +kernel) (by decide +kernel) ⟨rfl, rfl, rfl, rfl, rfl, by decide +kernel⟩ ?hw ?hc
  case hw => w_witness2
  case hc =>
    refine EG.walkG (l := PySem.Challenge.rw_bynamealone_k93_facts_texts_spoilt) (n := 63) (x := "_law_script") (CX := fun w => L2.CX PySem.Challenge.pw_bynamealone_k93_facts_texts_spoilt w) rfl (by decide) (by kernel_rfl) ?F (fun w H s e s' h => ?E)
    case E =>
      obtain ⟨_, _, _, _, _, _, _, _, _, _, _, _, z⟩ := h
      exact z
    case F =>
      intro w mg fa h Y G hmg0
      obtain ⟨K, KX, c⟩ := Y
      have hmg : mg ("law" : PySem.Str) = some (.ref fa) := by
        have e : (HandSHeadRun.topDef (OpenLaw.row PySem.Challenge.rw_bynamealone_k93_facts_texts_spoilt).prog 61).name = ("law" : PySem.Str) := by kernel_rfl
        rw [← e]
        exact hmg0
      exact ⟨K, KX, K93.law_runs KX G hmg c⟩
end
