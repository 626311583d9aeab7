import PyProof.Rows.All
import HandS.ForMost
import HandS.ForExc
import HandS.ExcInit
import KE.KExcSuper
import HandS.ExcIs
import HandS.Defaults
import HandS.HeadHook4
import HandS.HeadWalk
import HandS.EndTab
import Open.Row
import PySem.Challenge.RW_bynamealone_k91_parts_spoilt
import Wide.All
import OpenK.AllK
import Wide.FinOn
import KE.KStateDown
import HandS.Head0
import HandS.Head1
import HandS.Head2
import HandS.Lambda
import HandS.IsInst
import HandS.Codes
import PyProof.ReprRoads
import KE.IntTextText
import HandS.Deep
import HandS.Strs
import HandS.RaiseMore
import PyProof.ReprLen
import PyProof.StrLawsRepr
section
set_option Elab.async false
set_option linter.all false
set_option maxRecDepth 100000
set_option maxHeartbeats 4000000
/-! raise X(), X an own class over ValueError whose __init__ is «super().__init__()» alone. -/
namespace XR
open PySem PySem.Spec PyProof.Rows L2
/-- what the written part says of such a class; file: the text's own file name -/
structure NoArg (K : PySem.W.Frag) (mg : Str → Option Value) (file : Str) (C fI : Addr) (name qual : Str) (params : Arguments) (body : List Stmt) (scope : Scope) : Prop where
  ox : OexC K C
  iC : PySem.W.findIn K (.ref C) "__init__" = some (some (.ref fI))
  tI : PySem.W.typeIn K (.ref fI) = some (.type "function")
  lk : ∃ (oc kV doc pm ct : Value) (od an : Option Addr) (osl : Array (Option Value)) (cc cda : Addr) (ccl cl : Value) (cdd cld : Option Addr) (vs : Array Value) (tf : Tok) (ccs csl : Array (Option Value)),
    K.lookup fI = some ⟨oc, od, .func (PySem.W.fnX name qual params body scope [("__class__", cc)] .none kV doc pm an (.ref cda) ct), osl⟩ ∧ PySem.W.codeIn K (.ref cda) qual = true ∧
    K.lookup cda = some ⟨ccl, cdd, .fields vs, ccs⟩ ∧ vs[2]? = some (.str file tf) ∧ K.lookup cc = some ⟨cl, cld, .cell (some (.ref C)), csl⟩
  sup : PySem.W.ks_superIn K C C "__init__" = some (some (.builtin "ValueError.__init__"))
  sub : PySem.W.subIn K (.ref C) (.type "ValueError") = some true
  mro : PySem.W.mroIn K C (.ref C) = some true
  any : PySem.W.nsIn K cStatics "thirdparty.any" = some none
  gsup : mg "super" = none
/-- the def's own scope: self, super, __class__ -/
structure NoScope (scope : Scope) : Prop where
  kind : scope.kind = .function
  co : scope.isCoroutine = false
  gen : scope.isGenerator = false
  self : scope.names.lookup ("self" : Str) = some .local
  sup : scope.names.lookup ("super" : Str) = some .globalImplicit
  cls : scope.names.lookup ("__class__" : Str) = some .free
  cell : ∀ x ∈ scope.names, x.2 ≠ .cell
abbrev supCall (p0 p1 p2 p3 : Pos) : Expr := .Call (.Attribute (.Call (.Name "super" p0) [] [] p1) "__init__" p2) [] [] p3
abbrev supBody (p0 p1 p2 p3 p4 : Pos) : List Stmt := [.Expr (supCall p0 p1 p2 p3) p4]
/-- what hangs on the written places: each by rfl -/
structure NoPlaces (qual : Str) (scope : Scope) (p0 p1 p2 p3 p4 : Pos) (pl : Env → Sem Bool) : Prop where
  hi : ∀ (L f cda cc : Addr), interactive (PySem.W.envX qual scope L f (.ref cda) [("__class__", cc)]) = false
  hs : ∀ (L f cda cc : Addr), swapsWith (supCall p0 p1 p2 p3) none p4.line (PySem.W.envX qual scope L f (.ref cda) [("__class__", cc)]) = pure false
  he : ∀ (L f cda cc : Addr), eval (supCall p0 p1 p2 p3) (PySem.W.envX qual scope L f (.ref cda) [("__class__", cc)]) = (do
      let ov ← attributeBase (.Call (.Name "super" p0) [] [] p1) "__init__" (PySem.W.envX qual scope L f (.ref cda) [("__class__", cc)]) (eval (.Call (.Name "super" p0) [] [] p1) (PySem.W.envX qual scope L f (.ref cda) [("__class__", cc)]))
      standAt p2.atName
      let (f', first) ← holding [ov] (getMethod ov "__init__" (pl (PySem.W.envX qual scope L f (.ref cda) [("__class__", cc)])))
      callWith p3 f' first (backTo p3 (starEach [] (PySem.W.envX qual scope L f (.ref cda) [("__class__", cc)]))) [])
section
variable {pl : Env → Sem Bool} {prog : Program} {w : World} {A : Around} {K : PySem.W.Frag} {mg mb : Str → Option Value} {file name qual : Str} {params : Arguments} {scope : Scope} {C fI : Addr} {p0 p1 p2 p3 p4 : Pos}
/-- the body of __init__, walked -/
theorem init_runs {h : Heap} {g : Array GenState} {d : Drawn} {t : Nat} {os : OsState} {e t0 : Addr} {R : Result → Shared → Prop} (T : NoArg K mg file C fI name qual params (supBody p0 p1 p2 p3 p4) scope) (S : NoScope scope) (PL : NoPlaces qual scope p0 p1 p2 p3 p4 pl) (X : K.In h)
    (hb : h.Ns builtinsNs mb) (hbb : ∀ x : Str, x ≠ "__name__" → mb x = bootBuiltins x) (hg : h.Ns mainGlobals mg) (hl : h.NoLimit) (hd : A.depth < recursionLimit)
    (hp : (params.posonlyargs ++ params.args).head? = some ⟨"self", none, p4⟩ ∨ ∃ ar, (params.posonlyargs ++ params.args).head? = some ar ∧ ar.arg = "self")
    (hbind : ∀ (kV doc pm cdv ct : Value) (an : Option Addr) (cl : List (Str × Addr)) (u : Value), bindArgs (PySem.W.fnX name qual params (supBody p0 p1 p2 p3 p4) scope cl .none kV doc pm an cdv ct) ⟨[u], []⟩ = pure [(("self" : Str), u)])
    (hfile : (prog.main.file == file) = true) (htop : (prog.main.scope.names.lookup ("super" : Str)).isSome = false)
    (he : h.get? e = some (PySem.HandSPX.excO C t0))
    (hq : ∀ h' t1 tk, (∀ b o, b ≠ e → h.get? b = some o → h'.get? b = some o) → h'.get? e = some (PySem.HandSPX.excO C t1) → R (.ok (.ret .none)) ⟨h', g, d, tk, os⟩) :
    codeAny (model prog w) A (.call (.ref fI) ⟨[.ref e], []⟩) R ⟨h, g, d, t, os⟩ := by
  obtain ⟨ar, hp, hars⟩ : ∃ ar, (params.posonlyargs ++ params.args).head? = some ar ∧ ar.arg = "self" := by
    rcases hp with hp | hp
    · exact ⟨_, hp, rfl⟩
    · exact hp
  obtain ⟨oc, kV, doc, pm, ct, od, an, osl, cc, cda, ccl, cl, cdd, cld, vs, tf, ccs, csl, lk, hcd, lcd, hvs, lcc⟩ := T.lk
  obtain ⟨nm, q, N, bs, bm, sn, sub, ab, col, dd, k0, k1, k2, k3, k5, hC, hbm⟩ := T.ox.cls
  refine PySem.ks_codeAny_call_defAt (fd := PySem.W.fnX name qual params (supBody p0 p1 p2 p3 p4) scope [("__class__", cc)] .none kV doc pm an (.ref cda) ct) (body := supBody p0 p1 p2 p3 p4) (binds := [(("self" : Str), Value.ref e)]) hd (X _ _ lk) rfl hl (PySem.W.codeRec_of X hcd) rfl (BindsTo.of_eq (hbind _ _ _ _ _ _ _ _)) S.cell (fun x hx => ?_) (fun h₁ hns kp => ?_) S.co S.gen S.kind
  · have ex : x = (("self" : Str), Value.ref e) := by simpa using hx
    subst ex
    exact S.self
  · have X1 : K.In h₁ := X.keeps kp
    have hcl : PySem.W.clsIn K C = some { name := nm, bases := bs, mro := .ref C :: bm, ns := N, qualname := q, hasDict := true, slotNames := sn, subclasses := sub, abstract := ab, collection := col, hasDel := false } := by unfold PySem.W.clsIn; rw [hC] <;> rfl
    have he1 := kp _ _ he
    refine PySem.ks_wpAt_execs_cons (PySem.ks_wpAt_Expr_any (PySem.ks_wpAt_MethodCall ?_ (PL.he _ _ _ _)) (PL.hi _ _ _ _) (PL.hs _ _ _ _))
    refine PySem.ks_wpAt_super_base (of := ⟨oc, od, .func _, osl⟩) (oc := ⟨ccl, cdd, .fields vs, ccs⟩) (ar := ar) S.sup S.cls (by decide +kernel) rfl (X1 _ _ lk) rfl hp rfl (X1 _ _ lcd) rfl hvs hfile htop ?_
    have hself : (fun y => ([(("self" : Str), Value.ref e)] : List (Str × Value)).reverse.lookup y) ("self" : Str) = some (Value.ref e) := by rfl
    refine PySem.W.ks_loadName_global S.kind S.sup (PySem.Calls.loadGlobal_builtin (hg.keeps kp) T.gsup (hb.keeps kp) ((hbb _ (by decide +kernel)).trans (by decide +kernel : bootBuiltins "super" = some (.type "super"))) ⟨rfl, ?_⟩)
    refine PySem.wpAny_loadName_free S.kind S.cls rfl ⟨_, X1 _ _ lcc, rfl⟩ ?_
    rw [hars]
    refine PySem.wpAny_loadName_local S.kind S.self hns hself ?_
    refine PySem.ks_wpAny_isType_cls (X1 _ _ hC) rfl ⟨rfl, ?_⟩
    refine PySem.ks_wpAny_call_super (X1 _ _ hC) rfl he1 rfl (fun c z => by cases z) (PySem.W.looks_mroIn X1 T.mro) (fun h2 e2 k2 => ?_)
    have X2 : K.In h2 := X1.keeps k2
    have he2 := k2 _ _ he1
    have hsup : PySem.W.alongIn K "__init__" (((Value.ref C :: bm).dropWhile (· != .ref C)).drop 1) = some (some (.builtin "ValueError.__init__")) := by
      have z := T.sup
      unfold PySem.W.ks_superIn at z
      rw [hcl] at z
      exact z
    have I2 : PySem.W.InstAt h2 e (PySem.HandSPX.excO C t0) C none := ⟨he2, rfl, rfl, trivial⟩
    have hI : PySem.W.Looks (model prog w) h2 (isInstance (.ref e) (.type "ValueError")) true := I2.type.andThen (PySem.W.looks_subIn X2 T.sub)
    refine PySem.W.kxs_getMethod PySem.W.kxs_ValueError e2 (PySem.W.looks_opaque X2 T.any) (l₀ := .ref C :: bm) (fun A Q E s k q => wpAny_bind ((PySem.W.looks_clsIn X2 hcl) A _ E s k (wpAny_pure q))) rfl X2 hsup hI (PySem.W.ks_ne X2 I2 hcl) (by decide +kernel) ?_
    have hw : (h2.push (PySem.W.kxs_mw "ValueError.__init__" e)).get? h2.objs.size = some (PySem.W.kxs_mw "ValueError.__init__" e) := Heap.get?_push_at rfl rfl
    have k3 : ∀ b o, h2.get? b = some o → (h2.push (PySem.W.kxs_mw "ValueError.__init__" e)).get? b = some o := fun b o z => Heap.get?_push_of_some _ z
    have he3 := k3 _ _ he2
    have X3 := X2.keeps k3
    show wpAny _ _ (callWith p3 (.ref h2.objs.size) [] (backTo p3 (starEach [] _)) []) _ _ _
    refine PySem.W.kxs_callWith (i := "ValueError.__init__") (x := e) rfl (PyProof.Rows.evalArgs_empty ⟨hw, ?_⟩)
    show wpAny _ _ (call (.ref h2.objs.size) []) _ _ _
    refine wpAny_call (codeAny_of_tree ?_)
    show wpAny _ _ (callAny (.ref h2.objs.size) ⟨[], []⟩) _ _ _
    simp only [callAny]
    refine wpAny_bind (wpAny_load hw ?_)
    simp only [PySem.W.kxs_mw, show (Value.type "method-wrapper" == Value.type "method" || Value.type "method-wrapper" == Value.type "builtin_function_or_method" || Value.type "method-wrapper" == Value.type "method-wrapper") = true by decide, if_true]
    refine PySem.W.KFB.if_so (by decide) ?_
    refine wpAny_bind (PySem.W.check_bound_init F.excBase_ValueError.toExcCallFacts (X3 _ _ hC) he3 rfl ?_)
    refine wpAny_bind (wpAny_pure (wpAny_pure ?_))
    refine ⟨plainId_quiet F.excBase_ValueError.init.plain _, codeAny_builtin F.excBase_ValueError.initEntry ?_⟩
    refine PySem.W.exc_init_tree (cls := .ref C) (t0 := t0) (dv := none) (c2 := .none) (c3 := .none) (b4 := .bool false) he3 (Nat.zero_le _) fun h' k4 e4 _ => ?_
    refine wpAt_of_wpAny (wpAny_execs_nil ?_)
    exact hq h' _ _ (fun b o hne z => k4 b o hne (k3 _ _ (k2 _ _ (kp _ _ z)))) e4
end
/-- raise X(): the exception as it is made -/
def tMkN (C : Addr) : L2.St → Hp → XK → Prop := fun _ H Q => Q (.ref C) none H
theorem pmk_noarg {X : Cx} {pl : Env → Sem Bool} {x file name qual : Str} {params : Arguments} {scope : Scope} {C fI : Addr} {p0 p1 p2 p3 p4 p pos : Pos} (T : NoArg X.K X.mg file C fI name qual params (supBody p0 p1 p2 p3 p4) scope) (S : NoScope scope) (PL : NoPlaces qual scope p0 p1 p2 p3 p4 pl)
    (hp : ∃ ar, (params.posonlyargs ++ params.args).head? = some ar ∧ ar.arg = "self")
    (hbind : ∀ (kV doc pm cdv ct : Value) (an : Option Addr) (cl : List (Str × Addr)) (u : Value), bindArgs (PySem.W.fnX name qual params (supBody p0 p1 p2 p3 p4) scope cl .none kV doc pm an cdv ct) ⟨[u], []⟩ = pure [(("self" : Str), u)])
    (hfile : (X.prog.main.file == file) = true) (htop : (X.prog.main.scope.names.lookup ("super" : Str)).isSome = false) (hr : Room 1 X.A) (hg : Gl X x) (hm : X.mg x = some (.ref C))
    (hdb : (x == ("__debug__" : Str)) = false := by decide) : PMk X (.Call (.Name x p) [] [] pos) (tMkN C) := by
  intro pins s σ H Q I hq
  obtain ⟨nm, q, N, bs, bm, sn, sub, ab, col, dd, k0, k1, k2, k3, k5, hC, hbm⟩ := T.ox.cls
  refine wpAny_Call_Name_kw (ld_glob I hg hm ?_ hdb)
  refine PySem.W.callWith_K0 I.kIn T.ox.kC ?_
  show wpAny _ _ (call (.ref C) []) _ _ _
  obtain ⟨hp1, g, dr, tk, os⟩ := s
  have KX := I.kIn
  have hn : H (hp1.objs.size + 1) = none := I.hok.fresh (Nat.le_succ _)
  have kk : ∀ b o, hp1.get? b = some o → ((hp1.push (PySem.W.kdv_tup [])).push (PySem.HandSPX.excO C hp1.objs.size)).get? b = some o := fun b o e => Heap.get?_push_of_some _ (Heap.get?_push_of_some _ e)
  have hget : ((hp1.push (PySem.W.kdv_tup [])).push (PySem.HandSPX.excO C hp1.objs.size)).get? (hp1.objs.size + 1) = some (PySem.HandSPX.excO C hp1.objs.size) := by heap_get
  obtain ⟨mb, hb1, hb2⟩ := I.mod.blt
  have bk := I.bk
  have hdp : (X.A.under (.builtin "type.__call__" ⟨[.ref C], []⟩)).depth < recursionLimit := by
    have := hr.dp
    rw [make_depth]
    omega
  refine wpAny_call (PySem.HandSPX.call_own F.excBase_ValueError (fun Y => PySem.HandSPX.refsVE_contains Y bm hbm) (KX _ _ hC) (PySem.W.looks_findIn KX T.iC) (fun self => PySem.W.bind_fn KX self T.tI) (Nat.zero_le _) ?_)
  refine init_runs (w := X.w) (mb := mb) T S PL (KX.keeps kk) ((hb1.keeps bk).keeps kk) hb2 ((I.mod.glob.keeps bk).keeps kk) (I.nolimit.keeps kk) hdp (.inr hp) hbind hfile htop hget fun h' t1 tk' k he' => ?_
  refine ⟨rfl, hp1.objs.size + 1, _, _, ⟨hp1, g, dr, tk, os⟩, H, .ref C, none, rfl, I, fun b o z => k b o (fun e => ?_) (kk b o z), ?_, he', ⟨rfl, rfl⟩, rfl, rfl, hn, rfl, I.bare, raises_own T.ox.exC T.ox.tyC, hq⟩
  · have y : b < hp1.objs.size := Heap.lt_size (show hp1.get? b = some o from z)
    have e2 : b = hp1.objs.size + 1 := e
    rw [e2] at y
    exact Nat.not_succ_le_self _ (Nat.lt_of_lt_of_le (Nat.lt_succ_self _) (Nat.le_of_lt y))
  · exact Heap.get?_none_of_le (Nat.le_succ _)
end XR
end

section
set_option Elab.async false
set_option linter.all false
set_option maxRecDepth 100000
set_option maxHeartbeats 4000000
/-! The head's facts, with own exceptions whose __init__ is super().__init__(). -/
namespace HY
open PySem PySem.Spec PyProof.Rows L2 He
/-- an own exception: its class's name, its __init__'s parameters, body, scope -/
structure XD where
  cls : Str
  qual : Str
  params : Arguments
  body : List Stmt
  scope : Scope
abbrev FnY : Type := Option (Str × Str × Arguments × FuncBody × Scope × Addr × Addr × Value)
def iAd (K : PySem.W.Frag) (C : Str) : Addr := ma K (ga K C) "__init__"
def fnY (K : PySem.W.Frag) (C : Str) : FnY := match K.lookup (iAd K C) with
  | some ⟨_, _, .func fd, _⟩ => some (fd.name, fd.qualname, fd.params, fd.body, fd.scope, fd.globals, fd.builtins, fd.defaults)
  | _ => none
def XD.val (d : XD) : FnY := some ("__init__", d.qual, d.params, .stmts d.body, d.scope, mainGlobals, builtinsNs, .none)
def oexB (K : PySem.W.Frag) (C : Addr) : Bool := match K.lookup C with
  | some ⟨.type "type", _, .cls cd, sl⟩ => (match cd.mro, sl.toList with
    | .ref C' :: bm, [_, _, _, _, some (.builtin n), _] => decide (C' = C) && (decide (n = "ValueError.__new__") && (!cd.hasDel && (cd.hasDict && PySem.HandSPX.refsVE bm)))
    | _, _ => false)
  | _ => false
theorem oexB_ok {K : PySem.W.Frag} {C : Addr} (h : oexB K C = true) : ∃ nm q N bs bm sn sub ab col dd k0 k1 k2 k3 k5, K.lookup C = some (excClassObj nm q C N bs bm true sn sub ab col dd k0 k1 k2 k3 k5 "ValueError.__new__") ∧ PySem.HandSPX.refsVE bm = true := by
  unfold oexB at h
  split at h
  · rename_i dd cd sl ho
    split at h
    · rename_i C' bm k0 k1 k2 k3 n k5 hm hs
      obtain ⟨h1, h⟩ := ba h
      obtain ⟨h2, h⟩ := ba h
      obtain ⟨h3, h⟩ := ba h
      obtain ⟨h4, h5⟩ := ba h
      have e1 := of_decide_eq_true h1
      have e2 := of_decide_eq_true h2
      obtain ⟨nm, bs, mro, ns, qn, hd, sn, sub, ab, col, del⟩ := cd
      dsimp only at hm h3 h4
      have e3 : del = false := by cases del <;> first | rfl | cases h3
      subst hm e1 e2 e3 h4
      obtain ⟨l⟩ := sl
      have e4 : l = [k0, k1, k2, k3, some (.builtin "ValueError.__new__"), k5] := hs
      subst e4
      exact ⟨nm, qn, ns, bs, bm, sn, sub, ab, col, dd, k0, k1, k2, k3, k5, ho, h5⟩
    · cases h
  · cases h
def cellB (K : PySem.W.Frag) (cc C : Addr) : Bool := match K.lookup cc with
  | some ⟨_, _, .cell (some (.ref D)), _⟩ => decide (D = C)
  | _ => false
def fileB (K : PySem.W.Frag) (cd : Value) (file : Str) : Bool := match cd with
  | .ref c => (match K.lookup c with
    | some ⟨_, _, .fields vs, _⟩ => (match (vs[2]? : Option Value) with
      | some (.str f _) => decide (f = file)
      | _ => false)
    | _ => false)
  | _ => false
def iniB (K : PySem.W.Frag) (C : Str) (q file : Str) : Bool := match K.lookup (iAd K C) with
  | some ⟨_, _, .func fd, _⟩ => (match fd.closure with
    | [(n, cc)] => decide (n = "__class__") && (cellB K cc (ga K C) && (PySem.W.codeIn K fd.code q && fileB K fd.code file))
    | _ => false)
  | _ => false
theorem ini_ok {K : PySem.W.Frag} {d : XD} {file : Str} (e : fnY K d.cls = d.val) (h : iniB K d.cls d.qual file = true) :
    ∃ (oc kV doc pm ct : Value) (od an : Option Addr) (osl : Array (Option Value)) (cc cda : Addr) (ccl cl : Value) (cdd cld : Option Addr) (vs : Array Value) (tf : Tok) (ccs csl : Array (Option Value)),
    K.lookup (iAd K d.cls) = some ⟨oc, od, .func (PySem.W.fnX "__init__" d.qual d.params d.body d.scope [("__class__", cc)] .none kV doc pm an (.ref cda) ct), osl⟩ ∧ PySem.W.codeIn K (.ref cda) d.qual = true ∧
    K.lookup cda = some ⟨ccl, cdd, .fields vs, ccs⟩ ∧ vs[2]? = some (.str file tf) ∧ K.lookup cc = some ⟨cl, cld, .cell (some (.ref (ga K d.cls))), csl⟩ := by
  unfold fnY at e
  unfold iniB at h
  cases q : K.lookup (iAd K d.cls) with
  | none =>
    rw [q] at h
    cases h
  | some o =>
    obtain ⟨oc, od, dt, osl⟩ := o
    rw [q] at h e
    cases dt with
    | func fd =>
      obtain ⟨n1, n2, n3, n4, n5, n6, n7, n8, n9, n10, n11, n12, n13, n14, n15⟩ := fd
      have e2 : (some (n1, n2, n3, n4, n5, n6, n15, n8) : FnY) = some (("__init__" : Str), d.qual, d.params, FuncBody.stmts d.body, d.scope, mainGlobals, builtinsNs, Value.none) := e
      simp only [Option.some.injEq, Prod.mk.injEq] at e2
      obtain ⟨h1, h2, h3, h4, h5, h6, h7, h8⟩ := e2
      subst h1 h2 h3 h4 h5 h6 h7 h8
      have h' : (match (generalizing := false) n7 with
        | [(n, cc)] => decide (n = "__class__") && (cellB K cc (ga K d.cls) && (PySem.W.codeIn K n13 d.qual && fileB K n13 file))
        | _ => false) = true := h
      split at h'
      · rename_i n cc
        obtain ⟨g1, g⟩ := ba h'
        obtain ⟨g2, g⟩ := ba g
        obtain ⟨g3, g4⟩ := ba g
        have en := of_decide_eq_true g1
        subst en
        unfold cellB at g2
        split at g2
        · rename_i cl cld D csl hcc
          have eD := of_decide_eq_true g2
          subst eD
          clear g h' h e
          obtain ⟨c, rfl⟩ := codeIn_ref g3
          unfold fileB at g4
          dsimp only at g4
          split at g4
          · rename_i ccl cdd vs ccs hc
            split at g4
            · rename_i f tf hv
              have ef := of_decide_eq_true g4
              subst ef
              exact ⟨oc, _, _, _, _, od, _, osl, cc, c, ccl, cl, cdd, cld, vs, tf, ccs, csl, rfl, g3, hc, hv, hcc⟩
            · cases g4
          · cases g4
        · cases g2
      · cases h'
    | _ => cases h
/-- the other facts of such a class -/
def excB (K : PySem.W.Frag) (C : Str) : Bool := oexB K (ga K C) && (eqO (PySem.W.findIn K (.ref (ga K C)) "__setattr__") (some (some (.builtin "object.__setattr__"))) && (decide (PySem.W.subIn K (.ref (ga K C)) (.type "BaseException") = some true) && (decide (PySem.W.typeIn K (.ref (ga K C)) = some (.type "type")) && (PySem.W.keepIn K (.ref (ga K C)) &&
  (eqO (PySem.W.findIn K (.ref (ga K C)) "__init__") (some (some (.ref (iAd K C)))) && (decide (PySem.W.typeIn K (.ref (iAd K C)) = some (.type "function")) && (decide (PySem.W.ks_superIn K (ga K C) (ga K C) "__init__" = some (some (.builtin "ValueError.__init__"))) &&
  (decide (PySem.W.subIn K (.ref (ga K C)) (.type "ValueError") = some true) && decide (PySem.W.mroIn K (ga K C) (.ref (ga K C)) = some true)))))))))
/-- isinstance of it, caught -/
def catB (K : PySem.W.Frag) (C : Str) : Bool := eqO (PySem.W.findIn K (.ref (ga K C)) "__getattribute__") (some (some (.builtin "BaseException.__getattribute__"))) && (eqO (PySem.W.findIn K (.ref (ga K C)) "__getattr__") (some none) && (PySem.W.hasDictIn K (ga K C) &&
  (eqO (PySem.W.findIn K (.ref (ga K C)) "__class__") (some (some (.builtin "object.__class__"))) && (eqO (PySem.W.specialIn K (.builtin "object.__class__") "__get__") (some (some (.builtin "getset_descriptor.__get__"))) && (decide (PySem.W.takesIn K (.builtin "object.__class__") = some true) &&
  (decide (PySem.W.mroIn K (ga K C) (.type "object") = some true) && decide (PySem.W.subIn K (.ref (ga K C)) (.type "BaseException") = some true)))))))
theorem catB_ok {K : PySem.W.Frag} {C : Str} (h : catB K C = true) : ExcC K (ga K C) := by
  obtain ⟨h1, h⟩ := ba h
  obtain ⟨h2, h⟩ := ba h
  obtain ⟨h3, h⟩ := ba h
  obtain ⟨h4, h⟩ := ba h
  obtain ⟨h5, h⟩ := ba h
  obtain ⟨h6, h⟩ := ba h
  obtain ⟨h7, h8⟩ := ba h
  exact ⟨eqO_ok h1, eqO_ok h2, of_decide_eq_true h8, h3, eqO_ok h4, eqO_ok h5, of_decide_eq_true h6, of_decide_eq_true h7⟩
def kitB (K : PySem.W.Frag) (p : Str × Str × Bool) : Bool := decide (PySem.W.kitOne K (.ref (ga K p.1)) (.ref (ga K p.2.1)) = some p.2.2)
theorem noarg_ok {K : PySem.W.Frag} {mg : Str → Option Value} {d : XD} {file : Str} (e : fnY K d.cls = d.val) (h1 : iniB K d.cls d.qual file = true) (h2 : excB K d.cls = true) (h3 : eqO (PySem.W.nsIn K cStatics "thirdparty.any") (some none) = true) (h4 : mg "super" = none) :
    XR.NoArg K mg file (ga K d.cls) (iAd K d.cls) "__init__" d.qual d.params d.body d.scope := by
  obtain ⟨c1, h2⟩ := ba h2
  obtain ⟨c2, h2⟩ := ba h2
  obtain ⟨c3, h2⟩ := ba h2
  obtain ⟨c4, h2⟩ := ba h2
  obtain ⟨c5, h2⟩ := ba h2
  obtain ⟨c6, h2⟩ := ba h2
  obtain ⟨c7, h2⟩ := ba h2
  obtain ⟨c8, h2⟩ := ba h2
  obtain ⟨c9, c10⟩ := ba h2
  exact ⟨⟨oexB_ok c1, eqO_ok c2, of_decide_eq_true c3, of_decide_eq_true c4, c5⟩, eqO_ok c6, of_decide_eq_true c7, ini_ok e h1, of_decide_eq_true c8, of_decide_eq_true c9, of_decide_eq_true c10, eqO_ok h3, h4⟩
/-! ### the Hook -/
def asY (g : Addr → Option Obj) (n : Nat) : List Addr := cStatics :: asD g n
/-- what is told of K: fa, fn, tf as He has them; xs the own exceptions, ks the answers of isinstance -/
def moreB (xs : List XD) (ks : List (Str × Str × Bool)) (file : Str) (K : PySem.W.Frag) : Bool :=
  eqO (PySem.W.nsIn K cStatics "thirdparty.any") (some none) && (xs.all (fun d => iniB K d.cls d.qual file && (excB K d.cls && catB K d.cls)) && ks.all (kitB K))
/-- the defs' tables are different ones -/
def nodB (tf : List Defn) (K : PySem.W.Frag) : Bool := decide ((tf.map fun p => (cT K p).2).Nodup)
abbrev AlY : Type := AlX × List FnY
def obsY (n : Nat) (fa : List Fa) (fn : List DefD) (tf : List Defn) (xs : List XD) (ks : List (Str × Str × Bool)) (file : Str) (g : Addr → Option Obj) : AlY :=
  ((obsT fa fn [] (frT g (asY g n)), (moreB xs ks file (frT g (asY g n)) && nodB tf (frT g (asY g n))) && tabsB g tf (frT g (asY g n))), xs.map fun d => fnY (frT g (asY g n)) d.cls)
def valY (fn : List DefD) (xs : List XD) (w : World) : AlY := (valX fn [] w, xs.map XD.val)
structure SaysY (fa : List Fa) (fn : List DefD) (tf : List Defn) (xs : List XD) (ks : List (Str × Str × Bool)) (file : Str) (w : World) (h : Heap) (K : PySem.W.Frag) : Prop where
  d : SaysD fa fn K
  more : moreB xs ks file K = true
  nod : nodB tf K = true
  hd : ∀ p ∈ tf, PySem.W.codeHdIn K (cT K p).1 (cT K p).2 = true
  out : ∀ p ∈ tf, K.lookup (cT K p).2 = none
  empty : ∀ p ∈ tf, h.get? (cT K p).2 = some { cls := .none, data := .fields #[] }
  ini : ∀ d ∈ xs, fnY K d.cls = d.val
theorem map_at {α β : Type} {f g : α → β} : ∀ {l : List α}, l.map f = l.map g → ∀ a ∈ l, f a = g a
  | [], _, a, ha => nomatch ha
  | b :: l, e, a, ha => by
    have e' : f b :: l.map f = g b :: l.map g := e
    injection e' with e1 e2
    rcases List.mem_cons.mp ha with rfl | ha
    · exact e1
    · exact map_at e2 a ha
theorem says_of {n : Nat} {fa : List Fa} {fn : List DefD} {tf : List Defn} {xs : List XD} {ks : List (Str × Str × Bool)} {file : Str} {w : World} {h : Heap} (e : obsY n fa fn tf xs ks file h.get? = valY fn xs w) :
    SaysY fa fn tf xs ks file w h (frT h.get? (asY h.get? n)) := by
  obtain ⟨e1, e2⟩ := Prod.mk.inj e
  obtain ⟨e3, e4⟩ := Prod.mk.inj e1
  obtain ⟨m1, m2⟩ := ba e4
  have tab := fun p hp => ba (List.all_eq_true.mp m2 p hp)
  have obj : ∀ p ∈ tf, ∃ o, h.get? (cT (frT h.get? (asY h.get? n)) p).2 = some o ∧ emptyTab o = true := fun p hp => by
    have z := (tab p hp).2
    split at z
    · rename_i o q
      exact ⟨o, q, z⟩
    · cases z
  exact { d := SaysT.d (w := w) (ts := []) e3
          more := (ba m1).1
          nod := (ba m1).2
          hd := fun p hp => (tab p hp).1
          out := fun p hp => let ⟨o, q, z⟩ := obj p hp; frT_none q z
          empty := fun p hp => by
            obtain ⟨o, q, z⟩ := obj p hp
            rw [q, emptyTab_eq z]
          ini := fun d hd => map_at e2 d hd }
def hookY (n : Nat) (fa : List Fa) (fn : List DefD) (tf : List Defn) (xs : List XD) (ks : List (Str × Str × Bool)) (file : Str) : PySem.W.Hook where
  α := AlY
  obs := fun s => obsY n fa fn tf xs ks file s.heap.get?
  val := fun w => valY fn xs w
  says := fun w h => ∃ K : PySem.W.Frag, K.In h ∧ SaysY fa fn tf xs ks file w h K
  of := fun _ _ e => ⟨_, frT_in, says_of e⟩
  keeps := fun _ _ _ ⟨K, hK, c⟩ k => ⟨K, hK.keeps k, { d := c.d, more := c.more, nod := c.nod, hd := c.hd, out := c.out, empty := fun p hp => k _ _ (c.empty p hp), ini := c.ini }⟩
theorem obsY_eq {n : Nat} {fa : List Fa} {fn : List DefD} {tf : List Defn} {xs : List XD} {ks : List (Str × Str × Bool)} {file : Str} {g : Addr → Option Obj} {s : Shared} (h : ∀ a, g a = s.heap.get? a) : obsY n fa fn tf xs ks file g = (hookY n fa fn tf xs ks file).obs s := by
  obtain rfl : g = s.heap.get? := funext h
  rfl
section
variable {fa : List Fa} {fn : List DefD} {tf : List Defn} {xs : List XD} {ks : List (Str × Str × Bool)} {file : Str} {w : World} {h : Heap} {K : PySem.W.Frag} {mg : Str → Option Value}
theorem SaysY.noarg (c : SaysY fa fn tf xs ks file w h K) (h4 : mg "super" = none) {d : XD} (hd : d ∈ xs) : XR.NoArg K mg file (ga K d.cls) (iAd K d.cls) "__init__" d.qual d.params d.body d.scope := by
  obtain ⟨m1, m2⟩ := ba c.more
  obtain ⟨m3, m4⟩ := ba m2
  obtain ⟨c1, c2⟩ := ba (List.all_eq_true.mp m3 d hd)
  exact noarg_ok (c.ini d hd) c1 (ba c2).1 m1 h4
theorem SaysY.cat (c : SaysY fa fn tf xs ks file w h K) {d : XD} (hd : d ∈ xs) : ExcC K (ga K d.cls) := by
  obtain ⟨m1, m2⟩ := ba c.more
  obtain ⟨m3, m4⟩ := ba m2
  exact catB_ok (ba (ba (List.all_eq_true.mp m3 d hd)).2).2
theorem SaysY.kit (c : SaysY fa fn tf xs ks file w h K) {p : Str × Str × Bool} (hp : p ∈ ks) : PySem.W.kitOne K (.ref (ga K p.1)) (.ref (ga K p.2.1)) = some p.2.2 := by
  obtain ⟨m1, m2⟩ := ba c.more
  exact of_decide_eq_true (List.all_eq_true.mp (ba m2).2 p hp)
end
end HY
end

section
set_option Elab.async false
set_option linter.all false
set_option maxRecDepth 100000
/-! The text by places: each def's statement, its datum for the head. Printed by gentop.py. -/
namespace K91
open PySem L2
def top (i : Nat) : Stmt := PySem.Challenge.pw_bynamealone_k91_parts_spoilt.main.body.getD i (.Pass ⟨0, 0, 0, 0⟩)
abbrev s_is_integer : Stmt := top 8
abbrev s_is_name : Stmt := top 9
abbrev s_is_condition : Stmt := top 11
abbrev s_show_condition : Stmt := top 13
abbrev s_show_part : Stmt := top 14
abbrev s_is_part : Stmt := top 16
abbrev s_need_text : Stmt := top 20
abbrev s_need : Stmt := top 21
abbrev s_number_of : Stmt := top 22
abbrev s_Reader_init : Stmt := inClass (top 23) 0
abbrev s_Reader_takes : Stmt := inClass (top 23) 1
abbrev s_Reader_needs : Stmt := inClass (top 23) 2
abbrev s_Reader_signs : Stmt := inClass (top 23) 3
abbrev s_Reader_word_here : Stmt := inClass (top 23) 4
abbrev s_Reader_several : Stmt := inClass (top 23) 5
abbrev s_Reader_condition_here : Stmt := inClass (top 23) 6
abbrev s_Reader_part_here : Stmt := inClass (top 23) 7
abbrev s_read_condition : Stmt := top 24
abbrev s_read_part : Stmt := top 25
abbrev s_law_bag : Stmt := top 27
abbrev s_law_take : Stmt := top 28
abbrev s_law_alike : Stmt := top 29
abbrev s_law_one : Stmt := top 30
abbrev s_law_names : Stmt := top 31
abbrev s_law_condition : Stmt := top 32
abbrev s_law_pieces : Stmt := top 33
abbrev s_law_leaf : Stmt := top 34
abbrev s_law_part : Stmt := top 35
abbrev s_law_condition_text : Stmt := top 36
abbrev s_law_part_text : Stmt := top 37
abbrev s_law_name_at : Stmt := top 38
abbrev s_law_number_at : Stmt := top 39
abbrev s_law_conditions_at : Stmt := top 40
abbrev s_law_condition_at : Stmt := top 41
abbrev s_law_row_at : Stmt := top 42
abbrev s_law_after : Stmt := top 43
abbrev s_law_if_at : Stmt := top 44
abbrev s_law_part_at : Stmt := top 45
abbrev s_law_whole : Stmt := top 46
abbrev s_law_spoilt : Stmt := top 47
abbrev s_law_read : Stmt := top 48
abbrev s_law_text : Stmt := top 49
abbrev s_law : Stmt := top 50
def d_is_integer : He.DefD := ⟨("is_integer", none), "is_integer", "is_integer", defArgs s_is_integer, defBody s_is_integer, defScope s_is_integer, [], []⟩
def d_is_name : He.DefD := ⟨("is_name", none), "is_name", "is_name", defArgs s_is_name, defBody s_is_name, defScope s_is_name, [], []⟩
def d_is_condition : He.DefD := ⟨("is_condition", none), "is_condition", "is_condition", defArgs s_is_condition, defBody s_is_condition, defScope s_is_condition, [], []⟩
def d_show_condition : He.DefD := ⟨("show_condition", none), "show_condition", "show_condition", defArgs s_show_condition, defBody s_show_condition, defScope s_show_condition, [], []⟩
def d_show_part : He.DefD := ⟨("show_part", none), "show_part", "show_part", defArgs s_show_part, defBody s_show_part, defScope s_show_part, [], []⟩
def d_is_part : He.DefD := ⟨("is_part", none), "is_part", "is_part", defArgs s_is_part, defBody s_is_part, defScope s_is_part, [], []⟩
def d_need_text : He.DefD := ⟨("need_text", none), "need_text", "need_text", defArgs s_need_text, defBody s_need_text, defScope s_need_text, [], []⟩
def d_need : He.DefD := ⟨("need", none), "need", "need", defArgs s_need, defBody s_need, defScope s_need, [], []⟩
def d_number_of : He.DefD := ⟨("number_of", none), "number_of", "number_of", defArgs s_number_of, defBody s_number_of, defScope s_number_of, [], []⟩
def d_Reader_init : He.DefD := ⟨("Reader", some "__init__"), "__init__", "Reader.__init__", defArgs s_Reader_init, defBody s_Reader_init, defScope s_Reader_init, [], []⟩
def d_Reader_takes : He.DefD := ⟨("Reader", some "takes"), "takes", "Reader.takes", defArgs s_Reader_takes, defBody s_Reader_takes, defScope s_Reader_takes, [], []⟩
def d_Reader_needs : He.DefD := ⟨("Reader", some "needs"), "needs", "Reader.needs", defArgs s_Reader_needs, defBody s_Reader_needs, defScope s_Reader_needs, [], []⟩
def d_Reader_signs : He.DefD := ⟨("Reader", some "signs"), "signs", "Reader.signs", defArgs s_Reader_signs, defBody s_Reader_signs, defScope s_Reader_signs, [], []⟩
def d_Reader_word_here : He.DefD := ⟨("Reader", some "word_here"), "word_here", "Reader.word_here", defArgs s_Reader_word_here, defBody s_Reader_word_here, defScope s_Reader_word_here, [], []⟩
def d_Reader_several : He.DefD := ⟨("Reader", some "several"), "several", "Reader.several", defArgs s_Reader_several, defBody s_Reader_several, defScope s_Reader_several, [], []⟩
def d_Reader_condition_here : He.DefD := ⟨("Reader", some "condition_here"), "condition_here", "Reader.condition_here", defArgs s_Reader_condition_here, defBody s_Reader_condition_here, defScope s_Reader_condition_here, [], []⟩
def d_Reader_part_here : He.DefD := ⟨("Reader", some "part_here"), "part_here", "Reader.part_here", defArgs s_Reader_part_here, defBody s_Reader_part_here, defScope s_Reader_part_here, [], []⟩
def d_read_condition : He.DefD := ⟨("read_condition", none), "read_condition", "read_condition", defArgs s_read_condition, defBody s_read_condition, defScope s_read_condition, [], []⟩
def d_read_part : He.DefD := ⟨("read_part", none), "read_part", "read_part", defArgs s_read_part, defBody s_read_part, defScope s_read_part, [], []⟩
def d_law_bag : He.DefD := ⟨("_law_bag", none), "_law_bag", "_law_bag", defArgs s_law_bag, defBody s_law_bag, defScope s_law_bag, [], []⟩
def d_law_take : He.DefD := ⟨("_law_take", none), "_law_take", "_law_take", defArgs s_law_take, defBody s_law_take, defScope s_law_take, [], []⟩
def d_law_alike : He.DefD := ⟨("_law_alike", none), "_law_alike", "_law_alike", defArgs s_law_alike, defBody s_law_alike, defScope s_law_alike, [], []⟩
def d_law_one : He.DefD := ⟨("_law_one", none), "_law_one", "_law_one", defArgs s_law_one, defBody s_law_one, defScope s_law_one, [], []⟩
def d_law_names : He.DefD := ⟨("_law_names", none), "_law_names", "_law_names", defArgs s_law_names, defBody s_law_names, defScope s_law_names, [], []⟩
def d_law_condition : He.DefD := ⟨("_law_condition", none), "_law_condition", "_law_condition", defArgs s_law_condition, defBody s_law_condition, defScope s_law_condition, [], []⟩
def d_law_pieces : He.DefD := ⟨("_law_pieces", none), "_law_pieces", "_law_pieces", defArgs s_law_pieces, defBody s_law_pieces, defScope s_law_pieces, [], []⟩
def d_law_leaf : He.DefD := ⟨("_law_leaf", none), "_law_leaf", "_law_leaf", defArgs s_law_leaf, defBody s_law_leaf, defScope s_law_leaf, [], []⟩
def d_law_part : He.DefD := ⟨("_law_part", none), "_law_part", "_law_part", defArgs s_law_part, defBody s_law_part, defScope s_law_part, [], []⟩
def d_law_condition_text : He.DefD := ⟨("_law_condition_text", none), "_law_condition_text", "_law_condition_text", defArgs s_law_condition_text, defBody s_law_condition_text, defScope s_law_condition_text, [], []⟩
def d_law_part_text : He.DefD := ⟨("_law_part_text", none), "_law_part_text", "_law_part_text", defArgs s_law_part_text, defBody s_law_part_text, defScope s_law_part_text, [], []⟩
def d_law_name_at : He.DefD := ⟨("_law_name_at", none), "_law_name_at", "_law_name_at", defArgs s_law_name_at, defBody s_law_name_at, defScope s_law_name_at, [], []⟩
def d_law_number_at : He.DefD := ⟨("_law_number_at", none), "_law_number_at", "_law_number_at", defArgs s_law_number_at, defBody s_law_number_at, defScope s_law_number_at, [], []⟩
def d_law_conditions_at : He.DefD := ⟨("_law_conditions_at", none), "_law_conditions_at", "_law_conditions_at", defArgs s_law_conditions_at, defBody s_law_conditions_at, defScope s_law_conditions_at, [], []⟩
def d_law_condition_at : He.DefD := ⟨("_law_condition_at", none), "_law_condition_at", "_law_condition_at", defArgs s_law_condition_at, defBody s_law_condition_at, defScope s_law_condition_at, [], []⟩
def d_law_row_at : He.DefD := ⟨("_law_row_at", none), "_law_row_at", "_law_row_at", defArgs s_law_row_at, defBody s_law_row_at, defScope s_law_row_at, [], []⟩
def d_law_after : He.DefD := ⟨("_law_after", none), "_law_after", "_law_after", defArgs s_law_after, defBody s_law_after, defScope s_law_after, [], []⟩
def d_law_if_at : He.DefD := ⟨("_law_if_at", none), "_law_if_at", "_law_if_at", defArgs s_law_if_at, defBody s_law_if_at, defScope s_law_if_at, [], []⟩
def d_law_part_at : He.DefD := ⟨("_law_part_at", none), "_law_part_at", "_law_part_at", defArgs s_law_part_at, defBody s_law_part_at, defScope s_law_part_at, [], []⟩
def d_law_whole : He.DefD := ⟨("_law_whole", none), "_law_whole", "_law_whole", defArgs s_law_whole, defBody s_law_whole, defScope s_law_whole, [], []⟩
def d_law_spoilt : He.DefD := ⟨("_law_spoilt", none), "_law_spoilt", "_law_spoilt", defArgs s_law_spoilt, defBody s_law_spoilt, defScope s_law_spoilt, [], []⟩
def d_law_read : He.DefD := ⟨("_law_read", none), "_law_read", "_law_read", defArgs s_law_read, defBody s_law_read, defScope s_law_read, [], []⟩
def d_law_text : He.DefD := ⟨("_law_text", none), "_law_text", "_law_text", defArgs s_law_text, defBody s_law_text, defScope s_law_text, [], []⟩
def d_law : He.DefD := ⟨("law", none), "law", "law", defArgs s_law, defBody s_law, defScope s_law, [], []⟩
def fn : List He.DefD := [d_is_integer, d_is_name, d_is_condition, d_show_condition, d_show_part, d_is_part, d_need_text, d_need, d_number_of, d_Reader_init, d_Reader_takes, d_Reader_needs, d_Reader_signs, d_Reader_word_here, d_Reader_several, d_Reader_condition_here, d_Reader_part_here, d_read_condition, d_read_part, d_law_bag, d_law_take, d_law_alike, d_law_one, d_law_names, d_law_condition, d_law_pieces, d_law_leaf, d_law_part, d_law_condition_text, d_law_part_text, d_law_name_at, d_law_number_at, d_law_conditions_at, d_law_condition_at, d_law_row_at, d_law_after, d_law_if_at, d_law_part_at, d_law_whole, d_law_spoilt, d_law_read, d_law_text, d_law]
end K91
end

section
set_option Elab.async false
set_option linter.all false
set_option maxRecDepth 100000
set_option maxHeartbeats 0
/-! The head: what the top has left. Printed by gentop.py. -/
namespace K91
open PySem PySem.Spec PyProof.Rows L2
def fa : List He.Fa := [.glo "AloneError", .glo "Wrong", .glo "NoText", .glo "is_integer", .glo "is_name", .glo "is_condition", .glo "show_condition", .glo "show_part", .glo "is_part", .glo "need_text", .glo "need", .glo "number_of", .glo "Reader", .glo "read_condition", .glo "read_part", .glo "_law_bag", .glo "_law_take", .glo "_law_alike", .glo "_law_one", .glo "_law_names", .glo "_law_condition", .glo "_law_pieces", .glo "_law_leaf", .glo "_law_part", .glo "_law_condition_text", .glo "_law_part_text", .glo "_law_name_at", .glo "_law_number_at", .glo "_law_conditions_at", .glo "_law_condition_at", .glo "_law_row_at", .glo "_law_after", .glo "_law_if_at", .glo "_law_part_at", .glo "_law_whole", .glo "_law_spoilt", .glo "_law_read", .glo "_law_text", .glo "law", .free "ValueError", .free "abs", .free "all", .free "bool", .free "int", .free "isinstance", .free "len", .free "list", .free "min", .free "range", .free "repr", .free "sorted", .free "str", .free "super", .free "tuple", .str "LETTERS" "abcdefghijklmnopqrstuvwxyz", .int "LONGEST_NAME" 8, .str "DIGITS" "0123456789", .int "MOST_DIGITS" 9, .cls "Reader", .mkr "Reader", .noat "Reader" "its_place", .noat "Reader" "its_text", .meth "Reader" "takes", .meth "Reader" "needs", .meth "Reader" "signs", .meth "Reader" "word_here", .meth "Reader" "several", .meth "Reader" "condition_here", .meth "Reader" "part_here", .exm "NoText" "AloneError" true]
def tf : List He.Defn := [("Reader", some "condition_here"), ("Reader", some "part_here"), ("law", none)]
abbrev s_NoText_init : Stmt := inClass (top 4) 0
def x_NoText : HY.XD := ⟨"NoText", "NoText.__init__", defArgs s_NoText_init, defBody s_NoText_init, defScope s_NoText_init⟩
def xs : List HY.XD := [x_NoText]
def ks : List (Str × Str × Bool) := [("NoText", "Wrong", false), ("NoText", "NoText", true)]
def loose0 : List Str := ["_wall", "__name__", "AloneError", "Wrong", "NoText", "LETTERS", "LONGEST_NAME", "is_integer", "is_name", "is_condition", "show_condition", "show_part", "is_part", "DIGITS", "MOST_DIGITS", "need_text", "need", "number_of", "Reader", "read_condition", "read_part", "_law_bag", "_law_take", "_law_alike", "_law_one", "_law_names", "_law_condition", "_law_pieces", "_law_leaf", "_law_part"]
def loose1 : List Str := ["_law_condition_text", "_law_part_text", "_law_name_at", "_law_number_at", "_law_conditions_at", "_law_condition_at", "_law_row_at", "_law_after", "_law_if_at", "_law_part_at", "_law_whole", "_law_spoilt", "_law_read", "_law_text"]
def loose : List Str := loose0 ++ loose1
abbrev R : PySem.W.OpenRow := PySem.W.OpenLaw.row PySem.Challenge.rw_bynamealone_k91_parts_spoilt
abbrev hk : PySem.W.Hook := HY.hookY 6 fa fn tf xs ks "/claim/cut.py"
def ob (s : PySem.W.SharedT) : HY.AlY := HY.obsY 6 fa fn tf xs ks "/claim/cut.py" (HandSHeadRun.getT s)
theorem ob_eq (s : PySem.W.SharedT) : ob s = hk.obs s.abs := HY.obsY_eq (HandSHeadRun.getT_eq s)
theorem run (w : World) : HandSHeadRun.RunEq R (PySem.W.view R.prog [50]) hk ob 4000 loose w := by
  intro os
  kernel_rfl
end K91
end

section
set_option Elab.async false
set_option linter.all false
set_option maxRecDepth 100000
set_option maxHeartbeats 4000000
/-! The end of a law row where the law asks repr: the law's def is run around the caller itself, whose guards are told. -/
namespace EG
open PySem PySem.Spec PyProof.Rows L2
/-- a def keeps its promise when it is called within A -/
structure RunA (P : Program) (w : World) (K : PySem.W.Frag) (mg : Str → Option Value) (base : Heap) (CX : CXT) (A : Around) (f : Addr) (fd : FuncData) (ps : List Str) (sp : Sp) : Prop where
  run : ∀ (outer : List Env) (s : Shared) (H : Hp) (args : Args) (us : List Value) (vs : List V) (Q : VK) (E : XK), Env0 P w K mg base A outer s H → BindsTo s fd args (ps.zip us) → Vals vs us → sp vs H Q E →
    codeAny (model P w) A (.call (.ref f) args) (CR CX outer P w H s Q E) s
/-- the first abstract heap: the tables, and the script, where it is not of the written part -/
def H0 (K : PySem.W.Frag) (ts : List Addr) (a : Addr) (o : Obj) (xs : List V) : Hp := fun b =>
  if b ∈ ts then some (.tbl #[]) else if b = a ∧ (K.lookup a).isNone = true then some (.frz o (.lst xs)) else none
theorem H0_cases {K : PySem.W.Frag} {ts : List Addr} {a : Addr} {o : Obj} {xs : List V} {b : Addr} {u : HO} (h : H0 K ts a o xs b = some u) : (b ∈ ts ∧ u = .tbl #[]) ∨ (b = a ∧ K.lookup a = none ∧ u = .frz o (.lst xs)) := by
  unfold H0 at h
  by_cases h1 : b ∈ ts
  · rw [if_pos h1] at h
    exact .inl ⟨h1, (Option.some.inj h).symm⟩
  · rw [if_neg h1] at h
    by_cases h2 : b = a ∧ (K.lookup a).isNone = true
    · rw [if_pos h2] at h
      exact .inr ⟨h2.1, Option.isNone_iff_eq_none.mp h2.2, (Option.some.inj h).symm⟩
    · rw [if_neg h2] at h
      cases h
theorem H0_tab {K : PySem.W.Frag} {ts : List Addr} {a : Addr} {o : Obj} {xs : List V} {b : Addr} (h : b ∈ ts) : H0 K ts a o xs b = some (.tbl #[]) := if_pos h
section
variable {P : Program} {w : World} {K : PySem.W.Frag} {mg mb : Str → Option Value} {CX : CXT} {fa a : Addr} {cs : List (Addr × Addr)} {fd : FuncData} {x : Str} {sp : Sp} {s : Shared} {vs : List Value} {ns : List Int}
theorem law_go (KX : K.In s.heap) (hg : s.heap.Ns mainGlobals mg) (hb : s.heap.Ns builtinsNs mb) (hbb : ∀ y : Str, y ≠ "__name__" → mb y = bootBuiltins y) (hlim : s.heap.NoLimit) (hgen : s.gens = #[])
    (hT : ∀ p ∈ cs, s.heap.get? p.2 = some { cls := .none, data := .fields #[] }) (nT : ∀ p ∈ cs, K.lookup p.2 = none) (hC : ∀ p ∈ cs, PySem.W.CodeHd s.heap p.1 p.2)
    (hbm : ∃ (bm : Addr) (ob : Obj), mg "__builtins__" = some (.ref bm) ∧ bm ≠ builtinsNs ∧ s.heap.get? bm = some ob ∧ ob.cls = .type "module" ∧ ob.dict = some builtinsNs ∧ ob.data = .plain)
    (ha : s.heap.get? a = some { cls := .type "list", data := .seq vs.toArray }) (hi : IntsAre vs ns) (hl : ns.length ≤ sizeLine)
    (F : ∀ base : Heap, K.In base → base.Ns mainGlobals mg → (∀ p ∈ cs, LamX.TabB base mg p.1 p.2) → RunA P w K mg base CX callerA fa fd [x] sp) (hbind : ∀ (s : Shared) (u : Value), BindsTo s fd ⟨[u], []⟩ [(x, u)])
    (hsp : ∀ H : Hp, (∀ p ∈ cs, H p.2 = some (.tbl #[])) → SqL K H a (ns.map V.int) → sp [.ref a] H (fun v _ => v = .bl true) fun _ _ _ => False)
    (hCX : ∀ H e s', CX [] H s (fun _ _ _ => False) e s' → False) :
    codeAny (model P w) callerA (.call (.ref fa) ⟨[.ref a], []⟩) (fun r s' => r = .ok (.ret (.bool true)) ∧ OldK s.heap s'.heap ∧ s'.os = s.os ∧ AllBare s'.gens) s := by
  have rv := vals_ints hi
  have lv := hi.length
  obtain ⟨H, eH⟩ : ∃ H, H = H0 K (cs.map (·.2)) a { cls := .type "list", data := .seq vs.toArray } (ns.map V.int) := ⟨_, rfl⟩
  have inTs : ∀ p ∈ cs, p.2 ∈ cs.map (·.2) := fun p hp => List.mem_map.mpr ⟨p, hp, rfl⟩
  have tsObj : ∀ b ∈ cs.map (·.2), s.heap.get? b = some { cls := .none, data := .fields #[] } ∧ K.lookup b = none := fun b hb => by
    obtain ⟨p, hp, rfl⟩ := List.mem_map.mp hb
    exact ⟨hT p hp, nT p hp⟩
  have cases_ : ∀ {b u}, H b = some u → (b ∈ cs.map (·.2) ∧ u = .tbl #[]) ∨ (b = a ∧ K.lookup a = none ∧ u = .frz { cls := .type "list", data := .seq vs.toArray } (.lst (ns.map V.int))) := fun {b u} h => by
    rw [eH] at h
    exact H0_cases h
  have tabs : ∀ p ∈ cs, H p.2 = some (.tbl #[]) := fun p hp => by
    rw [eH]
    exact H0_tab (inTs p hp)
  -- an object of another make is not tracked
  have un : ∀ {b : Addr} {o : Obj}, s.heap.get? b = some o → o.data ≠ .fields #[] → (∀ us n, o.data ≠ .seq us n) → H b = none := fun {b o} e n1 n2 => by
    cases q : H b with
    | none => rfl
    | some u =>
      exfalso
      rcases cases_ q with ⟨hb, _⟩ | ⟨rfl, _⟩
      · rw [(tsObj b hb).1] at e
        exact n1 (by rw [← Option.some.inj e])
      · rw [ha] at e
        exact n2 _ _ (by rw [← Option.some.inj e])
  have nsB : ∀ {b : Addr} {m : Str → Option Value}, s.heap.Ns b m → (hidT s.heap H).Ns b m := fun {b m} ⟨o, es, ep, e, d, r⟩ =>
    ⟨o, es, ep, hidT_get e (un e (by rw [d]; intro z; cases z) (by rw [d]; intro us n z; cases z)), d, r⟩
  have KB : K.In (hidT s.heap H) := fun b o e => hidT_get (KX b o e) (by
    cases q : H b with
    | none => rfl
    | some u =>
      exfalso
      rcases cases_ q with ⟨hb, _⟩ | ⟨rfl, n, _⟩
      · rw [(tsObj b hb).2] at e
        cases e
      · rw [n] at e
        cases e)
  have aTs : a ∉ cs.map (·.2) := fun z => by
    have q := (tsObj a z).1
    rw [ha] at q
    cases congrArg Obj.data (Option.some.inj q)
  have hok : HOk P w H s.heap := fun b u q => by
    rcases cases_ q with ⟨hb, rfl⟩ | ⟨rfl, _, rfl⟩
    · exact (tsObj b hb).1
    · exact ⟨ha, by rw [List.length_map]; exact hl, vs, _, rv, ha⟩
  have hS : SqL K H a (ns.map V.int) := by
    cases q : K.lookup a with
    | some o =>
      have e := KX a o q
      rw [ha] at e
      cases e
      exact .inr ⟨_, vs.toArray, _, q, rfl, rfl, rfl, by rw [List.size_toArray, lv]; exact hl, by simpa using rv⟩
    | none =>
      refine .inl (.inr ⟨{ cls := .type "list", data := .seq vs.toArray }, ?_⟩)
      rw [eH]
      unfold H0
      rw [if_neg aTs, if_pos ⟨rfl, by rw [q]; rfl⟩]
  have TB : ∀ p ∈ cs, LamX.TabB (hidT s.heap H) mg p.1 p.2 := fun p hp => by
    have tp := hT p hp
    obtain ⟨o, us, f1, f2, f3, f4, f5, f6, f7, c1, c2, c3, c4, c5, c6, c7, c8, c9, c10⟩ := hC p hp
    obtain ⟨bm, ob, b1, b2, b3, b4, b5, b6⟩ := hbm
    obtain ⟨og, es, ep, g1, g2, g3⟩ := id hg
    have nG : bm ≠ mainGlobals := fun q => by
      rw [q, g1] at b3
      cases b3
      rw [g2] at b6
      cases b6
    have nP : bm ≠ p.2 := fun q => by
      rw [q, tp] at b3
      cases b3
      cases b6
    refine ⟨⟨o, us, f1, f2, f3, f4, f5, f6, f7, hidT_get c1 (un c1 (fun z => ?_) (fun us' n z => ?_)), c2, c3, c4, c5, c6, c7, c8, c9, c10⟩, ⟨bm, ob, b1, b2, nG, nP, hidT_get b3 (un b3 (fun z => ?_) (fun us' n z => ?_)), b4, b5, b6⟩, fun z => ?_⟩
    · rw [c3] at z
      cases z
      simp at c4
    · rw [c3] at z
      cases z
    · rw [b6] at z
      cases z
    · rw [b6] at z
      cases z
    · rw [z, tp] at g1
      cases g1
      cases g2
  have M : L2.Mod K mg (hidT s.heap H) := ⟨KB, nsB hg, ⟨mb, nsB hb, hbb⟩, let ⟨mc, h1, h2⟩ := hlim; ⟨mc, nsB h1, h2⟩⟩
  have e0 : Env0 P w K mg (hidT s.heap H) callerA [] s H := ⟨rfl, M, fun b o e => of_hidT e, Nat.le_of_eq (hidT_size _ _), trivial, (fun b hb => absurd (show b ∈ ([] : List Addr) from hb) (by simp)), hok, .of_eq hgen⟩
  refine codeAny_mono ((F _ KB (nsB hg) TB).run [] s H ⟨[.ref a], []⟩ [.ref a] [.ref a] _ _ e0 (hbind s (.ref a)) (.cons rfl .nil) (hsp H tabs hS)) fun r s' h => ?_
  match r, h with
  | .error e, h => exact (hCX H e s' h).elim
  | .ok .next, h => exact False.elim h
  | .ok .brk, h => exact False.elim h
  | .ok .cont, h => exact False.elim h
  | .ok (.ret u), h =>
    obtain ⟨v, H', os, bare, U, hok', r', q⟩ := h
    obtain rfl : v = .bl true := q
    obtain rfl : u = Value.bool true := r'
    -- what is no table is as it was
    have old : ∀ b o, b ∉ cs.map (·.2) → s.heap.get? b = some o → s'.heap.get? b = some o := fun b o nb e => by
      cases q : H b with
      | none => exact U.keep b o e q (fun z => absurd (show b ∈ ([] : List Addr) from z) (by simp)) (by simp)
      | some u =>
        rcases cases_ q with ⟨hb, _⟩ | ⟨_, _, rfl⟩
        · exact absurd hb nb
        · obtain ⟨e1, _⟩ := hok b _ q
          obtain ⟨e2, _⟩ := hok' b _ (U.frzs b _ _ q)
          rw [e] at e1
          rw [Option.some.inj e1]
          exact e2
    have grown : ∀ p ∈ cs, ∃ more : Array Value, s'.heap.get? p.2 = some { cls := .none, data := .fields more } := fun p hp => by
      obtain ⟨more, z⟩ := U.tbls p.2 #[] (tabs p hp)
      exact ⟨_, hok' p.2 _ z⟩
    refine ⟨rfl, ⟨fun b o e => ?_, fun b o e => ?_⟩, os, bare⟩
    · by_cases hb : b ∈ cs.map (·.2)
      · obtain ⟨p, hp, rfl⟩ := List.mem_map.mp hb
        obtain ⟨more, hm⟩ := grown p hp
        rw [hT p hp] at e
        cases e
        exact .inr (.inl ⟨((hC p hp).tab (hT p hp)).isCodeTable, rfl, #[], more, rfl, by rw [Array.empty_append]; exact hm⟩)
      · exact .inl (old b o hb e)
    · by_cases hb : b ∈ cs.map (·.2)
      · obtain ⟨p, hp, rfl⟩ := List.mem_map.mp hb
        obtain ⟨more, hm⟩ := grown p hp
        exact ⟨_, hm⟩
      · exact ⟨o, old b o hb e⟩
end
/-- what is told of the law at the head's heap h -/
def LawG (l : PySem.W.OpenLaw) (w : World) (K : PySem.W.Frag) (CX : CXT) (n : Nat) (x : Str) (mg : Str → Option Value) (fa : Addr) (h : Heap) : Prop :=
  ∃ (fd : FuncData) (cs : List (Addr × Addr)) (sp : Sp), (∀ p ∈ cs, h.get? p.2 = some { cls := .none, data := .fields #[] }) ∧ (∀ p ∈ cs, K.lookup p.2 = none) ∧ (∀ p ∈ cs, PySem.W.CodeHd h p.1 p.2) ∧ (∀ (s : Shared) (u : Value), BindsTo s fd ⟨[u], []⟩ [(x, u)]) ∧
    (∀ (H : Hp) (a : Addr) (ns : List Int), ns.length ≤ n → (∀ z ∈ ns, Builtin.Int.intBits z ≤ 1048576) → (∀ p ∈ cs, H p.2 = some (.tbl #[])) → SqL K H a (ns.map V.int) → sp [.ref a] H (fun v _ => v = .bl true) fun _ _ _ => False) ∧
    ∀ base : Heap, K.In base → base.Ns mainGlobals mg → (∀ p ∈ cs, LamX.TabB base mg p.1 p.2) → RunA l.prog w K mg base CX callerA fa fd [x] sp
theorem walkG {l : PySem.W.OpenLaw} {n : Nat} {q : Program} {loose : List Str} {XP : (Str → Option Value) → Heap → Prop} {YP : World → Heap → Prop} {d : DefRec} {CX : World → CXT} {x : Str}
    (hn : l.most = some n) (hn2 : n ≤ sizeLine) (hdf : d.params.defaults = [])
    (F : ∀ (w : World) (mg : Str → Option Value) (fa : Addr) (h : Heap), YP w h → h.Ns mainGlobals mg → mg d.name = some (.ref fa) → ∃ K : PySem.W.Frag, K.In h ∧ LawG l w K (CX w) n x mg fa h)
    (hCX : ∀ (w : World) (H : Hp) (s : Shared) (e : Value) (s' : Shared), CX w [] H s (fun _ _ _ => False) e s' → False) :
    PySem.W.WalkO q loose XP YP l.row.toRowW d [] (fun f vs => PySem.call f vs) := by
  refine Att.attach_callB hn hdf fun w s0 s1 mg mb fa o pm cd doc a vs ns G Y ho hd hcd hmg hobj hints hlen hbits hgen => ?_
  obtain ⟨K, KX, fd, cs, sp, hT, nT, hC, hb, hsp, hF⟩ := F w mg fa _ Y G.T.g hmg
  exact law_go KX G.T.g G.T.b G.T.builtins G.T.nolimit hgen hT nT hC G.T.bmain hobj hints (Nat.le_trans hlen hn2) hF hb (fun H h1 h2 => hsp H a ns hlen hbits h1 h2) fun H e s' => hCX w H s1 e s'
end EG
end

section
set_option Elab.async false
set_option linter.all false
set_option maxRecDepth 100000
set_option maxHeartbeats 4000000
/-! Short words of our own over the hand layer. -/
namespace HL
open PySem PySem.Spec PyProof.Rows L2 He
abbrev S (l : List Nat) : Str := ⟨l.toArray⟩
theorem ofq (s : String) : Str.ofString s = S (s.toList.map Char.toNat) := PySem.Str.ofString_eq_toList s
theorem S_inj {a b : List Nat} (h : S a = S b) : a = b := congrArg (fun x : Str => x.cps.toList) h
theorem S_tl (x : Str) : S x.cps.toList = x := TL.mk_tl x
theorem S_len (a : List Nat) : (S a).length = a.length := by simp [S, Str.length]
theorem S_cat (a b : List Nat) : S a ++ S b = S (a ++ b) := TL.ext_tl (TL.tl_append (S a) (S b))
theorem dec_S (a b : List Nat) : decide (V.str (S a) = V.str (S b)) = decide (a = b) := by
  by_cases h : a = b
  · subst h
    simp
  · rw [decide_eq_false h, decide_eq_false]
    intro z
    injection z with z
    exact h (S_inj z)
theorem small {n : Nat} (h : n ≤ 1000000) : n ≤ sizeLine := Nat.le_trans h (by decide)
/-! ### heaps -/
theorem same_new {H : Hp} {p : Addr} {o : HO} (h : H p = none) : Same H (upd H p o) := fun b u e => by
  rw [upd_ne (ne_of_none e h)]
  exact e
theorem Same.new {H0 H : Hp} {p : Addr} {o : HO} (e : Same H0 H) (h : H p = none) : Same H0 (upd H p o) := e.trans (same_new h)
theorem free_of {H0 H : Hp} {p : Addr} (e : Same H0 H) (h : H p = none) : H0 p = none := e.free h
/-- all but what stands at p is as it was -/
def SameB (p : Addr) (H H' : Hp) : Prop := ∀ b o, H b = some o → b ≠ p → H' b = some o
theorem SameB.refl (p : Addr) (H : Hp) : SameB p H H := fun _ _ h _ => h
theorem SameB.trans {p : Addr} {H H1 H2 : Hp} (a : SameB p H H1) (b : SameB p H1 H2) : SameB p H H2 := fun c o h n => b c o (a c o h n) n
theorem SameB.of {p : Addr} {H H' : Hp} (e : Same H H') : SameB p H H' := fun b o h _ => e b o h
theorem SameB.upd {p : Addr} {H H' : Hp} (e : SameB p H H') {o : HO} : SameB p H (upd H' p o) := fun b u h n => by
  rw [upd_ne n]
  exact e b u h n
theorem SameB.new {p q : Addr} {H H' : Hp} (e : SameB p H H') {o : HO} (h : H' q = none) : SameB p H (L2.upd H' q o) := e.trans (.of (same_new h))
/-- a new object may change -/
theorem Same.mut {H H' : Hp} {p : Addr} {o : HO} (e : Same H H') (h : H p = none) : Same H (upd H' p o) := fun b u z => by
  rw [upd_ne (ne_of_none z h)]
  exact e b u z
theorem SameB.mut {r p : Addr} {H H' : Hp} {o : HO} (e : SameB r H H') (h : H p = none) : SameB r H (L2.upd H' p o) := fun b u z n => by
  rw [upd_ne (ne_of_none z h)]
  exact e b u z n
theorem SameB.free {p q : Addr} {H H' : Hp} (e : SameB p H H') (h : H' q = none) (n : q ≠ p) : H q = none := by
  cases z : H q with
  | none => rfl
  | some o =>
    rw [e q o z n] at h
    cases h
/-! ### types -/
theorem tyx_tup {K : PySem.W.Frag} {H : Hp} {a : Addr} {xs : List V} (h : SqT K H a xs) : TyX K H (.ref a) (.type "tuple") := by
  rcases h with (h | ⟨o, h⟩) | ⟨o, its, n, h, c, _⟩
  · exact .base (.tup h)
  · exact .fTuple h
  · exact .kTuple h c
/-- a def of the text, at its place, keeps its promise; how it is called -/
structure Ok (P : Program) (w : World) (K : PySem.W.Frag) (mg : Str → Option Value) (base : Heap) (CX : CXT) (k : Nat) (at_ : Str × Option Str) (ps : List Str) (sp : Sp) : Prop where
  ex : ∃ fd, FnOk P w K mg base CX k (fAd K at_) fd ps sp ∧ Binds K fd ps []
  kp : PySem.W.keepIn K (.ref (fAd K at_)) = true
theorem Ok.imp {P : Program} {w : World} {K : PySem.W.Frag} {mg : Str → Option Value} {base : Heap} {CX : CXT} {k : Nat} {at_ : Str × Option Str} {ps : List Str} {sp sp' : Sp} (O : Ok P w K mg base CX k at_ ps sp) (h : ∀ vs H Q E, sp' vs H Q E → sp vs H Q E) : Ok P w K mg base CX k at_ ps sp' :=
  let ⟨fd, F, b⟩ := O.ex; ⟨⟨fd, F.imp h, b⟩, O.kp⟩
theorem Ok.mono {P : Program} {w : World} {K : PySem.W.Frag} {mg : Str → Option Value} {base : Heap} {CX : CXT} {j k : Nat} {at_ : Str × Option Str} {ps : List Str} {sp : Sp} (O : Ok P w K mg base CX j at_ ps sp) (h : j ≤ k) : Ok P w K mg base CX k at_ ps sp :=
  let ⟨fd, F, b⟩ := O.ex; ⟨⟨fd, F.mono h, b⟩, O.kp⟩
theorem ok_of {P : Program} {w : World} {K : PySem.W.Frag} {mg : Str → Option Value} {base : Heap} {CX : CXT} {k : Nat} {d : DefD} {N ps : List Str} {sp : Sp} (D : ∃ fd, FunD K d.name d.qual d.params d.body d.scope [] [] (fAd K d.at_) fd) (Sc : FnScope N ps d.scope) (len : ∀ vs H Q E, sp vs H Q E → vs.length = ps.length)
    (hb : ∀ (kV doc pm : Value) (an : Option Addr) (cdv ct : Value) (us : List Value), us.length = ps.length → bindArgs (PySem.W.fnOf d.name d.qual d.params d.body d.scope .none kV doc pm an cdv ct) ⟨us, []⟩ = pure (ps.zip us))
    (hbody : ∀ (cdv : Value) (A : Around) (outer : List Env) (s : Shared) (H : Hp) (vs : List V) (Q : VK) (E : XK), Room k (A.deeper (envOfC d.qual d.scope s.heap.objs.size (fAd K d.at_) cdv)) → sp vs H Q E →
      ∃ t, PSs (cxOf CX P w K mg base N d.qual d.scope (fAd K d.at_) cdv A outer s H E) d.body t ∧ t { nx := fun _ H' => Q .non H', rt := Q } (start N vs) H) : Ok P w K mg base CX (k + 1) d.at_ ps sp := by
  obtain ⟨fd, F⟩ := D
  exact ⟨⟨fd, F.ok Sc len hbody, F.bindsN hb⟩, F.kp⟩
/-- for a def that lets nothing out -/
theorem ok_of0 {P : Program} {w : World} {K : PySem.W.Frag} {mg : Str → Option Value} {base : Heap} {k : Nat} {d : DefD} {N ps : List Str} {sp : Sp} (D : ∃ fd, FunD K d.name d.qual d.params d.body d.scope [] [] (fAd K d.at_) fd) (Sc : FnScope N ps d.scope) (len : ∀ vs H Q E, sp vs H Q E → vs.length = ps.length)
    (hb : ∀ (kV doc pm : Value) (an : Option Addr) (cdv ct : Value) (us : List Value), us.length = ps.length → bindArgs (PySem.W.fnOf d.name d.qual d.params d.body d.scope .none kV doc pm an cdv ct) ⟨us, []⟩ = pure (ps.zip us))
    (hbody : ∀ (cdv : Value) (A : Around) (outer : List Env) (s : Shared) (H : Hp) (vs : List V) (Q : VK) (E : XK), Room k (A.deeper (envOfC d.qual d.scope s.heap.objs.size (fAd K d.at_) cdv)) → sp vs H Q E →
      ∃ t, PSs (cxOf CX0 P w K mg base N d.qual d.scope (fAd K d.at_) cdv A outer s H E).nox d.body t ∧ t { nx := fun _ H' => Q .non H', rt := Q } (start N vs) H) : Ok P w K mg base CX0 (k + 1) d.at_ ps sp :=
  ok_of D Sc len hb fun cdv A outer s H vs Q E hr h => let ⟨t, h1, h2⟩ := hbody cdv A outer s H vs Q E hr h; ⟨t, h1.nox, h2⟩
section
variable {X : Cx} {CX : CXT} {k : Nat} {ps : List Str} {sp : Sp} {E : XK} {x c m : Str} {p pos apos : Pos} {e o : Expr} {es : List Expr} {t : TA} {ta : TE}
theorem pe_cal (O : Ok X.prog X.w X.K X.mg X.base CX k (x, none) ps sp) (hr : Room k X.A) (hm : X.mg x = some (.ref (ga X.K x))) (hx : Passes CX X E) (ha : PA X (e :: es) t) (hg : Gl X x := by rfl) (hdb : (x == ("__debug__" : Str)) = false := by decide)
    (he : starEach (e :: es) X.env = (false, eval e X.env) :: starEach es X.env := by rfl) (hpl : (backTo pos (starEach es X.env)).any (·.1) = false := by rfl) :
    PE X (.Call (.Name x p) (e :: es) [] pos) (tCall sp [] E t) := by
  obtain ⟨fd, F, b⟩ := O.ex
  exact pe_call F hr hg hm O.kp b .nil hx ha hdb he hpl
theorem pe_cam {pl : Sem Bool} (O : Ok X.prog X.w X.K X.mg X.base CX k (c, some m) ps sp) (cl : Cls X.K (ga X.K c)) (hm : Meth X.K (ga X.K c) m (ma X.K (ga X.K c) m)) (hr : Room k X.A) (hx : Passes CX X E) (ho : PE X o ta) (ha : PA X (e :: es) t)
    (hst : starEach (e :: es) X.env = (false, eval e X.env) :: starEach es X.env := by rfl) (hpl : (backTo pos (starEach es X.env)).any (·.1) = false := by rfl)
    (ht : eval (.Call (.Attribute o m apos) (e :: es) [] pos) X.env = (do
      let ov ← eval o X.env
      standAt apos.atName
      let (f, first) ← holding [ov] (getMethod ov m pl)
      callWith pos f first (backTo pos (starEach (e :: es) X.env)) (backToKw pos (keywordEach [] X.env))) := by rfl) :
    PE X (.Call (.Attribute o m apos) (e :: es) [] pos) (tMeth (ga X.K c) m sp [] E ta t) := by
  obtain ⟨fd, F, b⟩ := O.ex
  exact pe_meth ho cl hm F hr b .nil hx ha hst hpl ht
theorem pe_cam0 {pl : Sem Bool} (O : Ok X.prog X.w X.K X.mg X.base CX k (c, some m) ps sp) (cl : Cls X.K (ga X.K c)) (hm : Meth X.K (ga X.K c) m (ma X.K (ga X.K c) m)) (hr : Room k X.A) (hx : Passes CX X E) (ho : PE X o ta)
    (ht : eval (.Call (.Attribute o m apos) [] [] pos) X.env = (do
      let ov ← eval o X.env
      standAt apos.atName
      let (f, first) ← holding [ov] (getMethod ov m pl)
      callWith pos f first (backTo pos (starEach [] X.env)) (backToKw pos (keywordEach [] X.env))) := by rfl) :
    PE X (.Call (.Attribute o m apos) [] [] pos) (tMeth (ga X.K c) m sp [] E ta tNil) := by
  obtain ⟨fd, F, b⟩ := O.ex
  exact pe_meth0 ho cl hm F hr b .nil hx ht
/-- x(e, ..), x an own class with __init__ -/
theorem pe_cak (O : Ok X.prog X.w X.K X.mg X.base CX k (c, some "__init__") ps sp) (M : Mk X.K (ga X.K c) (ma X.K (ga X.K c) "__init__")) (hr : Room (k + 1) X.A) (hm : X.mg c = some (.ref (ga X.K c))) (hx : Passes CX X E) (ha : PA X (e :: es) t) (hg : Gl X c := by rfl) (hdb : (c == ("__debug__" : Str)) = false := by decide)
    (he : starEach (e :: es) X.env = (false, eval e X.env) :: starEach es X.env := by rfl) (hpl : (backTo pos (starEach es X.env)).any (·.1) = false := by rfl) :
    PE X (.Call (.Name c p) (e :: es) [] pos) (tMake (ga X.K c) sp [] E t) := by
  obtain ⟨fd, F, b⟩ := O.ex
  exact pe_make M F hr hg hm b .nil hx ha hdb he hpl
end
end HL
end

section
set_option Elab.async false
set_option linter.all false
set_option maxRecDepth 100000
set_option maxHeartbeats 4000000
/-! Comprehensions by what they give; frames. -/
namespace HL
open PySem PySem.Spec PyProof.Rows L2 He
/-- what X allows to change may change -/
def Fr (X : Addr → HO → Prop) (H H' : Hp) : Prop := ∀ b o, H b = some o → X b o → H' b = some o
theorem Fr.refl (X : Addr → HO → Prop) (H : Hp) : Fr X H H := fun _ _ h _ => h
theorem Fr.trans {X : Addr → HO → Prop} {H H1 H2 : Hp} (a : Fr X H H1) (b : Fr X H1 H2) : Fr X H H2 := fun c o h x => b c o (a c o h x) x
theorem Fr.of {X : Addr → HO → Prop} {H H' : Hp} (e : Same H H') : Fr X H H' := fun b o h _ => e b o h
theorem Fr.same {X : Addr → HO → Prop} {H H1 H2 : Hp} (a : Fr X H H1) (e : Same H1 H2) : Fr X H H2 := a.trans (.of e)
theorem Fr.new {X : Addr → HO → Prop} {H H' : Hp} {p : Addr} {o : HO} (e : Fr X H H') (h : H' p = none) : Fr X H (upd H' p o) := e.trans (.of (same_new h))
/-- an object that was not there, or that may change, changes -/
theorem Fr.mut {X : Addr → HO → Prop} {H H' : Hp} {p : Addr} {o : HO} (e : Fr X H H') (h : ∀ u, H p = some u → ¬ X p u) : Fr X H (upd H' p o) := fun b u z x => by
  have n : b ≠ p := fun q => h u (q ▸ z) (q ▸ x)
  rw [upd_ne n]
  exact e b u z x
theorem Fr.mutN {X : Addr → HO → Prop} {H H' : Hp} {p : Addr} {o : HO} (e : Fr X H H') (h : H p = none) : Fr X H (upd H' p o) := e.mut fun u z => by rw [h] at z; cases z
abbrev XAll : Addr → HO → Prop := fun _ _ => True
theorem Fr.toSame {H H' : Hp} (e : Fr XAll H H') : Same H H' := fun b o h => e b o h trivial
abbrev XB (p : Addr) : Addr → HO → Prop := fun b _ => b ≠ p
theorem Fr.ofB {p : Addr} {H H' : Hp} (e : SameB p H H') : Fr (XB p) H H' := e
/-- tuples stay whatever moves -/
def TupK (H H' : Hp) : Prop := ∀ b xs, H b = some (.tup xs) → H' b = some (.tup xs)
theorem TupK.refl (H : Hp) : TupK H H := fun _ _ h => h
theorem TupK.trans {H H1 H2 : Hp} (a : TupK H H1) (b : TupK H1 H2) : TupK H H2 := fun c o h => b c o (a c o h)
theorem TupK.of {H H' : Hp} (e : Same H H') : TupK H H' := fun b xs h => e b _ h
theorem Fr.tup {X : Addr → HO → Prop} {H H' : Hp} (e : Fr X H H') (hX : ∀ b xs, H b = some (.tup xs) → X b (.tup xs)) : TupK H H' := fun b xs h => e b _ h (hX b xs h)
theorem SameB.tup {p : Addr} {H H' : Hp} {o : HO} (e : SameB p H H') (h : H p = some o) (n : ∀ xs, o ≠ .tup xs) : TupK H H' := fun b xs z => e b _ z fun q => by
  subst q
  rw [h] at z
  exact n xs (Option.some.inj z)
theorem TupK.new {H H' : Hp} {p : Addr} {o : HO} (e : TupK H H') (h : H' p = none) : TupK H (upd H' p o) := e.trans (.of (same_new h))
theorem TupK.mut {H H' : Hp} {p : Addr} {o u : HO} (e : TupK H H') (h : H' p = some u) (n : ∀ xs, u ≠ .tup xs) : TupK H (upd H' p o) := fun b xs z => by
  have z' := e b xs z
  rw [upd_ne (fun q => by
    subst q
    rw [h] at z'
    exact n xs (Option.some.inj z'))]
  exact z'
/-- two lists, item by item -/
def All2 {α β : Type} (R : α → β → Prop) : List α → List β → Prop
  | [], [] => True
  | a :: as, b :: bs => R a b ∧ All2 R as bs
  | _, _ => False
theorem All2.length {α β : Type} {R : α → β → Prop} : ∀ {as : List α} {bs : List β}, All2 R as bs → as.length = bs.length
  | [], [], _ => rfl
  | a :: as, b :: bs, h => by rw [List.length_cons, List.length_cons, All2.length h.2]
  | [], _ :: _, h => h.elim
  | _ :: _, [], h => h.elim
theorem All2.imp {α β : Type} {R R' : α → β → Prop} (f : ∀ a b, R a b → R' a b) : ∀ {as : List α} {bs : List β}, All2 R as bs → All2 R' as bs
  | [], [], _ => trivial
  | a :: as, b :: bs, h => ⟨f a b h.1, All2.imp f h.2⟩
  | [], _ :: _, h => h.elim
  | _ :: _, [], h => h.elim
theorem All2.snoc {α β : Type} {R : α → β → Prop} {a : α} {b : β} (x : R a b) : ∀ {as : List α} {bs : List β}, All2 R as bs → All2 R (as ++ [a]) (bs ++ [b])
  | [], [], _ => ⟨x, trivial⟩
  | c :: as, d :: bs, h => ⟨h.1, All2.snoc x h.2⟩
  | [], _ :: _, h => h.elim
  | _ :: _, [], h => h.elim
theorem All2.get {α β : Type} {R : α → β → Prop} : ∀ {as : List α} {bs : List β} {i : Nat} {a : α}, All2 R as bs → as[i]? = some a → ∃ b, bs[i]? = some b ∧ R a b
  | [], [], i, a, _, e => by simp at e
  | c :: as, d :: bs, 0, a, h, e => by
    have : c = a := by simpa using e
    subst this
    exact ⟨d, by simp, h.1⟩
  | c :: as, d :: bs, i + 1, a, h, e => by
    obtain ⟨b, e1, r⟩ := All2.get (i := i) h.2 (by simpa using e)
    exact ⟨b, by simpa using e1, r⟩
  | [], _ :: _, _, _, h, _ => h.elim
  | _ :: _, [], _, _, h, _ => h.elim
theorem All2.getR {α β : Type} {R : α → β → Prop} {as : List α} {bs : List β} {i : Nat} {b : β} (h : All2 R as bs) (e : bs[i]? = some b) : ∃ a, as[i]? = some a ∧ R a b := by
  have hl := h.length
  have hi := (List.getElem?_eq_some_iff.mp e).1
  have : i < as.length := by omega
  obtain ⟨b', e1, r⟩ := h.get (List.getElem?_eq_getElem this)
  rw [e] at e1
  cases e1
  exact ⟨_, List.getElem?_eq_getElem this, r⟩
theorem take_succ' {α : Type} {l : List α} {i : Nat} {x : α} (h : l[i]? = some x) : l.take (i + 1) = l.take i ++ [x] := by
  rw [List.take_add_one, h]
  rfl
theorem yes_in {te : TE} {σ : L2.St} {H : Hp} {B : Hp → Prop} {Q : VK} (h : te σ H Q) : tYes σ H fun b H3 => if b = true then te σ H3 Q else B H3 := by
  show (if true = true then te σ H Q else B H)
  rw [if_pos rfl]
  exact h
section
variable {K : PySem.W.Frag} {a : Addr} {xs out : List V} {te : TE} {i n : Nat} {σ : L2.St} {H1 : Hp} {D : Addr} {Qd : Hp → Prop}
theorem wipe1 {σ : L2.St} {i : Nat} {x : V} : wipe ((wipe σ [i]).set i (some x)) [i] = wipe σ [i] := by
  show ((((wipe σ []).set i none).set i (some x))).set i none = (wipe σ []).set i none
  rw [List.set_set, List.set_set]
theorem tseq {K : PySem.W.Frag} {H H' : Hp} {a : Addr} {xs : List V} (e : Same H H') (h : SqT K H a xs) : SqT K H' a xs := by
  rcases h with (h | ⟨o, h⟩) | h
  · exact .inl (.inl (e _ _ h))
  · exact .inl (.inr ⟨o, e _ _ h⟩)
  · exact .inr h
/-- [e for x in xs], a list, e known for each item, nothing is changed -/
theorem lcL (hD : H1 D = none) (hxs : SqL K H1 a xs) (hlen : out.length = xs.length) (hsz : xs.length ≤ sizeLine)
    (hs : ∀ k x y H Q, xs[k]? = some x → out[k]? = some y → Same H1 H → H D = some (.lst (out.take k)) → (∀ H', Same H H' → Q y H') → te ((wipe σ [i]).set i (some x)) H Q) (hd : ∀ H, Same H1 H → H D = some (.lst out) → Qd H) :
    ∃ W : Nat → Nat → Hp → Prop, (∃ m, W 0 m (upd H1 D (.lst []))) ∧ ∀ j m H, W j m H →
      ((Itl K a).stop j H ∧ Qd H) ∨ ((Itl K a).go j H ∧ ∃ Nx : Hp → Prop, (∀ H', Nx H' → ∃ m', m' < m ∧ W (j + 1) m' H') ∧ ∀ x H', (Itl K a).yld j H x H' → gName i x (wipe σ [i]) H' fun σ2 H2 => wipe σ2 [i] = wipe σ [i] ∧ tYes σ2 H2 fun b H3 =>
        if b = true then te σ2 H3 fun y H4 => ∃ acc, H4 D = some (.lst acc) ∧ acc.length < sizeLine ∧ Nx (upd H4 D (.lst (acc ++ [y]))) else Nx H3) := by
  refine lc_list (xs := xs) (fun k H => Same H1 H ∧ H D = some (.lst (out.take k))) ⟨same_new hD, by rw [upd_same] <;> rfl⟩ (fun k H _ ⟨e, _⟩ => e.seq hxs) (fun k x H hx ⟨e, hl⟩ => ⟨wipe1, ?_⟩) (fun H ⟨e, hl⟩ => hd H e (by rw [hl, ← hlen, List.take_length]))
  have hk := (List.getElem?_eq_some_iff.mp hx).1
  have ho : out[k]? = some out[k] := List.getElem?_eq_getElem (by omega)
  refine yes_in (hs k x out[k] H _ hx ho e hl fun H' e' => ⟨_, e' _ _ hl, by rw [List.length_take]; omega, ?_, ?_⟩)
  · exact fun b u z => by
      rw [upd_ne (ne_of_none z hD)]
      exact e' _ _ (e _ _ z)
  · rw [upd_same, take_succ' ho]
/-- .. a tuple -/
theorem lcT (hD : H1 D = none) (hxs : SqT K H1 a xs) (hlen : out.length = xs.length) (hsz : xs.length ≤ sizeLine)
    (hs : ∀ k x y H Q, xs[k]? = some x → out[k]? = some y → Same H1 H → H D = some (.lst (out.take k)) → (∀ H', Same H H' → Q y H') → te ((wipe σ [i]).set i (some x)) H Q) (hd : ∀ H, Same H1 H → H D = some (.lst out) → Qd H) :
    ∃ W : Nat → Nat → Hp → Prop, (∃ m, W 0 m (upd H1 D (.lst []))) ∧ ∀ j m H, W j m H →
      ((Itt K a).stop j H ∧ Qd H) ∨ ((Itt K a).go j H ∧ ∃ Nx : Hp → Prop, (∀ H', Nx H' → ∃ m', m' < m ∧ W (j + 1) m' H') ∧ ∀ x H', (Itt K a).yld j H x H' → gName i x (wipe σ [i]) H' fun σ2 H2 => wipe σ2 [i] = wipe σ [i] ∧ tYes σ2 H2 fun b H3 =>
        if b = true then te σ2 H3 fun y H4 => ∃ acc, H4 D = some (.lst acc) ∧ acc.length < sizeLine ∧ Nx (upd H4 D (.lst (acc ++ [y]))) else Nx H3) := by
  refine lc_tup (xs := xs) (fun k H => Same H1 H ∧ H D = some (.lst (out.take k))) ⟨same_new hD, by rw [upd_same] <;> rfl⟩ (fun k H _ ⟨e, _⟩ => tseq e hxs) (fun k x H hx ⟨e, hl⟩ => ⟨wipe1, ?_⟩) (fun H ⟨e, hl⟩ => hd H e (by rw [hl, ← hlen, List.take_length]))
  have hk := (List.getElem?_eq_some_iff.mp hx).1
  have ho : out[k]? = some out[k] := List.getElem?_eq_getElem (by omega)
  refine yes_in (hs k x out[k] H _ hx ho e hl fun H' e' => ⟨_, e' _ _ hl, by rw [List.length_take]; omega, ?_, ?_⟩)
  · exact fun b u z => by
      rw [upd_ne (ne_of_none z hD)]
      exact e' _ _ (e _ _ z)
  · rw [upd_same, take_succ' ho]
/-- .. a range -/
theorem lcR {lo : Int} (hD : H1 D = none) (hlen : out.length = n) (hsz : n ≤ sizeLine)
    (hs : ∀ k y H Q, k < n → out[k]? = some y → Same H1 H → H D = some (.lst (out.take k)) → (∀ H', Same H H' → Q y H') → te ((wipe σ [i]).set i (some (.int (lo + k)))) H Q) (hd : ∀ H, Same H1 H → H D = some (.lst out) → Qd H) :
    ∃ W : Nat → Nat → Hp → Prop, (∃ m, W 0 m (upd H1 D (.lst []))) ∧ ∀ j m H, W j m H →
      ((Itr lo n).stop j H ∧ Qd H) ∨ ((Itr lo n).go j H ∧ ∃ Nx : Hp → Prop, (∀ H', Nx H' → ∃ m', m' < m ∧ W (j + 1) m' H') ∧ ∀ x H', (Itr lo n).yld j H x H' → gName i x (wipe σ [i]) H' fun σ2 H2 => wipe σ2 [i] = wipe σ [i] ∧ tYes σ2 H2 fun b H3 =>
        if b = true then te σ2 H3 fun y H4 => ∃ acc, H4 D = some (.lst acc) ∧ acc.length < sizeLine ∧ Nx (upd H4 D (.lst (acc ++ [y]))) else Nx H3) := by
  refine lc_range (fun k H => Same H1 H ∧ H D = some (.lst (out.take k))) ⟨same_new hD, by rw [upd_same] <;> rfl⟩ (fun k H hk ⟨e, hl⟩ => ⟨wipe1, ?_⟩) (fun H ⟨e, hl⟩ => hd H e (by rw [hl, ← hlen, List.take_length]))
  have ho : out[k]? = some out[k] := List.getElem?_eq_getElem (by omega)
  refine yes_in (hs k out[k] H _ hk ho e hl fun H' e' => ⟨_, e' _ _ hl, by rw [List.length_take]; omega, ?_, ?_⟩)
  · exact fun b u z => by
      rw [upd_ne (ne_of_none z hD)]
      exact e' _ _ (e _ _ z)
  · rw [upd_same, take_succ' ho]
/-- .. a range, the items told by R alone, F what each turn keeps -/
theorem lcRR {lo : Int} {X : Addr → HO → Prop} {I : Hp → Prop} {α : Type} {R : V → α → Hp → Prop} (hD : H1 D = none) (hX : ∀ l, X D (.lst l)) (h0 : I (upd H1 D (.lst []))) (hI : ∀ H l, I H → H D = some (.lst l) → ∀ l', I (upd H D (.lst l'))) (hsz : n ≤ sizeLine)
    (hR : ∀ v c H H', R v c H → Fr X H H' → I H → R v c H') (hR2 : ∀ v c H l l', R v c H → H D = some (.lst l) → R v c (upd H D (.lst l')))
    (hs : ∀ k H Q, k < n → Fr X H1 H → I H → (∀ v c H', Fr X H H' → I H' → R v c H' → Q v H') → te ((wipe σ [i]).set i (some (.int (lo + k)))) H Q)
    (hd : ∀ H vs cs, Fr X H1 H → I H → H D = some (.lst vs) → vs.length = n → All2 (fun v c => R v c H) vs cs → Qd H) :
    ∃ W : Nat → Nat → Hp → Prop, (∃ m, W 0 m (upd H1 D (.lst []))) ∧ ∀ j m H, W j m H →
      ((Itr lo n).stop j H ∧ Qd H) ∨ ((Itr lo n).go j H ∧ ∃ Nx : Hp → Prop, (∀ H', Nx H' → ∃ m', m' < m ∧ W (j + 1) m' H') ∧ ∀ x H', (Itr lo n).yld j H x H' → gName i x (wipe σ [i]) H' fun σ2 H2 => wipe σ2 [i] = wipe σ [i] ∧ tYes σ2 H2 fun b H3 =>
        if b = true then te σ2 H3 fun y H4 => ∃ acc, H4 D = some (.lst acc) ∧ acc.length < sizeLine ∧ Nx (upd H4 D (.lst (acc ++ [y]))) else Nx H3) := by
  refine lc_range (fun k H => Fr X H1 H ∧ I H ∧ ∃ vs cs, H D = some (.lst vs) ∧ vs.length = k ∧ All2 (fun v c => R v c H) vs cs) ⟨.of (same_new hD), h0, [], [], upd_same, rfl, trivial⟩ (fun k H hk ⟨e, h1, vs, cs, hl, hn, hA⟩ => ⟨wipe1, ?_⟩) (fun H ⟨e, h1, vs, cs, hl, hn, hA⟩ => hd H vs cs e h1 hl hn hA)
  refine yes_in (hs k H _ hk e h1 fun v' c H' e' h1' r => ⟨vs, e' _ _ hl (hX _), by omega, ?_, hI H' _ h1' (e' _ _ hl (hX _)) _, vs ++ [v'], cs ++ [c], upd_same, by rw [List.length_append, hn] <;> rfl, ?_⟩)
  · exact (e.trans e').mutN hD
  · have hl' := e' _ _ hl (hX vs)
    exact All2.snoc (R := fun v c => R v c (upd H' D (.lst (vs ++ [v'])))) (hR2 _ _ _ _ _ r hl') (hA.imp fun v c z => hR2 _ _ _ _ _ (hR _ _ _ _ z e' h1) hl')
/-- [e for c in s] -/
theorem lcS {x : Str} (hD : H1 D = none) (hlen : out.length = x.cps.size) (hsz : x.cps.size ≤ sizeLine)
    (hs : ∀ k c y H Q, x.cps[k]? = some c → out[k]? = some y → Same H1 H → H D = some (.lst (out.take k)) → (∀ H', Same H H' → Q y H') → te ((wipe σ [i]).set i (some (.str ⟨#[c]⟩))) H Q) (hd : ∀ H, Same H1 H → H D = some (.lst out) → Qd H) :
    ∃ W : Nat → Nat → Hp → Prop, (∃ m, W 0 m (upd H1 D (.lst []))) ∧ ∀ j m H, W j m H →
      ((Its x).stop j H ∧ Qd H) ∨ ((Its x).go j H ∧ ∃ Nx : Hp → Prop, (∀ H', Nx H' → ∃ m', m' < m ∧ W (j + 1) m' H') ∧ ∀ v H', (Its x).yld j H v H' → gName i v (wipe σ [i]) H' fun σ2 H2 => wipe σ2 [i] = wipe σ [i] ∧ tYes σ2 H2 fun b H3 =>
        if b = true then te σ2 H3 fun y H4 => ∃ acc, H4 D = some (.lst acc) ∧ acc.length < sizeLine ∧ Nx (upd H4 D (.lst (acc ++ [y]))) else Nx H3) := by
  refine ⟨fun k m H => m = x.cps.size - k ∧ k ≤ x.cps.size ∧ Same H1 H ∧ H D = some (.lst (out.take k)), ⟨_, rfl, Nat.zero_le _, same_new hD, by rw [upd_same] <;> rfl⟩, ?_⟩
  rintro k m H ⟨rfl, hk, e, hl⟩
  by_cases hlt : k < x.cps.size
  · refine .inr ⟨hlt, fun H' => Same H1 H' ∧ H' D = some (.lst (out.take (k + 1))), fun H' h' => ⟨x.cps.size - (k + 1), by omega, rfl, hlt, h'⟩, fun v H' y => ?_⟩
    obtain ⟨e0, c, hc, ev⟩ := y
    subst e0 ev
    refine ⟨wipe1, ?_⟩
    have ho : out[k]? = some out[k] := List.getElem?_eq_getElem (by omega)
    refine yes_in (hs k c out[k] _ _ hc ho e hl fun H'' e' => ⟨_, e' _ _ hl, by rw [List.length_take]; omega, ?_, ?_⟩)
    · exact fun b u z => by
        rw [upd_ne (ne_of_none z hD)]
        exact e' _ _ (e _ _ z)
    · rw [upd_same, take_succ' ho]
  · have ek : k = x.cps.size := by omega
    subst ek
    exact .inl ⟨Nat.le_refl _, hd H e (by rw [hl, ← hlen, List.take_length])⟩
end
/-- while: W with its measure, Z where it ends -/
theorem while_z {c : TT} {tb : TS} {D : Ends} {σ : L2.St} {H : Hp} (W : Nat → L2.St → Hp → Prop) (Z : L2.St → Hp → Prop) (w0 : ∃ m, W m σ H)
    (turn : ∀ m σ H, W m σ H → ∀ N F : L2.St → Hp → Prop, (∀ m' σ' H', m' < m → W m' σ' H' → N σ' H') → (∀ σ' H', Z σ' H' → F σ' H') → c σ H fun b H1 => if b = true then tb { D with nx := N, ct := N, bk := F } σ H1 else F σ H1)
    (mono : ∀ σ H (Q Q' : Bool → Hp → Prop), (∀ b H1, Q b H1 → Q' b H1) → c σ H Q → c σ H Q') (fin : ∀ σ H, Z σ H → D.nx σ H) : tWhile c tb D σ H := by
  refine ⟨W, w0, fun m σ H w => ?_⟩
  refine mono σ H _ _ (fun b H1 q => ?_) (turn m σ H w (fun σ' H' => ∃ m', m' < m ∧ W m' σ' H') D.nx (fun m' σ' H' h1 h2 => ⟨m', h1, h2⟩) fin)
  cases b with
  | true => exact ⟨_, fun σ' H' h => h, q⟩
  | false => exact q
/-- .. where the test is known first -/
theorem while_zz {c : TT} {tb : TS} {D : Ends} {σ : L2.St} {H : Hp} (W : Nat → L2.St → Hp → Prop) (Z : L2.St → Hp → Prop) (w0 : ∃ m, W m σ H)
    (turn : ∀ m σ H, W m σ H → ∀ (R : Bool → Hp → Prop), (∀ H1, (∀ N F : L2.St → Hp → Prop, (∀ m' σ' H', m' < m → W m' σ' H' → N σ' H') → (∀ σ' H', Z σ' H' → F σ' H') → tb { D with nx := N, ct := N, bk := F } σ H1) → R true H1) → (∀ H1, Z σ H1 → R false H1) → c σ H R)
    (fin : ∀ σ H, Z σ H → D.nx σ H) : tWhile c tb D σ H := by
  refine ⟨W, w0, fun m σ H w => ?_⟩
  refine turn m σ H w _ (fun H1 h => ?_) fun H1 z => ?_
  · show (if true = true then _ else _)
    rw [if_pos rfl]
    exact ⟨fun σ' H' => ∃ m', m' < m ∧ W m' σ' H', fun _ _ h => h, h _ _ (fun m' σ' H' h1 h2 => ⟨m', h1, h2⟩) fin⟩
  · show (if false = true then _ else _)
    rw [if_neg (by simp)]
    exact fin _ _ z
/-! ### ways that meet again -/
theorem te_cont {te : TE} {σ : L2.St} {H : Hp} {Q : VK} (R : VK) (h : ∀ Q' : VK, (∀ v H', R v H' → Q' v H') → te σ H Q') (hQ : ∀ v H', R v H' → Q v H') : te σ H Q := h Q hQ
theorem asg_cont {te : TE} {g : TG} {D : Ends} {σ : L2.St} {H : Hp} (R : VK) (h : ∀ Q' : VK, (∀ v H', R v H' → Q' v H') → te σ H Q') (hQ : ∀ v H', R v H' → g v σ H' D.nx) : tAsg te g D σ H := h _ hQ
theorem seq_cont {a b : TS} {D : Ends} {σ : L2.St} {H : Hp} (R : L2.St → Hp → Prop) (h : ∀ N : L2.St → Hp → Prop, (∀ σ' H', R σ' H' → N σ' H') → a { D with nx := N } σ H) (hb : ∀ σ' H', R σ' H' → b D σ' H') : tSeq a b D σ H := h _ hb
theorem cat_q (s : String) (b : List Nat) : Str.ofString s ++ S b = S (s.toList.map Char.toNat ++ b) := by rw [ofq, S_cat]
theorem q_cat (a : List Nat) (s : String) : S a ++ Str.ofString s = S (a ++ s.toList.map Char.toNat) := by rw [ofq, S_cat]
theorem joinL_len (b : List Nat) : ∀ ys : List (List Nat), (ys.map (·.length)).sum + ys.length * b.length ≤ (TL.joinL b ys).length + b.length
  | [] => by simp
  | [x] => by simp [TL.joinL]
  | x :: y :: r => by
    have ih := joinL_len b (y :: r)
    have e : TL.joinL b (x :: y :: r) = x ++ (b ++ TL.joinL b (y :: r)) := rfl
    rw [e, List.length_append, List.length_append]
    simp only [List.map_cons, List.sum_cons, List.length_cons, Nat.succ_mul] at ih ⊢
    omega
end HL
end

section
set_option Elab.async false
set_option linter.all false
set_option maxRecDepth 100000
set_option maxHeartbeats 4000000
/-! Rules of our own: repr of data, xs[i] += e, a lambda handed to a method that may raise. -/
namespace XP
open PySem PySem.Spec PyProof.Rows L2
section
variable {X : Cx}
/-- repr of a list or a tuple that holds data -/
def rRepr (K : PySem.W.Frag) (units : Nat) : List V → Hp → VK → Prop := fun xs H Q => ∃ (a : Addr) (d : PyData), xs = [.ref a] ∧ Dp K H (.ref a) d ∧ SeqAt.shaped d = true ∧ d.showable = true ∧ units + (d.depth + 1) < cLine ∧ d.shown.length ≤ sizeLine ∧ Q (.str d.shown) H
theorem call_repr (hg : X.A.guards = some []) : CallR X (.builtin "repr") (rRepr X.K X.A.units) := by
  intro pins s σ H xs us Q I r h
  obtain ⟨a, d, rfl, hd, sh, sw, hu, hz, q⟩ := h
  obtain ⟨u, rfl, ru⟩ := vals1 r
  obtain rfl : u = Value.ref a := ru
  obtain ⟨as, rd⟩ := Dp.reads I d (.ref a) (.ref a) hd rfl
  have nd : d.hasDict = false := PyData.hasDict_of_canLay d (SeqAt.canLay_of_shaped sh)
  exact repr_of_reads' rd sw (PyData.noDict_hsm nd) hg hu (fun b o e => e) (fun h' u tk k => ⟨.str d.shown, H, I.kept k, ⟨_, rfl⟩, q⟩) hz
theorem get_list : PGet X (rIxL X.K) := by
  intro pins s σ H x y v u Q I rx ry h
  obtain ⟨p, xs, i, z, rfl, rfl, hq, he, q⟩ := h
  cases rx
  obtain ⟨t, rfl⟩ := ry
  obtain ⟨its, r, pl, hz⟩ := I.list hq
  obtain ⟨j, h1, h2, h3, h4, h5⟩ := atI_get he
  obtain ⟨w, ew, rw'⟩ := r.get h2
  have hl := r.length
  have hn := line63
  have fin : EP X pins σ Q w s := ⟨z, H, I, rw', q⟩
  by_cases h0 : 0 ≤ i
  · have hj : i.toNat = j := by
      rw [seqIndex_of h0 h5] at h1
      exact Option.some.inj h1
    exact wpAny_getItem_list pl.isList h0 (by omega) (by rw [hj]; simpa using ew) fin
  · have hj : (i + (its.toArray.size : Int)).toNat = j := by
      rw [seqIndex_neg (by omega) h4] at h1
      rw [List.size_toArray, ← hl]
      exact Option.some.inj h1
    exact wpAny_getItem_list_neg pl.isList (by omega) (by rw [List.size_toArray] <;> omega) (by omega) (by rw [hj]; simpa using ew) fin
/-- == and != of data, by their depth -/
def rEqE (K : PySem.W.Frag) (units : Nat) : R2 := fun x y H Q => ∃ d e, Dp K H x d ∧ Dp K H y e ∧ d.canLay0 = true ∧ e.canLay0 = true ∧ units + min d.depth e.depth < cLine ∧ Q (.bl (PyData.eqv d e)) H
def rNeE (K : PySem.W.Frag) (units : Nat) : R2 := fun x y H Q => ∃ d e, Dp K H x d ∧ Dp K H y e ∧ d.canLay0 = true ∧ e.canLay0 = true ∧ units + min d.depth e.depth < cLine ∧ Q (.bl (!PyData.eqv d e)) H
theorem op_eqE : OpR X (compareOp .Eq) (rEqE X.K X.A.units) := by
  intro pins s σ H x y v u Q I rx ry h
  obtain ⟨d, e, hd, he, sd, se, hu, q⟩ := h
  obtain ⟨as, r1⟩ := Dp.reads I d x v hd rx
  obtain ⟨bs, r2⟩ := Dp.reads I e y u he ry
  exact SeqAt.compareEq_reads r1 r2 sd se hu ⟨.bl _, H, I, rfl, q⟩
theorem op_neE : OpR X (compareOp .NotEq) (rNeE X.K X.A.units) := by
  intro pins s σ H x y v u Q I rx ry h
  obtain ⟨d, e, hd, he, sd, se, hu, q⟩ := h
  obtain ⟨as, r1⟩ := Dp.reads I d x v hd rx
  obtain ⟨bs, r2⟩ := Dp.reads I e y u he ry
  exact SeqAt.compareNe_reads r1 r2 sd se hu ⟨.bl _, H, I, rfl, q⟩
/-- x in t, t a tuple of data -/
def rInT (K : PySem.W.Frag) (units : Nat) : R2 := fun x y H Q => ∃ d ds, Dp K H x d ∧ Dp K H y (.tuple ds) ∧ d.canLay0 = true ∧ PyData.canLayAll0 ds = true ∧ units + 1 + min (PyData.depthAll ds) d.depth < cLine ∧ Q (.bl (ds.any fun z => PyData.eqv z d)) H
theorem op_inT : OpR X (compareOp .In) (rInT X.K X.A.units) := by
  intro pins s σ H x y v u Q I rx ry h
  obtain ⟨d, ds, hd, he, sd, se, hu, q⟩ := h
  obtain ⟨as, r1⟩ := Dp.reads I d x v hd rx
  obtain ⟨bs, r2⟩ := Dp.reads I (.tuple ds) y u he ry
  exact SeqAt.in_tuple_reads r2 r1 se sd hu ⟨.bl _, H, I, rfl, q⟩
/-- o[i] += e, o a list -/
theorem ps_augL {o i e : Expr} {to ti te : TE} {tpos pos : Pos} (ho : PE X o to) (hi : PE X i ti) (he : PE X e te) (ha : ∀ ov iv new, augStore i ov iv new = (do holding [new, ov, iv] (setItem ov iv new); release [new, ov, iv] []; pure .next) := by intros; rfl) :
    PS X (.AugAssign (.Subscript o i tpos) .Add e pos) (tAugS to ti te (rIxL X.K) (ipI fun i j => i + j) rSetL) := ps_augS ho hi get_list he ip_add set_list ha
end
end XP
namespace XP
open PySem PySem.Spec PyProof.Rows L2 LamX
/-- what a callee's context Z knows of the callable f in its slot i, which it calls a: tl is what the callable makes, by what is wanted of an exception -/
def ActS (Z : Cx) (a : Str) (i : Nat) (f c' : Addr) (q : Str) (tl : XK → Hp → VK → Prop) : Prop :=
  ∀ (W : WX) (pn : List (Addr × Obj)) (xe : Value → Shared → Prop) (E : XK) (p1 p2 : Pos), Takes (Z.tr pn xe) W → (∀ cls d σ' H', E cls d H' → W cls d σ' H') →
    PE (Z.tr pn xe) (.Call (.Name a p1) [] [] p2) (fun σZ HZ Q => σZ[i]? = some (some (.ref f)) ∧ HZ c' = some (CodeO c' q) ∧ tl E HZ Q)
/-- the callee's body, the callable its last argument -/
def GivesM (X : Cx) (CXg : CXT) (k : Nat) (Ng : List Str) (qg : Str) (sg : Scope) (g : Addr) (bg : List Stmt) (a : Str) (i : Nat) (q : Str) (TT : List V → XK → (XK → Hp → VK → Prop) → Hp → VK → Prop) : Prop :=
  ∀ (f c' : Addr) (cdg : Value) (s : Shared) (H : Hp) (vs : List V) (Q : VK) (Eg : XK) (tl : XK → Hp → VK → Prop), vs.length = i → Room k (X.A.deeper (envOfC qg sg s.heap.objs.size g cdg)) →
    ActS (cxOf CXg X.prog X.w X.K X.mg X.base Ng qg sg g cdg X.A X.stack s H Eg) a i f c' q tl → H c' = some (CodeO c' q) → TT vs Eg tl H Q →
    ∃ t, PSs (cxOf CXg X.prog X.w X.K X.mg X.base Ng qg sg g cdg X.A X.stack s H Eg) bg t ∧ t { nx := fun _ H' => Q .non H', rt := Q } (L2.start Ng (vs ++ [.ref f])) H
/-- o.m(e1, e2, lambda: body) -/
def tLamM (T : List (Addr × Str)) (C : Addr) (m : Str) (TT : List V → XK → (XK → Hp → VK → Prop) → Hp → VK → Prop) (E : XK) (ta t1 t2 : TE) (t : XK → TE) : TE := fun σ H Q => ta σ H fun x H1 => ∃ a dx fs, x = .ref a ∧ H1 a = some (.ins C dx fs) ∧ fs.lookup m = none ∧
  t1 σ H1 fun v1 H2 => t2 σ H2 fun v2 H3 => Tabs T H3 ∧ ∀ H4, ExtN H3 H4 → Tabs T H4 → TT [x, v1, v2] E (fun E' H' Q' => t E' σ H' Q') H4 Q
section
variable {X : Cx}
theorem pe_lammeth {CXg : CXT} {pl : Sem Bool} {T : List (Addr × Str)} {TT : List V → XK → (XK → Hp → VK → Prop) → Hp → VK → Prop} {x qg m a : Str} {C g c P : Addr} {k : Nat} {pg : Arguments} {bg : List Stmt} {sg : Scope} {fd : FuncData} {Ng ps : List Str}
    {params : Arguments} {body : Expr} {scope : Scope} {ta t1 t2 : TE} {t : XK → TE} {o e1 e2 : Expr} {lpos pos apos : Pos} {E : XK}
    (D : FunD X.K x qg pg bg sg [] [] g fd) (hb : L2.Binds X.K fd ps []) (hps : ps.length = 4) (cl : Cls X.K C) (hme : Meth X.K C m g) (Sg : FnScope Ng ps sg) (hNg : Ng[3]? = some a) (hva : Vis sg a)
    (hG : GivesM X CXg (k + 1) Ng qg sg g bg a 3 (X.env.qual ++ "<lambda>") TT)
    (TB : TabB X.base X.mg c P) (hcode : X.env.code = .ref c) (hmT : (P, X.env.qual ++ "<lambda>") ∈ T) (hu : ∀ p ∈ T, p.1 = P → p.2 = X.env.qual ++ "<lambda>") (hr : Room (k + 2) X.A) (hx : Passes CXg X E) (L : LamS X.env.scope scope) (hdef : defaultsOf params X.env = ([], []))
    (hbind : ∀ (q : Str) (cl : List (Str × Addr)) (pm cv ctv : Value), bindArgs (PySem.W.kla_fn "<lambda>" q params body scope cl pm cv ctv) ⟨[], []⟩ = pure [])
    (hbody : ∀ (A : Around) (outer : List Env) (s : Shared) (H : Hp) (E : XK) (f c' : Addr), Room k (A.deeper (lamEnv X scope s.heap.objs.size f c')) → PE (lamCx X A outer s H E scope f c') body (t E))
    (ho : PE X o ta) (h1 : PE X e1 t1) (h2 : PE X e2 t2)
    (hst : starEach [e1, e2, .Lambda params body scope lpos] X.env = [(false, eval e1 X.env), (false, eval e2 X.env), (false, eval (.Lambda params body scope lpos) X.env)] := by rfl)
    (hst0 : starEach [e1, e2, .Lambda params body scope lpos] X.env = (false, eval e1 X.env) :: starEach [e2, .Lambda params body scope lpos] X.env := by rfl)
    (hpl : (backTo pos (starEach [e2, .Lambda params body scope lpos] X.env)).any (·.1) = false := by rfl)
    (ht : eval (.Call (.Attribute o m apos) [e1, e2, .Lambda params body scope lpos] [] pos) X.env = (do
      let ov ← eval o X.env
      standAt apos.atName
      let (f, first) ← holding [ov] (getMethod ov m pl)
      callWith pos f first (backTo pos (starEach [e1, e2, .Lambda params body scope lpos] X.env)) (backToKw pos (keywordEach [] X.env))) := by rfl)
    (hd : (a == ("__debug__" : Str)) = false := by decide) (hcd : (a == ("__classdict__" : Str)) = false := by decide) :
    PE X (.Call (.Attribute o m apos) [e1, e2, .Lambda params body scope lpos] [] pos) (tLamM T C m TT E ta t1 t2 t) := by
  refine ⟨fun pins s σ H Q I h => ?_⟩
  refine PySem.W.methodCall_KW (pl := pl) (thn (ho.run pins s σ H _ I h) fun u s1 ⟨y, H1, I1, ry, b, dx, fs, ex, ea, l, q⟩ => ?_) ht
  subst ex
  obtain rfl : u = Value.ref b := ry
  refine getmeth_ok I1 ea cl hme l ?_
  refine PySem.W.callWith_K (first := [.ref b]) (h₀ := X.base) I.ok.mod.kin hme.kp ?_ hst0 hpl
  rw [hst]
  show wpAny _ _ (spliced [(false, eval e1 X.env), (false, eval e2 X.env), (false, eval (.Lambda params body scope lpos) X.env)]) _ _ s1
  refine Calls.spliced_cons (thn (h1.run pins s1 σ H1 _ I1 q) fun u1 s2 ⟨v1, H2, I2, r1, q2⟩ => ?_)
  refine Calls.spliced_cons (thn (h2.run pins s2 σ H2 _ I2 q2) fun u2 s3 ⟨v2, H3, I3, r2, q3⟩ => ?_)
  obtain ⟨hT, q3⟩ := q3
  refine Calls.spliced_cons (lam_make2 I3 TB hcode hmT hu hT hdef (L.has I3.ok) fun f c' pm' ctv H4 s4 I4 eN T4 hf hfn hfr hco => ?_)
  refine Calls.spliced_nil ⟨I4.kIn, ?_⟩
  obtain ⟨oc, od, dV, kV, doc, pm, an, cdv, ct, osl, rfl, lk, hcg, _, _⟩ := D.ex
  have rc : codeAny (model X.prog X.w) X.A (.call (.ref g) ⟨[.ref b, u1, u2, .ref f], []⟩) (CR CXg X.stack X.prog X.w H4 s4 Q E) s4 := by
    refine run_ofS (N := Ng) (ps := ps) (us := [.ref b, u1, u2, .ref f]) (vs := [.ref b, v1, v2, .ref f]) lk hcg Sg hr I4.env0 (hb s4 [.ref b, u1, u2, .ref f] I4.kIn (by rw [hps] <;> rfl)) (.cons rfl (.cons r1 (.cons r2 (.cons rfl .nil)))) hps.symm fun hr' => ?_
    exact hG f c' cdv s4 H4 [.ref b, v1, v2] Q E (fun E' H' Q' => t E' σ H' Q') rfl hr' (fun W pn xe E' p1 p2 tk hW => pe_act (i := 3) I4 L hf hfn hfr (hbind _ _ _ _ _) tk hW hr' (fun A outer s H hr2 => hbody A outer s H E' f c' hr2) hNg hva hd hcd) hco (q3 H4 eN T4)
  refine wpAny_call (codeAny_mono rc fun r s5 hq => ?_)
  cases r with
  | error e => exact hx pins σ H4 s4 e s5 I4 hq
  | ok fl =>
    cases fl with
    | ret u => exact I4.after hq
    | next => exact False.elim hq
    | brk => exact False.elim hq
    | cont => exact False.elim hq
end
end XP
end

section
set_option Elab.async false
set_option linter.all false
set_option maxRecDepth 100000
/-! Names for what the head tells. Printed by genfacts.py. -/
namespace K91
open PySem PySem.Spec PyProof.Rows L2 He
/-- what the walks lean on -/
structure Wl (K : PySem.W.Frag) (mg : Str → Option Value) : Prop where
  ex : ∃ (w : World) (h : Heap), K.In h ∧ h.Ns mainGlobals mg ∧ HY.SaysY fa fn tf xs ks "/claim/cut.py" w h K
section
variable {K : PySem.W.Frag} {mg : Str → Option Value}
theorem Wl.fact (W : Wl K mg) (i : Nat) {f : Fa} (h : fa[i]? = some f := by rfl) : f.ok K = true := let ⟨_, _, _, _, c⟩ := W.ex; c.d.fact i h
theorem Wl.g_AloneError (W : Wl K mg) : mg "AloneError" = some (.ref (ga K "AloneError")) := let ⟨_, _, X, G, _⟩ := W.ex; glo_ok X G (W.fact 0)
theorem Wl.g_Wrong (W : Wl K mg) : mg "Wrong" = some (.ref (ga K "Wrong")) := let ⟨_, _, X, G, _⟩ := W.ex; glo_ok X G (W.fact 1)
theorem Wl.g_NoText (W : Wl K mg) : mg "NoText" = some (.ref (ga K "NoText")) := let ⟨_, _, X, G, _⟩ := W.ex; glo_ok X G (W.fact 2)
theorem Wl.g_is_integer (W : Wl K mg) : mg "is_integer" = some (.ref (ga K "is_integer")) := let ⟨_, _, X, G, _⟩ := W.ex; glo_ok X G (W.fact 3)
theorem Wl.g_is_name (W : Wl K mg) : mg "is_name" = some (.ref (ga K "is_name")) := let ⟨_, _, X, G, _⟩ := W.ex; glo_ok X G (W.fact 4)
theorem Wl.g_is_condition (W : Wl K mg) : mg "is_condition" = some (.ref (ga K "is_condition")) := let ⟨_, _, X, G, _⟩ := W.ex; glo_ok X G (W.fact 5)
theorem Wl.g_show_condition (W : Wl K mg) : mg "show_condition" = some (.ref (ga K "show_condition")) := let ⟨_, _, X, G, _⟩ := W.ex; glo_ok X G (W.fact 6)
theorem Wl.g_show_part (W : Wl K mg) : mg "show_part" = some (.ref (ga K "show_part")) := let ⟨_, _, X, G, _⟩ := W.ex; glo_ok X G (W.fact 7)
theorem Wl.g_is_part (W : Wl K mg) : mg "is_part" = some (.ref (ga K "is_part")) := let ⟨_, _, X, G, _⟩ := W.ex; glo_ok X G (W.fact 8)
theorem Wl.g_need_text (W : Wl K mg) : mg "need_text" = some (.ref (ga K "need_text")) := let ⟨_, _, X, G, _⟩ := W.ex; glo_ok X G (W.fact 9)
theorem Wl.g_need (W : Wl K mg) : mg "need" = some (.ref (ga K "need")) := let ⟨_, _, X, G, _⟩ := W.ex; glo_ok X G (W.fact 10)
theorem Wl.g_number_of (W : Wl K mg) : mg "number_of" = some (.ref (ga K "number_of")) := let ⟨_, _, X, G, _⟩ := W.ex; glo_ok X G (W.fact 11)
theorem Wl.g_Reader (W : Wl K mg) : mg "Reader" = some (.ref (ga K "Reader")) := let ⟨_, _, X, G, _⟩ := W.ex; glo_ok X G (W.fact 12)
theorem Wl.g_read_condition (W : Wl K mg) : mg "read_condition" = some (.ref (ga K "read_condition")) := let ⟨_, _, X, G, _⟩ := W.ex; glo_ok X G (W.fact 13)
theorem Wl.g_read_part (W : Wl K mg) : mg "read_part" = some (.ref (ga K "read_part")) := let ⟨_, _, X, G, _⟩ := W.ex; glo_ok X G (W.fact 14)
theorem Wl.g__law_bag (W : Wl K mg) : mg "_law_bag" = some (.ref (ga K "_law_bag")) := let ⟨_, _, X, G, _⟩ := W.ex; glo_ok X G (W.fact 15)
theorem Wl.g__law_take (W : Wl K mg) : mg "_law_take" = some (.ref (ga K "_law_take")) := let ⟨_, _, X, G, _⟩ := W.ex; glo_ok X G (W.fact 16)
theorem Wl.g__law_alike (W : Wl K mg) : mg "_law_alike" = some (.ref (ga K "_law_alike")) := let ⟨_, _, X, G, _⟩ := W.ex; glo_ok X G (W.fact 17)
theorem Wl.g__law_one (W : Wl K mg) : mg "_law_one" = some (.ref (ga K "_law_one")) := let ⟨_, _, X, G, _⟩ := W.ex; glo_ok X G (W.fact 18)
theorem Wl.g__law_names (W : Wl K mg) : mg "_law_names" = some (.ref (ga K "_law_names")) := let ⟨_, _, X, G, _⟩ := W.ex; glo_ok X G (W.fact 19)
theorem Wl.g__law_condition (W : Wl K mg) : mg "_law_condition" = some (.ref (ga K "_law_condition")) := let ⟨_, _, X, G, _⟩ := W.ex; glo_ok X G (W.fact 20)
theorem Wl.g__law_pieces (W : Wl K mg) : mg "_law_pieces" = some (.ref (ga K "_law_pieces")) := let ⟨_, _, X, G, _⟩ := W.ex; glo_ok X G (W.fact 21)
theorem Wl.g__law_leaf (W : Wl K mg) : mg "_law_leaf" = some (.ref (ga K "_law_leaf")) := let ⟨_, _, X, G, _⟩ := W.ex; glo_ok X G (W.fact 22)
theorem Wl.g__law_part (W : Wl K mg) : mg "_law_part" = some (.ref (ga K "_law_part")) := let ⟨_, _, X, G, _⟩ := W.ex; glo_ok X G (W.fact 23)
theorem Wl.g__law_condition_text (W : Wl K mg) : mg "_law_condition_text" = some (.ref (ga K "_law_condition_text")) := let ⟨_, _, X, G, _⟩ := W.ex; glo_ok X G (W.fact 24)
theorem Wl.g__law_part_text (W : Wl K mg) : mg "_law_part_text" = some (.ref (ga K "_law_part_text")) := let ⟨_, _, X, G, _⟩ := W.ex; glo_ok X G (W.fact 25)
theorem Wl.g__law_name_at (W : Wl K mg) : mg "_law_name_at" = some (.ref (ga K "_law_name_at")) := let ⟨_, _, X, G, _⟩ := W.ex; glo_ok X G (W.fact 26)
theorem Wl.g__law_number_at (W : Wl K mg) : mg "_law_number_at" = some (.ref (ga K "_law_number_at")) := let ⟨_, _, X, G, _⟩ := W.ex; glo_ok X G (W.fact 27)
theorem Wl.g__law_conditions_at (W : Wl K mg) : mg "_law_conditions_at" = some (.ref (ga K "_law_conditions_at")) := let ⟨_, _, X, G, _⟩ := W.ex; glo_ok X G (W.fact 28)
theorem Wl.g__law_condition_at (W : Wl K mg) : mg "_law_condition_at" = some (.ref (ga K "_law_condition_at")) := let ⟨_, _, X, G, _⟩ := W.ex; glo_ok X G (W.fact 29)
theorem Wl.g__law_row_at (W : Wl K mg) : mg "_law_row_at" = some (.ref (ga K "_law_row_at")) := let ⟨_, _, X, G, _⟩ := W.ex; glo_ok X G (W.fact 30)
theorem Wl.g__law_after (W : Wl K mg) : mg "_law_after" = some (.ref (ga K "_law_after")) := let ⟨_, _, X, G, _⟩ := W.ex; glo_ok X G (W.fact 31)
theorem Wl.g__law_if_at (W : Wl K mg) : mg "_law_if_at" = some (.ref (ga K "_law_if_at")) := let ⟨_, _, X, G, _⟩ := W.ex; glo_ok X G (W.fact 32)
theorem Wl.g__law_part_at (W : Wl K mg) : mg "_law_part_at" = some (.ref (ga K "_law_part_at")) := let ⟨_, _, X, G, _⟩ := W.ex; glo_ok X G (W.fact 33)
theorem Wl.g__law_whole (W : Wl K mg) : mg "_law_whole" = some (.ref (ga K "_law_whole")) := let ⟨_, _, X, G, _⟩ := W.ex; glo_ok X G (W.fact 34)
theorem Wl.g__law_spoilt (W : Wl K mg) : mg "_law_spoilt" = some (.ref (ga K "_law_spoilt")) := let ⟨_, _, X, G, _⟩ := W.ex; glo_ok X G (W.fact 35)
theorem Wl.g__law_read (W : Wl K mg) : mg "_law_read" = some (.ref (ga K "_law_read")) := let ⟨_, _, X, G, _⟩ := W.ex; glo_ok X G (W.fact 36)
theorem Wl.g__law_text (W : Wl K mg) : mg "_law_text" = some (.ref (ga K "_law_text")) := let ⟨_, _, X, G, _⟩ := W.ex; glo_ok X G (W.fact 37)
theorem Wl.g_law (W : Wl K mg) : mg "law" = some (.ref (ga K "law")) := let ⟨_, _, X, G, _⟩ := W.ex; glo_ok X G (W.fact 38)
theorem Wl.f_ValueError (W : Wl K mg) : mg "ValueError" = none := let ⟨_, _, X, G, _⟩ := W.ex; free_ok X G (W.fact 39)
theorem Wl.f_abs (W : Wl K mg) : mg "abs" = none := let ⟨_, _, X, G, _⟩ := W.ex; free_ok X G (W.fact 40)
theorem Wl.f_all (W : Wl K mg) : mg "all" = none := let ⟨_, _, X, G, _⟩ := W.ex; free_ok X G (W.fact 41)
theorem Wl.f_bool (W : Wl K mg) : mg "bool" = none := let ⟨_, _, X, G, _⟩ := W.ex; free_ok X G (W.fact 42)
theorem Wl.f_int (W : Wl K mg) : mg "int" = none := let ⟨_, _, X, G, _⟩ := W.ex; free_ok X G (W.fact 43)
theorem Wl.f_isinstance (W : Wl K mg) : mg "isinstance" = none := let ⟨_, _, X, G, _⟩ := W.ex; free_ok X G (W.fact 44)
theorem Wl.f_len (W : Wl K mg) : mg "len" = none := let ⟨_, _, X, G, _⟩ := W.ex; free_ok X G (W.fact 45)
theorem Wl.f_list (W : Wl K mg) : mg "list" = none := let ⟨_, _, X, G, _⟩ := W.ex; free_ok X G (W.fact 46)
theorem Wl.f_min (W : Wl K mg) : mg "min" = none := let ⟨_, _, X, G, _⟩ := W.ex; free_ok X G (W.fact 47)
theorem Wl.f_range (W : Wl K mg) : mg "range" = none := let ⟨_, _, X, G, _⟩ := W.ex; free_ok X G (W.fact 48)
theorem Wl.f_repr (W : Wl K mg) : mg "repr" = none := let ⟨_, _, X, G, _⟩ := W.ex; free_ok X G (W.fact 49)
theorem Wl.f_sorted (W : Wl K mg) : mg "sorted" = none := let ⟨_, _, X, G, _⟩ := W.ex; free_ok X G (W.fact 50)
theorem Wl.f_str (W : Wl K mg) : mg "str" = none := let ⟨_, _, X, G, _⟩ := W.ex; free_ok X G (W.fact 51)
theorem Wl.f_super (W : Wl K mg) : mg "super" = none := let ⟨_, _, X, G, _⟩ := W.ex; free_ok X G (W.fact 52)
theorem Wl.f_tuple (W : Wl K mg) : mg "tuple" = none := let ⟨_, _, X, G, _⟩ := W.ex; free_ok X G (W.fact 53)
theorem Wl.c_LETTERS (W : Wl K mg) : ∃ t, mg "LETTERS" = some (.str "abcdefghijklmnopqrstuvwxyz" t) := let ⟨_, _, X, G, _⟩ := W.ex; str_ok X G (W.fact 54)
theorem Wl.c_LONGEST_NAME (W : Wl K mg) : ∃ t, mg "LONGEST_NAME" = some (.int 8 t) := let ⟨_, _, X, G, _⟩ := W.ex; int_ok X G (W.fact 55)
theorem Wl.c_DIGITS (W : Wl K mg) : ∃ t, mg "DIGITS" = some (.str "0123456789" t) := let ⟨_, _, X, G, _⟩ := W.ex; str_ok X G (W.fact 56)
theorem Wl.c_MOST_DIGITS (W : Wl K mg) : ∃ t, mg "MOST_DIGITS" = some (.int 9 t) := let ⟨_, _, X, G, _⟩ := W.ex; int_ok X G (W.fact 57)
theorem Wl.k_Reader (W : Wl K mg) : Cls K (ga K "Reader") := cls_ok (W.fact 58)
theorem Wl.mk_Reader (W : Wl K mg) : Mk K (ga K "Reader") (ma K (ga K "Reader") "__init__") := mkr_ok (W.fact 59)
theorem Wl.n_Reader_its_place (W : Wl K mg) : NoAttr K (ga K "Reader") "its_place" := noat_ok (W.fact 60)
theorem Wl.n_Reader_its_text (W : Wl K mg) : NoAttr K (ga K "Reader") "its_text" := noat_ok (W.fact 61)
theorem Wl.m_Reader_takes (W : Wl K mg) : Meth K (ga K "Reader") "takes" (ma K (ga K "Reader") "takes") := meth_ok (W.fact 62)
theorem Wl.m_Reader_needs (W : Wl K mg) : Meth K (ga K "Reader") "needs" (ma K (ga K "Reader") "needs") := meth_ok (W.fact 63)
theorem Wl.m_Reader_signs (W : Wl K mg) : Meth K (ga K "Reader") "signs" (ma K (ga K "Reader") "signs") := meth_ok (W.fact 64)
theorem Wl.m_Reader_word_here (W : Wl K mg) : Meth K (ga K "Reader") "word_here" (ma K (ga K "Reader") "word_here") := meth_ok (W.fact 65)
theorem Wl.m_Reader_several (W : Wl K mg) : Meth K (ga K "Reader") "several" (ma K (ga K "Reader") "several") := meth_ok (W.fact 66)
theorem Wl.m_Reader_condition_here (W : Wl K mg) : Meth K (ga K "Reader") "condition_here" (ma K (ga K "Reader") "condition_here") := meth_ok (W.fact 67)
theorem Wl.m_Reader_part_here (W : Wl K mg) : Meth K (ga K "Reader") "part_here" (ma K (ga K "Reader") "part_here") := meth_ok (W.fact 68)
theorem Wl.x_NoText_AloneError (W : Wl K mg) : PySem.W.exmOne K (.ref (ga K "NoText")) (.ref (ga K "AloneError")) = some true := exm_ok (W.fact 69)
theorem Wl.D_is_integer (W : Wl K mg) : ∃ fd, FunD K d_is_integer.name d_is_integer.qual d_is_integer.params d_is_integer.body d_is_integer.scope [] [] (fAd K d_is_integer.at_) fd := let ⟨_, _, _, _, c⟩ := W.ex; c.d.def_ 0 (d := d_is_integer)
theorem Wl.D_is_name (W : Wl K mg) : ∃ fd, FunD K d_is_name.name d_is_name.qual d_is_name.params d_is_name.body d_is_name.scope [] [] (fAd K d_is_name.at_) fd := let ⟨_, _, _, _, c⟩ := W.ex; c.d.def_ 1 (d := d_is_name)
theorem Wl.D_is_condition (W : Wl K mg) : ∃ fd, FunD K d_is_condition.name d_is_condition.qual d_is_condition.params d_is_condition.body d_is_condition.scope [] [] (fAd K d_is_condition.at_) fd := let ⟨_, _, _, _, c⟩ := W.ex; c.d.def_ 2 (d := d_is_condition)
theorem Wl.D_show_condition (W : Wl K mg) : ∃ fd, FunD K d_show_condition.name d_show_condition.qual d_show_condition.params d_show_condition.body d_show_condition.scope [] [] (fAd K d_show_condition.at_) fd := let ⟨_, _, _, _, c⟩ := W.ex; c.d.def_ 3 (d := d_show_condition)
theorem Wl.D_show_part (W : Wl K mg) : ∃ fd, FunD K d_show_part.name d_show_part.qual d_show_part.params d_show_part.body d_show_part.scope [] [] (fAd K d_show_part.at_) fd := let ⟨_, _, _, _, c⟩ := W.ex; c.d.def_ 4 (d := d_show_part)
theorem Wl.D_is_part (W : Wl K mg) : ∃ fd, FunD K d_is_part.name d_is_part.qual d_is_part.params d_is_part.body d_is_part.scope [] [] (fAd K d_is_part.at_) fd := let ⟨_, _, _, _, c⟩ := W.ex; c.d.def_ 5 (d := d_is_part)
theorem Wl.D_need_text (W : Wl K mg) : ∃ fd, FunD K d_need_text.name d_need_text.qual d_need_text.params d_need_text.body d_need_text.scope [] [] (fAd K d_need_text.at_) fd := let ⟨_, _, _, _, c⟩ := W.ex; c.d.def_ 6 (d := d_need_text)
theorem Wl.D_need (W : Wl K mg) : ∃ fd, FunD K d_need.name d_need.qual d_need.params d_need.body d_need.scope [] [] (fAd K d_need.at_) fd := let ⟨_, _, _, _, c⟩ := W.ex; c.d.def_ 7 (d := d_need)
theorem Wl.D_number_of (W : Wl K mg) : ∃ fd, FunD K d_number_of.name d_number_of.qual d_number_of.params d_number_of.body d_number_of.scope [] [] (fAd K d_number_of.at_) fd := let ⟨_, _, _, _, c⟩ := W.ex; c.d.def_ 8 (d := d_number_of)
theorem Wl.D_Reader_init (W : Wl K mg) : ∃ fd, FunD K d_Reader_init.name d_Reader_init.qual d_Reader_init.params d_Reader_init.body d_Reader_init.scope [] [] (fAd K d_Reader_init.at_) fd := let ⟨_, _, _, _, c⟩ := W.ex; c.d.def_ 9 (d := d_Reader_init)
theorem Wl.D_Reader_takes (W : Wl K mg) : ∃ fd, FunD K d_Reader_takes.name d_Reader_takes.qual d_Reader_takes.params d_Reader_takes.body d_Reader_takes.scope [] [] (fAd K d_Reader_takes.at_) fd := let ⟨_, _, _, _, c⟩ := W.ex; c.d.def_ 10 (d := d_Reader_takes)
theorem Wl.D_Reader_needs (W : Wl K mg) : ∃ fd, FunD K d_Reader_needs.name d_Reader_needs.qual d_Reader_needs.params d_Reader_needs.body d_Reader_needs.scope [] [] (fAd K d_Reader_needs.at_) fd := let ⟨_, _, _, _, c⟩ := W.ex; c.d.def_ 11 (d := d_Reader_needs)
theorem Wl.D_Reader_signs (W : Wl K mg) : ∃ fd, FunD K d_Reader_signs.name d_Reader_signs.qual d_Reader_signs.params d_Reader_signs.body d_Reader_signs.scope [] [] (fAd K d_Reader_signs.at_) fd := let ⟨_, _, _, _, c⟩ := W.ex; c.d.def_ 12 (d := d_Reader_signs)
theorem Wl.D_Reader_word_here (W : Wl K mg) : ∃ fd, FunD K d_Reader_word_here.name d_Reader_word_here.qual d_Reader_word_here.params d_Reader_word_here.body d_Reader_word_here.scope [] [] (fAd K d_Reader_word_here.at_) fd := let ⟨_, _, _, _, c⟩ := W.ex; c.d.def_ 13 (d := d_Reader_word_here)
theorem Wl.D_Reader_several (W : Wl K mg) : ∃ fd, FunD K d_Reader_several.name d_Reader_several.qual d_Reader_several.params d_Reader_several.body d_Reader_several.scope [] [] (fAd K d_Reader_several.at_) fd := let ⟨_, _, _, _, c⟩ := W.ex; c.d.def_ 14 (d := d_Reader_several)
theorem Wl.D_Reader_condition_here (W : Wl K mg) : ∃ fd, FunD K d_Reader_condition_here.name d_Reader_condition_here.qual d_Reader_condition_here.params d_Reader_condition_here.body d_Reader_condition_here.scope [] [] (fAd K d_Reader_condition_here.at_) fd := let ⟨_, _, _, _, c⟩ := W.ex; c.d.def_ 15 (d := d_Reader_condition_here)
theorem Wl.D_Reader_part_here (W : Wl K mg) : ∃ fd, FunD K d_Reader_part_here.name d_Reader_part_here.qual d_Reader_part_here.params d_Reader_part_here.body d_Reader_part_here.scope [] [] (fAd K d_Reader_part_here.at_) fd := let ⟨_, _, _, _, c⟩ := W.ex; c.d.def_ 16 (d := d_Reader_part_here)
theorem Wl.D_read_condition (W : Wl K mg) : ∃ fd, FunD K d_read_condition.name d_read_condition.qual d_read_condition.params d_read_condition.body d_read_condition.scope [] [] (fAd K d_read_condition.at_) fd := let ⟨_, _, _, _, c⟩ := W.ex; c.d.def_ 17 (d := d_read_condition)
theorem Wl.D_read_part (W : Wl K mg) : ∃ fd, FunD K d_read_part.name d_read_part.qual d_read_part.params d_read_part.body d_read_part.scope [] [] (fAd K d_read_part.at_) fd := let ⟨_, _, _, _, c⟩ := W.ex; c.d.def_ 18 (d := d_read_part)
theorem Wl.D_law_bag (W : Wl K mg) : ∃ fd, FunD K d_law_bag.name d_law_bag.qual d_law_bag.params d_law_bag.body d_law_bag.scope [] [] (fAd K d_law_bag.at_) fd := let ⟨_, _, _, _, c⟩ := W.ex; c.d.def_ 19 (d := d_law_bag)
theorem Wl.D_law_take (W : Wl K mg) : ∃ fd, FunD K d_law_take.name d_law_take.qual d_law_take.params d_law_take.body d_law_take.scope [] [] (fAd K d_law_take.at_) fd := let ⟨_, _, _, _, c⟩ := W.ex; c.d.def_ 20 (d := d_law_take)
theorem Wl.D_law_alike (W : Wl K mg) : ∃ fd, FunD K d_law_alike.name d_law_alike.qual d_law_alike.params d_law_alike.body d_law_alike.scope [] [] (fAd K d_law_alike.at_) fd := let ⟨_, _, _, _, c⟩ := W.ex; c.d.def_ 21 (d := d_law_alike)
theorem Wl.D_law_one (W : Wl K mg) : ∃ fd, FunD K d_law_one.name d_law_one.qual d_law_one.params d_law_one.body d_law_one.scope [] [] (fAd K d_law_one.at_) fd := let ⟨_, _, _, _, c⟩ := W.ex; c.d.def_ 22 (d := d_law_one)
theorem Wl.D_law_names (W : Wl K mg) : ∃ fd, FunD K d_law_names.name d_law_names.qual d_law_names.params d_law_names.body d_law_names.scope [] [] (fAd K d_law_names.at_) fd := let ⟨_, _, _, _, c⟩ := W.ex; c.d.def_ 23 (d := d_law_names)
theorem Wl.D_law_condition (W : Wl K mg) : ∃ fd, FunD K d_law_condition.name d_law_condition.qual d_law_condition.params d_law_condition.body d_law_condition.scope [] [] (fAd K d_law_condition.at_) fd := let ⟨_, _, _, _, c⟩ := W.ex; c.d.def_ 24 (d := d_law_condition)
theorem Wl.D_law_pieces (W : Wl K mg) : ∃ fd, FunD K d_law_pieces.name d_law_pieces.qual d_law_pieces.params d_law_pieces.body d_law_pieces.scope [] [] (fAd K d_law_pieces.at_) fd := let ⟨_, _, _, _, c⟩ := W.ex; c.d.def_ 25 (d := d_law_pieces)
theorem Wl.D_law_leaf (W : Wl K mg) : ∃ fd, FunD K d_law_leaf.name d_law_leaf.qual d_law_leaf.params d_law_leaf.body d_law_leaf.scope [] [] (fAd K d_law_leaf.at_) fd := let ⟨_, _, _, _, c⟩ := W.ex; c.d.def_ 26 (d := d_law_leaf)
theorem Wl.D_law_part (W : Wl K mg) : ∃ fd, FunD K d_law_part.name d_law_part.qual d_law_part.params d_law_part.body d_law_part.scope [] [] (fAd K d_law_part.at_) fd := let ⟨_, _, _, _, c⟩ := W.ex; c.d.def_ 27 (d := d_law_part)
theorem Wl.D_law_condition_text (W : Wl K mg) : ∃ fd, FunD K d_law_condition_text.name d_law_condition_text.qual d_law_condition_text.params d_law_condition_text.body d_law_condition_text.scope [] [] (fAd K d_law_condition_text.at_) fd := let ⟨_, _, _, _, c⟩ := W.ex; c.d.def_ 28 (d := d_law_condition_text)
theorem Wl.D_law_part_text (W : Wl K mg) : ∃ fd, FunD K d_law_part_text.name d_law_part_text.qual d_law_part_text.params d_law_part_text.body d_law_part_text.scope [] [] (fAd K d_law_part_text.at_) fd := let ⟨_, _, _, _, c⟩ := W.ex; c.d.def_ 29 (d := d_law_part_text)
theorem Wl.D_law_name_at (W : Wl K mg) : ∃ fd, FunD K d_law_name_at.name d_law_name_at.qual d_law_name_at.params d_law_name_at.body d_law_name_at.scope [] [] (fAd K d_law_name_at.at_) fd := let ⟨_, _, _, _, c⟩ := W.ex; c.d.def_ 30 (d := d_law_name_at)
theorem Wl.D_law_number_at (W : Wl K mg) : ∃ fd, FunD K d_law_number_at.name d_law_number_at.qual d_law_number_at.params d_law_number_at.body d_law_number_at.scope [] [] (fAd K d_law_number_at.at_) fd := let ⟨_, _, _, _, c⟩ := W.ex; c.d.def_ 31 (d := d_law_number_at)
theorem Wl.D_law_conditions_at (W : Wl K mg) : ∃ fd, FunD K d_law_conditions_at.name d_law_conditions_at.qual d_law_conditions_at.params d_law_conditions_at.body d_law_conditions_at.scope [] [] (fAd K d_law_conditions_at.at_) fd := let ⟨_, _, _, _, c⟩ := W.ex; c.d.def_ 32 (d := d_law_conditions_at)
theorem Wl.D_law_condition_at (W : Wl K mg) : ∃ fd, FunD K d_law_condition_at.name d_law_condition_at.qual d_law_condition_at.params d_law_condition_at.body d_law_condition_at.scope [] [] (fAd K d_law_condition_at.at_) fd := let ⟨_, _, _, _, c⟩ := W.ex; c.d.def_ 33 (d := d_law_condition_at)
theorem Wl.D_law_row_at (W : Wl K mg) : ∃ fd, FunD K d_law_row_at.name d_law_row_at.qual d_law_row_at.params d_law_row_at.body d_law_row_at.scope [] [] (fAd K d_law_row_at.at_) fd := let ⟨_, _, _, _, c⟩ := W.ex; c.d.def_ 34 (d := d_law_row_at)
theorem Wl.D_law_after (W : Wl K mg) : ∃ fd, FunD K d_law_after.name d_law_after.qual d_law_after.params d_law_after.body d_law_after.scope [] [] (fAd K d_law_after.at_) fd := let ⟨_, _, _, _, c⟩ := W.ex; c.d.def_ 35 (d := d_law_after)
theorem Wl.D_law_if_at (W : Wl K mg) : ∃ fd, FunD K d_law_if_at.name d_law_if_at.qual d_law_if_at.params d_law_if_at.body d_law_if_at.scope [] [] (fAd K d_law_if_at.at_) fd := let ⟨_, _, _, _, c⟩ := W.ex; c.d.def_ 36 (d := d_law_if_at)
theorem Wl.D_law_part_at (W : Wl K mg) : ∃ fd, FunD K d_law_part_at.name d_law_part_at.qual d_law_part_at.params d_law_part_at.body d_law_part_at.scope [] [] (fAd K d_law_part_at.at_) fd := let ⟨_, _, _, _, c⟩ := W.ex; c.d.def_ 37 (d := d_law_part_at)
theorem Wl.D_law_whole (W : Wl K mg) : ∃ fd, FunD K d_law_whole.name d_law_whole.qual d_law_whole.params d_law_whole.body d_law_whole.scope [] [] (fAd K d_law_whole.at_) fd := let ⟨_, _, _, _, c⟩ := W.ex; c.d.def_ 38 (d := d_law_whole)
theorem Wl.D_law_spoilt (W : Wl K mg) : ∃ fd, FunD K d_law_spoilt.name d_law_spoilt.qual d_law_spoilt.params d_law_spoilt.body d_law_spoilt.scope [] [] (fAd K d_law_spoilt.at_) fd := let ⟨_, _, _, _, c⟩ := W.ex; c.d.def_ 39 (d := d_law_spoilt)
theorem Wl.D_law_read (W : Wl K mg) : ∃ fd, FunD K d_law_read.name d_law_read.qual d_law_read.params d_law_read.body d_law_read.scope [] [] (fAd K d_law_read.at_) fd := let ⟨_, _, _, _, c⟩ := W.ex; c.d.def_ 40 (d := d_law_read)
theorem Wl.D_law_text (W : Wl K mg) : ∃ fd, FunD K d_law_text.name d_law_text.qual d_law_text.params d_law_text.body d_law_text.scope [] [] (fAd K d_law_text.at_) fd := let ⟨_, _, _, _, c⟩ := W.ex; c.d.def_ 41 (d := d_law_text)
theorem Wl.D_law (W : Wl K mg) : ∃ fd, FunD K d_law.name d_law.qual d_law.params d_law.body d_law.scope [] [] (fAd K d_law.at_) fd := let ⟨_, _, _, _, c⟩ := W.ex; c.d.def_ 42 (d := d_law)
theorem Wl.na_x_NoText (W : Wl K mg) : XR.NoArg K mg "/claim/cut.py" (ga K x_NoText.cls) (HY.iAd K x_NoText.cls) "__init__" x_NoText.qual x_NoText.params x_NoText.body x_NoText.scope := let ⟨_, _, _, _, c⟩ := W.ex; c.noarg W.f_super (d := x_NoText) (by simp [xs])
theorem Wl.cat_x_NoText (W : Wl K mg) : ExcC K (ga K x_NoText.cls) := let ⟨_, _, _, _, c⟩ := W.ex; c.cat (d := x_NoText) (by simp [xs])
theorem Wl.kit (W : Wl K mg) {p : Str × Str × Bool} (hp : p ∈ ks) : PySem.W.kitOne K (.ref (ga K p.1)) (.ref (ga K p.2.1)) = some p.2.2 := let ⟨_, _, _, _, c⟩ := W.ex; c.kit hp
end
end K91
end

section
set_option linter.all false
set_option maxRecDepth 100000
set_option maxHeartbeats 4000000
/-! The two readers of conditions and parts, as plain functions on signs, and that they tell the same. -/
namespace M
open L2 TL
abbrev Cs := List Nat
/-- the signs of a written text -/
def q (s : String) : Cs := s.toList.map Char.toNat
abbrev LET : Cs := q "abcdefghijklmnopqrstuvwxyz"
abbrev DIG : Cs := q "0123456789"
def isLet (c : Nat) : Bool := decide (c ∈ LET)
def isDig (c : Nat) : Bool := decide (c ∈ DIG)
/-- a name -/
structure Nm (n : Cs) : Prop where
  pos : 0 < n.length
  most : n.length ≤ 8
  all : ∀ c ∈ n, isLet c = true
inductive Cond where
  | word (b : Bool)
  | ask (n : Cs)
  | neg (c : Cond)
  | many (b : Bool) (cs : List Cond)
inductive Part where
  | back
  | leave (k : Nat)
  | step (n : Cs)
  | call (n : Cs)
  | row (ps : List Part)
  | whil (c : Cond) (p : Part)
  | ite (c : Cond) (p r : Part)
def nq (b : Bool) : Cs := if b then q "all" else q "any"
def yq (b : Bool) : Cs := if b then q "yes" else q "no"
mutual
def Cond.sh : Cond → Cs
  | .word b => yq b
  | .ask n => q "?" ++ n
  | .neg c => q "not" ++ (q "(" ++ (c.sh ++ q ")"))
  | .many b cs => nq b ++ (q "(" ++ (joinL (q ", ") (shC cs) ++ q ")"))
def shC : List Cond → List Cs
  | [] => []
  | c :: cs => c.sh :: shC cs
end
mutual
def Part.sh : Part → Cs
  | .back => q "back"
  | .leave k => q "leave" ++ (q " " ++ numL k)
  | .step n => q "do" ++ (q " " ++ n)
  | .call n => q "call" ++ (q " " ++ n)
  | .row ps => q "[" ++ (joinL (q "; ") (shP ps) ++ q "]")
  | .whil c p => q "while " ++ (c.sh ++ (q ": " ++ p.sh))
  | .ite c p r => q "if " ++ (c.sh ++ (q " then " ++ (p.sh ++ (q " else " ++ r.sh))))
def shP : List Part → List Cs
  | [] => []
  | p :: ps => p.sh :: shP ps
end
mutual
def Cond.wf : Cond → Prop
  | .word _ => True
  | .ask n => Nm n
  | .neg c => c.wf
  | .many _ cs => wfC cs
def wfC : List Cond → Prop
  | [] => True
  | c :: cs => c.wf ∧ wfC cs
end
mutual
def Part.wf : Part → Prop
  | .back => True
  | .leave k => k < 1000000000
  | .step n => Nm n
  | .call n => Nm n
  | .row ps => wfP ps
  | .whil c p => c.wf ∧ p.wf
  | .ite c p r => c.wf ∧ p.wf ∧ r.wf
def wfP : List Part → Prop
  | [] => True
  | p :: ps => p.wf ∧ wfP ps
end
-- no leave 0
mutual
def Part.pos : Part → Bool
  | .back => true
  | .leave k => decide (0 < k)
  | .step _ => true
  | .call _ => true
  | .row ps => posP ps
  | .whil _ p => p.pos
  | .ite _ p r => p.pos && r.pos
def posP : List Part → Bool
  | [] => true
  | p :: ps => p.pos && posP ps
end
/-! ### what both readers are made of -/
def takes (w s : Cs) : Option Cs := if s.take w.length = w then some (s.drop w.length) else none
def word (s : Cs) : Option (Cs × Cs) := if 0 < (s.takeWhile isLet).length ∧ (s.takeWhile isLet).length ≤ 8 then some (s.takeWhile isLet, s.dropWhile isLet) else none
def number (s : Cs) : Option (Nat × Cs) :=
  if (0 < (s.takeWhile isDig).length ∧ (s.takeWhile isDig).length ≤ 9) ∧ (s.takeWhile isDig = q "0" ∨ (s.takeWhile isDig).head? ≠ some 48) then some (PySem.NumText.digitsVal (s.takeWhile isDig), s.dropWhile isDig) else none
def sev {α : Type} (rd : Cs → Option (α × Cs)) (e b : Cs) : Nat → List α → Cs → Option (List α × Cs)
  | 0, _, _ => none
  | m + 1, acc, s => match takes e s with
    | some r => some (acc, r)
    | none => match (if acc.isEmpty = true then some s else takes b s) with
      | none => none
      | some s1 => match rd s1 with
        | none => none
        | some (d, s2) => sev rd e b m (acc ++ [d]) s2
/-! ### the program's reader -/
def cond (n : Nat) (s : Cs) : Option (Cond × Cs) :=
  if h : n = 0 then none else
  match takes (q "?") s with
  | some r => (match word r with
    | none => none
    | some (w, r2) => some (.ask w, r2))
  | none => (match word s with
    | none => none
    | some (w, r) =>
      if w = q "yes" then some (.word true, r) else if w = q "no" then some (.word false, r)
      else if w = q "not" ∨ w = q "all" ∨ w = q "any" then
        (match takes (q "(") r with
        | none => none
        | some r1 => (match sev (cond (n - 3)) (q ")") (q ", ") (r1.length + 1) [] r1 with
          | none => none
          | some (cs, r2) => if w = q "not" then (match cs with
              | [c] => some (.neg c, r2)
              | _ => none) else some (.many (decide (w = q "all")) cs, r2)))
      else none)
termination_by n
decreasing_by omega
def part (n : Nat) (s : Cs) : Option (Part × Cs) :=
  if h : n = 0 then none else
  match takes (q "[") s with
  | some r => (match sev (part (n - 3)) (q "]") (q "; ") (r.length + 1) [] r with
    | none => none
    | some (ps, r2) => some (.row ps, r2))
  | none => (match word s with
    | none => none
    | some (w, r) =>
      if w = q "back" then some (.back, r) else
      (match takes (q " ") r with
      | none => none
      | some r1 =>
        if w = q "leave" then (match number r1 with
          | none => none
          | some (k, r2) => some (.leave k, r2))
        else if w = q "do" then (match word r1 with
          | none => none
          | some (x, r2) => some (.step x, r2))
        else if w = q "call" then (match word r1 with
          | none => none
          | some (x, r2) => some (.call x, r2))
        else if w = q "if" ∨ w = q "while" then
          (match cond (n - 1) r1 with
          | none => none
          | some (c, r2) =>
            if w = q "while" then (match takes (q ": ") r2 with
              | none => none
              | some r3 => (match part (n - 1) r3 with
                | none => none
                | some (p, r4) => some (.whil c p, r4)))
            else (match takes (q " then ") r2 with
              | none => none
              | some r3 => (match part (n - 1) r3 with
                | none => none
                | some (p, r4) => (match takes (q " else ") r4 with
                  | none => none
                  | some r5 => (match part (n - 1) r5 with
                    | none => none
                    | some (p2, r6) => some (.ite c p p2, r6))))))
        else none))
termination_by n
decreasing_by all_goals omega
/-! ### the law's reader -/
def lsev {α : Type} (rd : Cs → Option (α × Cs)) (e b : Cs) : Nat → List α → Cs → Option (List α × Cs)
  | 0, _, _ => none
  | m + 1, acc, s => match rd s with
    | none => none
    | some (d, s1) => match takes e s1 with
      | some r => some (acc ++ [d], r)
      | none => match takes b s1 with
        | none => none
        | some s2 => lsev rd e b m (acc ++ [d]) s2
def lall {α : Type} (rd : Cs → Option (α × Cs)) (e b : Cs) (m : Nat) (s : Cs) : Option (List α × Cs) := match takes e s with
  | some r => some ([], r)
  | none => lsev rd e b m [] s
def lcond (n m : Nat) (s : Cs) : Option (Cond × Cs) :=
  if h : n = 0 then none else
  if s.take 4 = q "not(" ∨ s.take 4 = q "all(" ∨ s.take 4 = q "any(" then
    (match lall (lcond (n - 3) m) (q ")") (q ", ") m (s.drop 4) with
    | none => none
    | some (cs, r) => if s.take 4 = q "not(" then (match cs with
        | [c] => some (.neg c, r)
        | _ => none) else some (.many (decide (s.take 4 = q "all(")) cs, r))
  else if s.take 1 = q "?" then (match word (s.drop 1) with
    | none => none
    | some (w, r) => some (.ask w, r))
  else if s.take 3 = q "yes" then some (.word true, s.drop 3)
  else if s.take 2 = q "no" then some (.word false, s.drop 2) else none
termination_by n
decreasing_by omega
def lpart (n m : Nat) (s : Cs) : Option (Part × Cs) :=
  if h : n = 0 then none else
  if s.take 4 = q "back" then some (.back, s.drop 4)
  else if s.take 3 = q "do " then (match word (s.drop 3) with
    | none => none
    | some (x, r) => some (.step x, r))
  else if s.take 5 = q "call " then (match word (s.drop 5) with
    | none => none
    | some (x, r) => some (.call x, r))
  else if s.take 6 = q "leave " then (match number (s.drop 6) with
    | none => none
    | some (k, r) => if k = 0 then none else some (.leave k, r))
  else if s.take 1 = q "[" then (match lall (lpart (n - 3) m) (q "]") (q "; ") m (s.drop 1) with
    | none => none
    | some (ps, r) => some (.row ps, r))
  else if s.take 3 = q "if " then
    (match lcond (n - 1) m (s.drop 3) with
    | none => none
    | some (c, r2) => (match takes (q " then ") r2 with
      | none => none
      | some r3 => (match lpart (n - 2) m r3 with
        | none => none
        | some (p, r4) => (match takes (q " else ") r4 with
          | none => none
          | some r5 => (match lpart (n - 2) m r5 with
            | none => none
            | some (p2, r6) => some (.ite c p p2, r6))))))
  else if s.take 6 = q "while " then
    (match lcond (n - 1) m (s.drop 6) with
    | none => none
    | some (c, r2) => (match takes (q ": ") r2 with
      | none => none
      | some r3 => (match lpart (n - 1) m r3 with
        | none => none
        | some (p, r4) => some (.whil c p, r4))))
  else none
termination_by n
decreasing_by all_goals omega
/-! ### weights -/
def wt (c : Nat) : Nat := if c = 91 ∨ c = 40 then 3 else if c = 32 then 1 else 0
def om (s : Cs) : Nat := (s.map wt).sum
theorem om_app (a b : Cs) : om (a ++ b) = om a + om b := by
  unfold om
  rw [List.map_append, List.sum_append]
theorem om_nil : om [] = 0 := rfl
/-! ### takes, word, number -/
theorem takes_some {w s r : Cs} : takes w s = some r ↔ s = w ++ r := by
  unfold takes
  constructor
  · intro h
    by_cases e : s.take w.length = w
    · rw [if_pos e] at h
      have h1 := Option.some.inj h
      rw [← h1]
      calc s = s.take w.length ++ s.drop w.length := (List.take_append_drop _ _).symm
        _ = w ++ s.drop w.length := by rw [e]
    · rw [if_neg e] at h
      cases h
  · rintro rfl
    rw [if_pos (by rw [List.take_left']; rfl), List.drop_left' rfl]
theorem takes_none {w s : Cs} : takes w s = none ↔ ∀ r, s ≠ w ++ r := by
  constructor
  · intro h r e
    rw [takes_some.mpr e] at h
    cases h
  · intro h
    cases e : takes w s with
    | none => rfl
    | some r => exact absurd (takes_some.mp e) (h r)
theorem takes_self (w r : Cs) : takes w (w ++ r) = some r := takes_some.mpr rfl
theorem take_iff {w s : Cs} {n : Nat} (h : w.length = n) : s.take n = w ↔ s = w ++ s.drop n := by
  subst h
  constructor
  · intro e
    calc s = s.take w.length ++ s.drop w.length := (List.take_append_drop _ _).symm
      _ = w ++ s.drop w.length := by rw [e]
  · intro e
    rw [e, List.take_left' rfl]
/-- begins with no letter -/
def nl (r : Cs) : Prop := ∀ c, r.head? = some c → isLet c = false
theorem nl_nil : nl [] := fun _ h => by cases h
theorem nl_cons {c : Nat} {r : Cs} (h : isLet c = false) : nl (c :: r) := fun d e => by
  cases e
  exact h
theorem span_app {p : Nat → Bool} {a r : Cs} (ha : ∀ c ∈ a, p c = true) (hr : ∀ c, r.head? = some c → p c = false) : (a ++ r).takeWhile p = a ∧ (a ++ r).dropWhile p = r := by
  induction a with
  | nil =>
    cases r with
    | nil => exact ⟨rfl, rfl⟩
    | cons c r =>
      have h := hr c rfl
      simp [List.takeWhile_cons, List.dropWhile_cons, h]
  | cons c a ih =>
    have h := ha c (List.mem_cons_self ..)
    have i := ih fun d hd => ha d (List.mem_cons_of_mem _ hd)
    simp [List.takeWhile_cons, List.dropWhile_cons, h, i.1, i.2]
theorem span_head {p : Nat → Bool} (s : Cs) : ∀ c, (s.dropWhile p).head? = some c → p c = false := by
  induction s with
  | nil => intro c h; cases h
  | cons d s ih =>
    intro c h
    by_cases e : p d = true
    · rw [List.dropWhile_cons_of_pos e] at h
      exact ih c h
    · rw [List.dropWhile_cons_of_neg e] at h
      cases h
      simpa using e
theorem span_all {p : Nat → Bool} (s : Cs) : ∀ c ∈ s.takeWhile p, p c = true := by
  induction s with
  | nil => intro c h; cases h
  | cons d s ih =>
    intro c h
    by_cases e : p d = true
    · rw [List.takeWhile_cons_of_pos e] at h
      rcases List.mem_cons.mp h with rfl | h
      · exact e
      · exact ih c h
    · rw [List.takeWhile_cons_of_neg e] at h
      cases h
theorem word_some {s w r : Cs} (h : word s = some (w, r)) : s = w ++ r ∧ Nm w ∧ nl r := by
  unfold word at h
  by_cases e : 0 < (s.takeWhile isLet).length ∧ (s.takeWhile isLet).length ≤ 8
  · rw [if_pos e] at h
    obtain ⟨rfl, rfl⟩ := Prod.mk.inj (Option.some.inj h)
    exact ⟨(List.takeWhile_append_dropWhile ..).symm, ⟨e.1, e.2, span_all s⟩, span_head s⟩
  · rw [if_neg e] at h
    cases h
theorem word_app {w r : Cs} (h : Nm w) (hr : nl r) : word (w ++ r) = some (w, r) := by
  obtain ⟨e1, e2⟩ := span_app (p := isLet) h.all hr
  unfold word
  rw [e1, e2, if_pos ⟨h.pos, h.most⟩]
theorem dig_iff (c : Nat) : isDig c = true ↔ 48 ≤ c ∧ c ≤ 57 := by
  unfold isDig
  have e : DIG = [48, 49, 50, 51, 52, 53, 54, 55, 56, 57] := by decide
  rw [decide_eq_true_iff, e]
  simp only [List.mem_cons, List.mem_nil_iff, or_false]
  omega
theorem num_val {a : Cs} (h : ∀ c ∈ a, isDig c = true) (h0 : 0 < a.length) (h1 : a = q "0" ∨ a.head? ≠ some 48) : numL (PySem.NumText.digitsVal a) = a := by
  have hd : PySem.NumText.AllDigits a := fun c hc => (dig_iff c).mp (h c hc)
  have t := PySem.NumText.toDigits_digitsVal (a.length - 1) a (by omega) hd (by
    cases a with
    | nil => cases h0
    | cons c r =>
      rcases h1 with h1 | h1
      · left
        rw [h1]
        rfl
      · right
        refine ⟨c, r, rfl, ?_⟩
        have := hd c (List.mem_cons_self ..)
        have : c ≠ 48 := fun z => h1 (by rw [z]; rfl)
        omega)
  unfold numL
  rw [t, List.map_map]
  have key : ∀ c ∈ a, (Char.toNat ∘ Char.ofNat) c = c := fun c hc => by
    have := hd c hc
    show (Char.ofNat c).toNat = c
    have hv : c.isValidChar := by left; omega
    simp [Char.ofNat, hv, Char.ofNatAux, Char.toNat]
  rw [List.map_congr_left key]
  simp
theorem fold_lt : ∀ (l : Cs) (a : Nat), (∀ c ∈ l, isDig c = true) → l.foldl (fun acc c => acc * 10 + (c - 48)) a < (a + 1) * 10 ^ l.length
  | [], a, _ => by
    show a < (a + 1) * 10 ^ 0
    omega
  | c :: l, a, h => by
    have hc := (dig_iff c).mp (h c (List.mem_cons_self ..))
    have ih := fold_lt l (a * 10 + (c - 48)) fun d hd => h d (List.mem_cons_of_mem _ hd)
    show l.foldl (fun acc c => acc * 10 + (c - 48)) (a * 10 + (c - 48)) < (a + 1) * 10 ^ (l.length + 1)
    refine Nat.lt_of_lt_of_le ih ?_
    rw [Nat.pow_succ, Nat.mul_comm (10 ^ l.length) 10, ← Nat.mul_assoc]
    exact Nat.mul_le_mul_right _ (by omega)
theorem number_some {s r : Cs} {k : Nat} (h : number s = some (k, r)) : s = numL k ++ r ∧ (∀ c, r.head? = some c → isDig c = false) ∧ k < 1000000000 := by
  unfold number at h
  by_cases e : (0 < (s.takeWhile isDig).length ∧ (s.takeWhile isDig).length ≤ 9) ∧ (s.takeWhile isDig = q "0" ∨ (s.takeWhile isDig).head? ≠ some 48)
  · rw [if_pos e] at h
    obtain ⟨rfl, rfl⟩ := Prod.mk.inj (Option.some.inj h)
    have z := num_val (span_all s) e.1.1 e.2
    refine ⟨by rw [z]; exact (List.takeWhile_append_dropWhile ..).symm, span_head s, ?_⟩
    have b := fold_lt (s.takeWhile isDig) 0 (span_all s)
    refine Nat.lt_of_lt_of_le b ?_
    have e9 := e.1.2
    calc (0 + 1) * 10 ^ (s.takeWhile isDig).length ≤ (0 + 1) * 10 ^ 9 := Nat.mul_le_mul_left _ (Nat.pow_le_pow_right (by decide) e9)
      _ ≤ 1000000000 := by decide
  · rw [if_neg e] at h
    cases h
end M
end

section
set_option linter.all false
set_option maxRecDepth 100000
set_option maxHeartbeats 4000000
/-! Soundness of the program's reader; both readers tell the same. -/
namespace M
open L2 TL
theorem q_yes : q "yes" = [121, 101, 115] := by decide
theorem q_no : q "no" = [110, 111] := by decide
theorem q_not : q "not" = [110, 111, 116] := by decide
theorem q_all : q "all" = [97, 108, 108] := by decide
theorem q_any : q "any" = [97, 110, 121] := by decide
theorem q_3f : q "?" = [63] := by decide
theorem q_28 : q "(" = [40] := by decide
theorem q_29 : q ")" = [41] := by decide
theorem q_2c20 : q ", " = [44, 32] := by decide
theorem q_not28 : q "not(" = [110, 111, 116, 40] := by decide
theorem q_all28 : q "all(" = [97, 108, 108, 40] := by decide
theorem q_any28 : q "any(" = [97, 110, 121, 40] := by decide
theorem q_back : q "back" = [98, 97, 99, 107] := by decide
theorem q_leave : q "leave" = [108, 101, 97, 118, 101] := by decide
theorem q_do : q "do" = [100, 111] := by decide
theorem q_call : q "call" = [99, 97, 108, 108] := by decide
theorem q_if : q "if" = [105, 102] := by decide
theorem q_while : q "while" = [119, 104, 105, 108, 101] := by decide
theorem q_5b : q "[" = [91] := by decide
theorem q_5d : q "]" = [93] := by decide
theorem q_3b20 : q "; " = [59, 32] := by decide
theorem q_20 : q " " = [32] := by decide
theorem q_do20 : q "do " = [100, 111, 32] := by decide
theorem q_call20 : q "call " = [99, 97, 108, 108, 32] := by decide
theorem q_leave20 : q "leave " = [108, 101, 97, 118, 101, 32] := by decide
theorem q_if20 : q "if " = [105, 102, 32] := by decide
theorem q_while20 : q "while " = [119, 104, 105, 108, 101, 32] := by decide
theorem q_3a20 : q ": " = [58, 32] := by decide
theorem q_20then20 : q " then " = [32, 116, 104, 101, 110, 32] := by decide
theorem q_20else20 : q " else " = [32, 101, 108, 115, 101, 32] := by decide
theorem q_0 : q "0" = [48] := by decide
theorem shC_map : ∀ cs : List Cond, shC cs = cs.map Cond.sh
  | [] => rfl
  | c :: cs => by show c.sh :: shC cs = _; rw [shC_map cs]; rfl
theorem shP_map : ∀ ps : List Part, shP ps = ps.map Part.sh
  | [] => rfl
  | p :: ps => by show p.sh :: shP ps = _; rw [shP_map ps]; rfl
theorem wfC_iff : ∀ cs : List Cond, wfC cs ↔ ∀ c ∈ cs, c.wf
  | [] => ⟨fun _ _ h => (nomatch h), fun _ => trivial⟩
  | c :: cs => by
    show (c.wf ∧ wfC cs) ↔ _
    rw [wfC_iff cs]
    simp
theorem wfP_iff : ∀ ps : List Part, wfP ps ↔ ∀ p ∈ ps, p.wf
  | [] => ⟨fun _ _ h => (nomatch h), fun _ => trivial⟩
  | p :: ps => by
    show (p.wf ∧ wfP ps) ↔ _
    rw [wfP_iff ps]
    simp
theorem posP_iff : ∀ ps : List Part, posP ps = true ↔ ∀ p ∈ ps, p.pos = true
  | [] => ⟨fun _ _ h => (nomatch h), fun _ => rfl⟩
  | p :: ps => by
    show (p.pos && posP ps) = true ↔ _
    rw [Bool.and_eq_true, posP_iff ps]
    simp
/-! ### several -/
def tailL (b : Cs) (xs : List Cs) : Cs := (xs.map (b ++ ·)).flatten
theorem join_tail (b x : Cs) : ∀ xs : List Cs, joinL b (x :: xs) = x ++ tailL b xs
  | [] => by show x = x ++ []; rw [List.append_nil]
  | y :: xs => by
    show x ++ (b ++ joinL b (y :: xs)) = x ++ ((b ++ y) ++ tailL b xs)
    rw [join_tail b y xs, List.append_assoc]
section
variable {α : Type} {rd rd' : Cs → Option (α × Cs)} {e b : Cs} {f : α → Cs} {G : α → Prop}
theorem sev_sound (hrd : ∀ s d r, rd s = some (d, r) → s = f d ++ r ∧ G d) : ∀ (m : Nat) (acc : List α) (s : Cs) (ds : List α) (r : Cs), sev rd e b m acc s = some (ds, r) →
    ∃ es, ds = acc ++ es ∧ s = (if acc.isEmpty = true then joinL b (es.map f) else tailL b (es.map f)) ++ (e ++ r) ∧ ∀ d ∈ es, G d
  | 0, _, _, _, _, h => by cases h
  | m + 1, acc, s, ds, r, h => by
    unfold sev at h
    cases ht : takes e s with
    | some r' =>
      rw [ht] at h
      obtain ⟨rfl, rfl⟩ := Prod.mk.inj (Option.some.inj h)
      refine ⟨[], by simp, ?_, fun d hd => nomatch hd⟩
      rw [takes_some.mp ht]
      cases acc <;> rfl
    | none =>
      rw [ht] at h
      dsimp only at h
      cases hb : (if acc.isEmpty = true then some s else takes b s) with
      | none =>
        rw [hb] at h
        cases h
      | some s1 =>
        rw [hb] at h
        dsimp only at h
        cases hr : rd s1 with
        | none =>
          rw [hr] at h
          cases h
        | some p =>
          obtain ⟨d, s2⟩ := p
          rw [hr] at h
          obtain ⟨es, e1, e2, e3⟩ := sev_sound hrd m (acc ++ [d]) s2 ds r h
          obtain ⟨e4, g⟩ := hrd _ _ _ hr
          refine ⟨d :: es, by rw [e1]; simp, ?_, fun x hx => ?_⟩
          · have ne : (acc ++ [d]).isEmpty = false := by cases acc <;> rfl
            rw [ne] at e2
            have e2' : s2 = tailL b (es.map f) ++ (e ++ r) := e2
            cases acc with
            | nil =>
              have e5 : s = s1 := Option.some.inj hb
              show s = joinL b (f d :: es.map f) ++ (e ++ r)
              rw [join_tail, e5, e4, e2', List.append_assoc]
            | cons a acc =>
              have e5 : s = b ++ s1 := takes_some.mp hb
              show s = ((b ++ f d) ++ tailL b (es.map f)) ++ (e ++ r)
              rw [e5, e4, e2']
              simp only [List.append_assoc]
          · rcases List.mem_cons.mp hx with rfl | hx
            · exact g
            · exact e3 x hx
/-- behind an element -/
def lcont (rd : Cs → Option (α × Cs)) (e b : Cs) (m : Nat) (acc : List α) (s : Cs) : Option (List α × Cs) := match takes e s with
  | some r => some (acc, r)
  | none => match takes b s with
    | none => none
    | some s2 => lsev rd e b m acc s2
theorem lsev_succ (m : Nat) (acc : List α) (s : Cs) : lsev rd e b (m + 1) acc s = match rd s with
    | none => none
    | some (d, s1) => lcont rd e b m (acc ++ [d]) s1 := by
  rw [lsev]
  cases rd s with
  | none => rfl
  | some p => obtain ⟨d, s1⟩ := p; rfl
variable {M k : Nat}
theorem sev_tail (hf : ∀ d, f d ≠ []) (hrd : ∀ s d r, rd s = some (d, r) → s = f d ++ r) (hgo : ∀ s d r, s.length ≤ M → om s < k → rd s = some (d, r) → G d → rd' s = some (d, r)) :
    ∀ (m : Nat) (acc : List α) (s : Cs) (ds : List α) (r : Cs), acc ≠ [] → sev rd e b m acc s = some (ds, r) → (∀ d ∈ ds, G d) → s.length ≤ M → om s < k → ∀ m', s.length ≤ m' → lcont rd' e b m' acc s = some (ds, r)
  | 0, _, _, _, _, _, h, _, _, _, _, _ => by cases h
  | m + 1, acc, s, ds, r, ha, h, hG, hM, hk, m', hm => by
    unfold sev at h
    unfold lcont
    cases ht : takes e s with
    | some r' =>
      rw [ht] at h
      exact h
    | none =>
      rw [ht] at h
      have ne : acc.isEmpty = false := by
        cases acc with
        | nil => exact absurd rfl ha
        | cons a acc => rfl
      rw [ne] at h
      dsimp only [Bool.false_eq_true, if_false] at h ⊢
      rw [if_neg (by decide)] at h
      cases hb : takes b s with
      | none =>
        rw [hb] at h
        cases h
      | some s1 =>
        rw [hb] at h
        dsimp only at h ⊢
        cases hr : rd s1 with
        | none =>
          rw [hr] at h
          cases h
        | some p =>
          obtain ⟨d, s2⟩ := p
          rw [hr] at h
          dsimp only at h
          have e1 := takes_some.mp hb
          have e2 := hrd _ _ _ hr
          have l1 : s.length = b.length + s1.length := by rw [e1, List.length_append]
          have l2 : s1.length = (f d).length + s2.length := by rw [e2, List.length_append]
          have l3 : 0 < (f d).length := List.length_pos_iff.mpr (hf d)
          have o1 : om s = om b + om s1 := by rw [e1, om_app]
          have o2 : om s1 = om (f d) + om s2 := by rw [e2, om_app]
          have mem : d ∈ ds := by
            obtain ⟨es, z, _⟩ := sev_sound (G := fun _ => True) (f := f) (fun s d r h => ⟨hrd s d r h, trivial⟩) m (acc ++ [d]) s2 ds r h
            rw [z]
            simp
          obtain ⟨j, rfl⟩ : ∃ j, m' = j + 1 := ⟨m' - 1, by omega⟩
          rw [lsev_succ, hgo s1 d s2 (by omega) (by omega) hr (hG d mem)]
          exact sev_tail hf hrd hgo m (acc ++ [d]) s2 ds r (by simp) h hG (by omega) (by omega) j (by omega)
theorem sev_lall (hf : ∀ d, f d ≠ []) (hrd : ∀ s d r, rd s = some (d, r) → s = f d ++ r) (hgo : ∀ s d r, s.length ≤ M → om s < k → rd s = some (d, r) → G d → rd' s = some (d, r))
    {m m' : Nat} {s : Cs} {ds : List α} {r : Cs} (h : sev rd e b m [] s = some (ds, r)) (hG : ∀ d ∈ ds, G d) (hM : s.length ≤ M) (hk : om s < k) (hm : s.length ≤ m') : lall rd' e b m' s = some (ds, r) := by
  cases m with
  | zero => cases h
  | succ m =>
    unfold sev at h
    unfold lall
    cases ht : takes e s with
    | some r' =>
      rw [ht] at h
      exact h
    | none =>
      rw [ht] at h
      have h : (match rd s with
        | none => none
        | some (d, s2) => sev rd e b m ([] ++ [d]) s2) = some (ds, r) := h
      dsimp only
      cases hr : rd s with
      | none =>
        rw [hr] at h
        cases h
      | some p =>
        obtain ⟨d, s2⟩ := p
        rw [hr] at h
        have e2 := hrd _ _ _ hr
        have l2 : s.length = (f d).length + s2.length := by rw [e2, List.length_append]
        have l3 : 0 < (f d).length := List.length_pos_iff.mpr (hf d)
        have o2 : om s = om (f d) + om s2 := by rw [e2, om_app]
        have mem : d ∈ ds := by
          obtain ⟨es, z, _⟩ := sev_sound (G := fun _ => True) (f := f) (fun s d r h => ⟨hrd s d r h, trivial⟩) m ([] ++ [d]) s2 ds r h
          rw [z]
          simp
        obtain ⟨j, rfl⟩ : ∃ j, m' = j + 1 := ⟨m' - 1, by omega⟩
        rw [lsev_succ, hgo s d s2 hM hk hr (hG d mem)]
        exact sev_tail hf hrd hgo m ([] ++ [d]) s2 ds r (by simp) h hG (by omega) (by omega) j (by omega)
/-- .. and back -/
theorem lsev_sev (he : nl e) (hb : nl b) (hne : e ≠ []) (hnb : b ≠ []) (hrd : ∀ s d r, rd s = some (d, r) → s = f d ++ r) (hgo : ∀ s d r, om s < k → rd' s = some (d, r) → nl r → rd s = some (d, r) ∧ G d) :
    ∀ (m' : Nat) (acc : List α) (s : Cs) (ds : List α) (r : Cs), lsev rd' e b m' acc s = some (ds, r) → om s < k →
    ∃ d s2, rd s = some (d, s2) ∧ G d ∧ (∃ es, ds = acc ++ (d :: es) ∧ ∀ x ∈ es, G x) ∧ ∀ m, s2.length < m → sev rd e b m (acc ++ [d]) s2 = some (ds, r)
  | 0, _, _, _, _, h, _ => by cases h
  | m' + 1, acc, s, ds, r, h, hk => by
    have nlapp : ∀ {w x : Cs}, nl w → w ≠ [] → nl (w ++ x) := fun {w x} hw hn => by
      cases w with
      | nil => exact absurd rfl hn
      | cons c w => exact fun d hd => hw d hd
    rw [lsev_succ] at h
    cases hr : rd' s with
    | none =>
      rw [hr] at h
      cases h
    | some p =>
      obtain ⟨d, s1⟩ := p
      rw [hr] at h
      have h : lcont rd' e b m' (acc ++ [d]) s1 = some (ds, r) := h
      have ne : (acc ++ [d]).isEmpty = false := by cases acc <;> rfl
      unfold lcont at h
      cases ht : takes e s1 with
      | some r' =>
        rw [ht] at h
        obtain ⟨rfl, rfl⟩ := Prod.mk.inj (Option.some.inj h)
        have n1 : nl s1 := by
          rw [takes_some.mp ht]
          exact nlapp he hne
        obtain ⟨g1, g2⟩ := hgo s d s1 hk hr n1
        refine ⟨d, s1, g1, g2, ⟨[], rfl, fun x hx => nomatch hx⟩, fun m hm => ?_⟩
        obtain ⟨j, rfl⟩ : ∃ j, m = j + 1 := ⟨m - 1, by omega⟩
        unfold sev
        rw [ht]
      | none =>
        rw [ht] at h
        dsimp only at h
        cases hb2 : takes b s1 with
        | none =>
          rw [hb2] at h
          cases h
        | some s2 =>
          rw [hb2] at h
          dsimp only at h
          have e1 := takes_some.mp hb2
          have n1 : nl s1 := by
            rw [e1]
            exact nlapp hb hnb
          obtain ⟨g1, g2⟩ := hgo s d s1 hk hr n1
          have e0 := hrd _ _ _ g1
          have o0 : om s = om (f d) + om s1 := by rw [e0, om_app]
          have o1 : om s1 = om b + om s2 := by rw [e1, om_app]
          obtain ⟨d2, s3, i1, i2, ⟨es, i3, i4⟩, i5⟩ := lsev_sev he hb hne hnb hrd hgo m' (acc ++ [d]) s2 ds r h (by omega)
          refine ⟨d, s1, g1, g2, ⟨d2 :: es, by rw [i3]; simp, fun x hx => ?_⟩, fun m hm => ?_⟩
          · rcases List.mem_cons.mp hx with rfl | hx
            · exact i2
            · exact i4 x hx
          · obtain ⟨j, rfl⟩ : ∃ j, m = j + 1 := ⟨m - 1, by omega⟩
            have e3 := hrd _ _ _ i1
            have l1 : s1.length = b.length + s2.length := by rw [e1, List.length_append]
            have l2 : s2.length = (f d2).length + s3.length := by rw [e3, List.length_append]
            have l3 : 0 < b.length := List.length_pos_iff.mpr hnb
            unfold sev
            rw [ht, ne]
            dsimp only
            rw [if_neg (by decide), hb2]
            dsimp only
            rw [i1]
            exact i5 j (by omega)
theorem lall_sev (hf : ∀ d, f d ≠ []) (he : nl e) (hb : nl b) (hne : e ≠ []) (hnb : b ≠ []) (hrd : ∀ s d r, rd s = some (d, r) → s = f d ++ r) (hgo : ∀ s d r, om s < k → rd' s = some (d, r) → nl r → rd s = some (d, r) ∧ G d)
    {m' : Nat} {s : Cs} {ds : List α} {r : Cs} (h : lall rd' e b m' s = some (ds, r)) (hk : om s < k) : sev rd e b (s.length + 1) [] s = some (ds, r) ∧ ∀ d ∈ ds, G d := by
  unfold lall at h
  unfold sev
  cases ht : takes e s with
  | some r' =>
    rw [ht] at h
    obtain ⟨rfl, rfl⟩ := Prod.mk.inj (Option.some.inj h)
    exact ⟨rfl, fun d hd => nomatch hd⟩
  | none =>
    rw [ht] at h
    have h : lsev rd' e b m' [] s = some (ds, r) := h
    obtain ⟨d, s2, i1, i2, ⟨es, i3, i4⟩, i5⟩ := lsev_sev he hb hne hnb hrd hgo m' [] s ds r h hk
    refine ⟨?_, fun x hx => ?_⟩
    · show (match rd s with
        | none => none
        | some (d, s2) => sev rd e b s.length ([] ++ [d]) s2) = some (ds, r)
      rw [i1]
      have e3 := hrd _ _ _ i1
      have l2 : s.length = (f d).length + s2.length := by rw [e3, List.length_append]
      have l3 : 0 < (f d).length := List.length_pos_iff.mpr (hf d)
      exact i5 _ (by omega)
    · rw [i3] at hx
      rcases List.mem_cons.mp hx with rfl | hx
      · exact i2
      · exact i4 x hx
end
end M
end

section
set_option linter.all false
set_option maxRecDepth 100000
set_option maxHeartbeats 4000000
namespace M
open L2 TL
theorem yq_ne (b : Bool) : yq b ≠ [] := by cases b <;> decide
theorem nq_ne (b : Bool) : nq b ≠ [] := by cases b <;> decide
theorem app_ne {a b : Cs} (h : a ≠ []) : a ++ b ≠ [] := by
  cases a with
  | nil => exact absurd rfl h
  | cons c a => simp
theorem sh_ne (c : Cond) : c.sh ≠ [] := by
  cases c with
  | word b => exact yq_ne b
  | ask n => exact app_ne (by decide)
  | neg c =>
    unfold Cond.sh
    exact app_ne (by decide)
  | many b cs =>
    unfold Cond.sh
    exact app_ne (nq_ne b)
theorem shp_ne (p : Part) : p.sh ≠ [] := by
  cases p <;> (unfold Part.sh; first | decide | exact app_ne (by decide))
theorem nm_q {s : String} (h : (decide (0 < (q s).length) && decide ((q s).length ≤ 8) && (q s).all isLet) = true) : Nm (q s) := by
  simp only [Bool.and_eq_true, decide_eq_true_eq] at h
  exact ⟨h.1.1, h.1.2, fun c hc => List.all_eq_true.mp h.2 c hc⟩
/-! ### conditions -/
theorem cond_sound : ∀ (n : Nat) (s : Cs) (c : Cond) (r : Cs), cond n s = some (c, r) → s = c.sh ++ r ∧ c.wf := by
  intro n
  induction n using Nat.strongRecOn with
  | _ n ih =>
    intro s c r h
    rw [cond] at h
    by_cases hn : n = 0
    · rw [dif_pos hn] at h
      cases h
    rw [dif_neg hn] at h
    cases ht : takes (q "?") s with
    | some r1 =>
      rw [ht] at h
      dsimp only at h
      cases hw : word r1 with
      | none =>
        rw [hw] at h
        cases h
      | some p =>
        obtain ⟨w, r2⟩ := p
        rw [hw] at h
        obtain ⟨rfl, rfl⟩ := Prod.mk.inj (Option.some.inj h)
        obtain ⟨e1, e2, _⟩ := word_some hw
        refine ⟨?_, e2⟩
        rw [takes_some.mp ht, e1]
        show _ = (q "?" ++ w) ++ r2
        rw [List.append_assoc]
    | none =>
      rw [ht] at h
      dsimp only at h
      cases hw : word s with
      | none =>
        rw [hw] at h
        cases h
      | some p =>
        obtain ⟨w, r1⟩ := p
        rw [hw] at h
        dsimp only at h
        obtain ⟨e1, e2, e3⟩ := word_some hw
        by_cases h1 : w = q "yes"
        · rw [if_pos h1] at h
          obtain ⟨rfl, rfl⟩ := Prod.mk.inj (Option.some.inj h)
          exact ⟨by rw [e1, h1]; rfl, trivial⟩
        rw [if_neg h1] at h
        by_cases h2 : w = q "no"
        · rw [if_pos h2] at h
          obtain ⟨rfl, rfl⟩ := Prod.mk.inj (Option.some.inj h)
          exact ⟨by rw [e1, h2]; rfl, trivial⟩
        rw [if_neg h2] at h
        by_cases h3 : w = q "not" ∨ w = q "all" ∨ w = q "any"
        · rw [if_pos h3] at h
          cases ht2 : takes (q "(") r1 with
          | none =>
            rw [ht2] at h
            cases h
          | some r2 =>
            rw [ht2] at h
            dsimp only at h
            cases hs : sev (cond (n - 3)) (q ")") (q ", ") (r2.length + 1) [] r2 with
            | none =>
              rw [hs] at h
              cases h
            | some p =>
              obtain ⟨cs, r3⟩ := p
              rw [hs] at h
              dsimp only at h
              obtain ⟨es, i1, i2, i3⟩ := sev_sound (f := Cond.sh) (G := Cond.wf) (fun s d r hd => ih (n - 3) (by omega) s d r hd) _ [] r2 cs r3 hs
              have i1' : cs = es := i1
              have i2' : r2 = joinL (q ", ") (es.map Cond.sh) ++ (q ")" ++ r3) := i2
              subst i1'
              by_cases h4 : w = q "not"
              · rw [if_pos h4] at h
                match cs, h with
                | [c'], h =>
                  obtain ⟨rfl, rfl⟩ := Prod.mk.inj (Option.some.inj h)
                  refine ⟨?_, i3 c' (List.mem_singleton.mpr rfl)⟩
                  rw [e1, takes_some.mp ht2, i2', h4]
                  show q "not" ++ (q "(" ++ (c'.sh ++ (q ")" ++ r3))) = (q "not" ++ (q "(" ++ (c'.sh ++ q ")"))) ++ r3
                  simp only [List.append_assoc]
              · rw [if_neg h4] at h
                obtain ⟨rfl, rfl⟩ := Prod.mk.inj (Option.some.inj h)
                refine ⟨?_, (wfC_iff cs).mpr i3⟩
                have ew : w = nq (decide (w = q "all")) := by
                  by_cases h5 : w = q "all"
                  · rw [decide_eq_true h5]
                    exact h5
                  · rw [decide_eq_false h5]
                    rcases h3 with h3 | h3 | h3
                    · exact absurd h3 h4
                    · exact absurd h3 h5
                    · exact h3
                rw [e1, takes_some.mp ht2, i2']
                show w ++ (q "(" ++ (joinL (q ", ") (cs.map Cond.sh) ++ (q ")" ++ r3))) = (nq (decide (w = q "all")) ++ (q "(" ++ (joinL (q ", ") (shC cs) ++ q ")"))) ++ r3
                rw [← ew, shC_map]
                simp only [List.append_assoc]
        · rw [if_neg h3] at h
          cases h
theorem nl_q {s : String} {r : Cs} (h : (match q s with
    | [] => false
    | c :: _ => !isLet c) = true) : nl (q s ++ r) := by
  cases e : q s with
  | nil =>
    rw [e] at h
    cases h
  | cons c w =>
    rw [e] at h
    refine nl_cons ?_
    have h' : (!isLet c) = true := h
    simpa using h'
theorem q_split (a b c : String) (h : decide (q c = q a ++ q b) = true) (r : Cs) : q c ++ r = q a ++ (q b ++ r) := by
  rw [of_decide_eq_true h, List.append_assoc]
theorem om_q {s : String} {k : Nat} (h : decide (om (q s) = k) = true) : om (q s) = k := of_decide_eq_true h
/-- the program's reader tells it: so does the law's -/
theorem cond_forward : ∀ (n : Nat) (s : Cs) (c : Cond) (r : Cs), cond n s = some (c, r) → ∀ n' m, om s < n' → s.length ≤ m → lcond n' m s = some (c, r) := by
  intro n
  induction n using Nat.strongRecOn with
  | _ n ih =>
    intro s c r h n' m ho hm
    have h0 := h
    rw [cond] at h
    by_cases hn : n = 0
    · rw [dif_pos hn] at h
      cases h
    rw [dif_neg hn] at h
    rw [lcond, dif_neg (by omega)]
    cases ht : takes (q "?") s with
    | some r1 =>
      rw [ht] at h
      dsimp only at h
      have e := takes_some.mp ht
      cases hw : word r1 with
      | none =>
        rw [hw] at h
        cases h
      | some p =>
        obtain ⟨w, r2⟩ := p
        rw [hw] at h
        have h' : some (Cond.ask w, r2) = some (c, r) := h
        rw [e, if_neg (by simp [q_yes, q_no, q_not, q_all, q_any, q_3f, q_28, q_29, q_2c20, q_not28, q_all28, q_any28, q_back, q_leave, q_do, q_call, q_if, q_while, q_5b, q_5d, q_3b20, q_20, q_do20, q_call20, q_leave20, q_if20, q_while20, q_3a20, q_20then20, q_20else20, q_0]), if_pos (by simp [q_yes, q_no, q_not, q_all, q_any, q_3f, q_28, q_29, q_2c20, q_not28, q_all28, q_any28, q_back, q_leave, q_do, q_call, q_if, q_while, q_5b, q_5d, q_3b20, q_20, q_do20, q_call20, q_leave20, q_if20, q_while20, q_3a20, q_20then20, q_20else20, q_0])]
        have e2 : (q "?" ++ r1).drop 1 = r1 := rfl
        rw [e2, hw]
        exact h'
    | none =>
      rw [ht] at h
      dsimp only at h
      cases hw : word s with
      | none =>
        rw [hw] at h
        cases h
      | some p =>
        obtain ⟨w, r1⟩ := p
        rw [hw] at h
        dsimp only at h
        obtain ⟨e1, e2, e3⟩ := word_some hw
        by_cases h1 : w = q "yes"
        · rw [if_pos h1] at h
          rw [e1, h1]
          rw [if_neg ?_, if_neg (by simp [q_yes, q_no, q_not, q_all, q_any, q_3f, q_28, q_29, q_2c20, q_not28, q_all28, q_any28, q_back, q_leave, q_do, q_call, q_if, q_while, q_5b, q_5d, q_3b20, q_20, q_do20, q_call20, q_leave20, q_if20, q_while20, q_3a20, q_20then20, q_20else20, q_0]), if_pos (by simp [q_yes, q_no, q_not, q_all, q_any, q_3f, q_28, q_29, q_2c20, q_not28, q_all28, q_any28, q_back, q_leave, q_do, q_call, q_if, q_while, q_5b, q_5d, q_3b20, q_20, q_do20, q_call20, q_leave20, q_if20, q_while20, q_3a20, q_20then20, q_20else20, q_0])]
          · exact h
          · rw [h1] at e1
            cases r1 with
            | nil => simp [q_yes, q_no, q_not, q_all, q_any, q_3f, q_28, q_29, q_2c20, q_not28, q_all28, q_any28, q_back, q_leave, q_do, q_call, q_if, q_while, q_5b, q_5d, q_3b20, q_20, q_do20, q_call20, q_leave20, q_if20, q_while20, q_3a20, q_20then20, q_20else20, q_0]
            | cons d r1 => simp [q_yes, q_no, q_not, q_all, q_any, q_3f, q_28, q_29, q_2c20, q_not28, q_all28, q_any28, q_back, q_leave, q_do, q_call, q_if, q_while, q_5b, q_5d, q_3b20, q_20, q_do20, q_call20, q_leave20, q_if20, q_while20, q_3a20, q_20then20, q_20else20, q_0]
        rw [if_neg h1] at h
        by_cases h2 : w = q "no"
        · rw [if_pos h2] at h
          rw [e1, h2]
          rw [if_neg ?_, if_neg (by simp [q_yes, q_no, q_not, q_all, q_any, q_3f, q_28, q_29, q_2c20, q_not28, q_all28, q_any28, q_back, q_leave, q_do, q_call, q_if, q_while, q_5b, q_5d, q_3b20, q_20, q_do20, q_call20, q_leave20, q_if20, q_while20, q_3a20, q_20then20, q_20else20, q_0]), if_neg ?_, if_pos (by simp [q_yes, q_no, q_not, q_all, q_any, q_3f, q_28, q_29, q_2c20, q_not28, q_all28, q_any28, q_back, q_leave, q_do, q_call, q_if, q_while, q_5b, q_5d, q_3b20, q_20, q_do20, q_call20, q_leave20, q_if20, q_while20, q_3a20, q_20then20, q_20else20, q_0])]
          · exact h
          · cases r1 with
            | nil => simp [q_yes, q_no, q_not, q_all, q_any, q_3f, q_28, q_29, q_2c20, q_not28, q_all28, q_any28, q_back, q_leave, q_do, q_call, q_if, q_while, q_5b, q_5d, q_3b20, q_20, q_do20, q_call20, q_leave20, q_if20, q_while20, q_3a20, q_20then20, q_20else20, q_0]
            | cons d r1 => simp [q_yes, q_no, q_not, q_all, q_any, q_3f, q_28, q_29, q_2c20, q_not28, q_all28, q_any28, q_back, q_leave, q_do, q_call, q_if, q_while, q_5b, q_5d, q_3b20, q_20, q_do20, q_call20, q_leave20, q_if20, q_while20, q_3a20, q_20then20, q_20else20, q_0]
          · cases r1 with
            | nil => simp [q_yes, q_no, q_not, q_all, q_any, q_3f, q_28, q_29, q_2c20, q_not28, q_all28, q_any28, q_back, q_leave, q_do, q_call, q_if, q_while, q_5b, q_5d, q_3b20, q_20, q_do20, q_call20, q_leave20, q_if20, q_while20, q_3a20, q_20then20, q_20else20, q_0]
            | cons d r1 =>
              cases r1 with
              | nil => simp [q_yes, q_no, q_not, q_all, q_any, q_3f, q_28, q_29, q_2c20, q_not28, q_all28, q_any28, q_back, q_leave, q_do, q_call, q_if, q_while, q_5b, q_5d, q_3b20, q_20, q_do20, q_call20, q_leave20, q_if20, q_while20, q_3a20, q_20then20, q_20else20, q_0]
              | cons d2 r1 =>
                intro z
                have hd : isLet d = false := e3 d rfl
                simp [q_yes, q_no, q_not, q_all, q_any, q_3f, q_28, q_29, q_2c20, q_not28, q_all28, q_any28, q_back, q_leave, q_do, q_call, q_if, q_while, q_5b, q_5d, q_3b20, q_20, q_do20, q_call20, q_leave20, q_if20, q_while20, q_3a20, q_20then20, q_20else20, q_0] at z
                obtain ⟨rfl, _⟩ := z
                exact absurd hd (by decide)
        rw [if_neg h2] at h
        by_cases h3 : w = q "not" ∨ w = q "all" ∨ w = q "any"
        · rw [if_pos h3] at h
          cases ht2 : takes (q "(") r1 with
          | none =>
            rw [ht2] at h
            cases h
          | some r2 =>
            rw [ht2] at h
            dsimp only at h
            cases hs : sev (cond (n - 3)) (q ")") (q ", ") (r2.length + 1) [] r2 with
            | none =>
              rw [hs] at h
              cases h
            | some p =>
              obtain ⟨cs, r3⟩ := p
              rw [hs] at h
              dsimp only at h
              have es : s = w ++ (q "(" ++ r2) := by rw [e1, takes_some.mp ht2]
              have lw : w.length = 3 := by rcases h3 with h3 | h3 | h3 <;> (rw [h3]; rfl)
              have e4 : s.take 4 = w ++ q "(" := (take_iff (by rw [List.length_append, lw]; rfl)).mpr (by
                have : s.drop 4 = r2 := by
                  rw [es, ← List.append_assoc]
                  exact List.drop_left' (by rw [List.length_append, lw]; rfl)
                rw [this, es, List.append_assoc])
              have d4 : s.drop 4 = r2 := by
                rw [es, ← List.append_assoc]
                exact List.drop_left' (by rw [List.length_append, lw]; rfl)
              have oq : om s = om w + (3 + om r2) := by
                rw [es, om_app, om_app]
                rfl
              have ls : s.length = 3 + (1 + r2.length) := by
                rw [es, List.length_append, List.length_append, lw]
                rfl
              have go : lall (lcond (n' - 3) m) (q ")") (q ", ") m r2 = some (cs, r3) :=
                sev_lall (f := Cond.sh) (G := fun _ => True) (M := m) (k := n' - 3) sh_ne (fun s d r hd => (cond_sound _ s d r hd).1) (fun s' d r' h1 h2 h3 _ => ih (n - 3) (by omega) s' d r' h3 (n' - 3) m h2 h1) hs (fun _ _ => trivial) (by omega) (by omega) (by omega)
              rw [e4, d4, go]
              rcases h3 with h3 | h3 | h3
              · subst h3
                rw [if_pos (by left; decide)]
                dsimp only
                rw [if_pos (by decide)]
                rw [if_pos rfl] at h
                exact h
              · subst h3
                rw [if_pos (by right; left; decide)]
                dsimp only
                rw [if_neg (by decide)]
                rw [if_neg (by decide)] at h
                exact h
              · subst h3
                rw [if_pos (by right; right; decide)]
                dsimp only
                rw [if_neg (by decide)]
                rw [if_neg (by decide)] at h
                exact h
        · rw [if_neg h3] at h
          cases h
end M
end

section
set_option linter.all false
set_option maxRecDepth 100000
set_option maxHeartbeats 4000000
namespace M
open L2 TL
theorem take_of {w s : Cs} {n : Nat} (h : s.take n = w) : s = w ++ s.drop n := by rw [← h, List.take_append_drop]
theorem takes_no {w a r : Cs} (h : ∀ x, a ++ r ≠ w ++ x) : takes w (a ++ r) = none := takes_none.mpr h
/-- the law's reader tells it: so does the program's -/
theorem cond_reverse : ∀ (n' : Nat) (m : Nat) (s : Cs) (c : Cond) (r : Cs), lcond n' m s = some (c, r) → nl r → ∀ n, om s < n → cond n s = some (c, r) := by
  intro n'
  induction n' using Nat.strongRecOn with
  | _ n' ih =>
    intro m s c r h hr n ho
    rw [lcond] at h
    by_cases hn : n' = 0
    · rw [dif_pos hn] at h
      cases h
    rw [dif_neg hn] at h
    by_cases h1 : s.take 4 = q "not(" ∨ s.take 4 = q "all(" ∨ s.take 4 = q "any("
    · rw [if_pos h1] at h
      cases hl : lall (lcond (n' - 3) m) (q ")") (q ", ") m (s.drop 4) with
      | none =>
        rw [hl] at h
        cases h
      | some p =>
        obtain ⟨cs, r3⟩ := p
        rw [hl] at h
        dsimp only at h
        have key : ∀ w : Cs, Nm w → w ++ q "(" = s.take 4 → om w = 0 → w.head? ≠ some 63 → w ≠ q "yes" → w ≠ q "no" → (w = q "not" ∨ w = q "all" ∨ w = q "any") →
            cond n s = (if w = q "not" then (match cs with
              | [c] => some (.neg c, r3)
              | _ => none) else some (.many (decide (w = q "all")) cs, r3)) := by
          intro w hw e o1 hq hy hno h3
          have es : s = w ++ (q "(" ++ s.drop 4) := by
            rw [← List.append_assoc, e, List.take_append_drop]
          have os : om s = om w + (3 + om (s.drop 4)) := by
            conv => lhs; rw [es, om_app, om_app]
            rfl
          obtain ⟨g1, _⟩ := lall_sev (e := q ")") (b := q ", ") (f := Cond.sh) (G := fun _ => True) (k := n - 3) (rd := cond (n - 3)) sh_ne (nl_cons (by decide)) (nl_cons (by decide)) (by decide) (by decide) (fun s d r hd => (cond_sound _ s d r hd).1)
            (fun s' d r' h1 h2 h3 => ⟨ih (n' - 3) (by omega) m s' d r' h2 h3 (n - 3) h1, trivial⟩) hl (by omega)
          rw [cond, dif_neg (by omega)]
          have t1 : takes (q "?") s = none := takes_none.mpr fun x z => by
            rw [es] at z
            cases w with
            | nil => exact absurd hw.pos (by decide)
            | cons d w =>
              have z2 : d :: (w ++ (q "(" ++ s.drop 4)) = 63 :: x := z
              injection z2 with z3 _
              exact hq (by rw [z3]; rfl)
          have t2 : word s = some (w, q "(" ++ s.drop 4) := by
            conv => lhs; rw [es]
            exact word_app hw (nl_cons (by decide))
          rw [t1, t2]
          dsimp only
          rw [if_neg hy, if_neg hno, if_pos h3, takes_self]
          dsimp only
          rw [g1] <;> rfl
        rcases h1 with h1 | h1 | h1
        · rw [h1, if_pos rfl] at h
          rw [key (q "not") (nm_q (by decide)) (by rw [h1]; decide) (by decide) (by decide) (by decide) (by decide) (by decide), if_pos rfl]
          exact h
        · rw [h1, if_neg (by decide)] at h
          rw [key (q "all") (nm_q (by decide)) (by rw [h1]; decide) (by decide) (by decide) (by decide) (by decide) (by decide), if_neg (by decide)]
          exact h
        · rw [h1, if_neg (by decide)] at h
          rw [key (q "any") (nm_q (by decide)) (by rw [h1]; decide) (by decide) (by decide) (by decide) (by decide) (by decide), if_neg (by decide)]
          exact h
    rw [if_neg h1] at h
    by_cases h2 : s.take 1 = q "?"
    · rw [if_pos h2] at h
      have e := take_of h2
      rw [cond, dif_neg (by omega), takes_some.mpr e]
      dsimp only
      cases hw : word (s.drop 1) with
      | none =>
        rw [hw] at h
        cases h
      | some p =>
        obtain ⟨w, r2⟩ := p
        rw [hw] at h
        exact h
    rw [if_neg h2] at h
    by_cases h3 : s.take 3 = q "yes"
    · rw [if_pos h3] at h
      obtain ⟨rfl, rfl⟩ := Prod.mk.inj (Option.some.inj h)
      have e := take_of h3
      have t2 : word s = some (q "yes", s.drop 3) := by
        conv => lhs; rw [e]
        exact word_app (nm_q (by decide)) hr
      have t1 : takes (q "?") s = none := takes_none.mpr fun x z => by
        rw [e] at z
        simp [q_yes, q_no, q_not, q_all, q_any, q_3f, q_28, q_29, q_2c20, q_not28, q_all28, q_any28, q_back, q_leave, q_do, q_call, q_if, q_while, q_5b, q_5d, q_3b20, q_20, q_do20, q_call20, q_leave20, q_if20, q_while20, q_3a20, q_20then20, q_20else20, q_0] at z
      rw [cond, dif_neg (by omega), t1, t2]
      dsimp only
      rw [if_pos rfl]
    rw [if_neg h3] at h
    by_cases h4 : s.take 2 = q "no"
    · rw [if_pos h4] at h
      obtain ⟨rfl, rfl⟩ := Prod.mk.inj (Option.some.inj h)
      have e := take_of h4
      have t2 : word s = some (q "no", s.drop 2) := by
        conv => lhs; rw [e]
        exact word_app (nm_q (by decide)) hr
      have t1 : takes (q "?") s = none := takes_none.mpr fun x z => by
        rw [e] at z
        simp [q_yes, q_no, q_not, q_all, q_any, q_3f, q_28, q_29, q_2c20, q_not28, q_all28, q_any28, q_back, q_leave, q_do, q_call, q_if, q_while, q_5b, q_5d, q_3b20, q_20, q_do20, q_call20, q_leave20, q_if20, q_while20, q_3a20, q_20then20, q_20else20, q_0] at z
      rw [cond, dif_neg (by omega), t1, t2]
      dsimp only
      rw [if_neg (by decide), if_pos rfl]
    · rw [if_neg h4] at h
      cases h
/-! ### parts -/
theorem part_sound : ∀ (n : Nat) (s : Cs) (p : Part) (r : Cs), part n s = some (p, r) → s = p.sh ++ r ∧ p.wf := by
  intro n
  induction n using Nat.strongRecOn with
  | _ n ih =>
    intro s p r h
    rw [part] at h
    by_cases hn : n = 0
    · rw [dif_pos hn] at h
      cases h
    rw [dif_neg hn] at h
    cases ht : takes (q "[") s with
    | some r1 =>
      rw [ht] at h
      dsimp only at h
      cases hs : sev (part (n - 3)) (q "]") (q "; ") (r1.length + 1) [] r1 with
      | none =>
        rw [hs] at h
        cases h
      | some z =>
        obtain ⟨ps, r2⟩ := z
        rw [hs] at h
        obtain ⟨rfl, rfl⟩ := Prod.mk.inj (Option.some.inj h)
        obtain ⟨es, i1, i2, i3⟩ := sev_sound (f := Part.sh) (G := Part.wf) (fun s d r hd => ih (n - 3) (by omega) s d r hd) _ [] r1 ps r2 hs
        have i1' : ps = es := i1
        have i2' : r1 = joinL (q "; ") (es.map Part.sh) ++ (q "]" ++ r2) := i2
        subst i1'
        refine ⟨?_, (wfP_iff ps).mpr i3⟩
        rw [takes_some.mp ht, i2']
        show _ = (q "[" ++ (joinL (q "; ") (shP ps) ++ q "]")) ++ r2
        rw [shP_map]
        simp only [List.append_assoc]
    | none =>
      rw [ht] at h
      dsimp only at h
      cases hw : word s with
      | none =>
        rw [hw] at h
        cases h
      | some z =>
        obtain ⟨w, r1⟩ := z
        rw [hw] at h
        dsimp only at h
        obtain ⟨e1, e2, e3⟩ := word_some hw
        by_cases h1 : w = q "back"
        · rw [if_pos h1] at h
          obtain ⟨rfl, rfl⟩ := Prod.mk.inj (Option.some.inj h)
          exact ⟨by rw [e1, h1]; rfl, trivial⟩
        rw [if_neg h1] at h
        cases ht2 : takes (q " ") r1 with
        | none =>
          rw [ht2] at h
          cases h
        | some r2 =>
          rw [ht2] at h
          dsimp only at h
          have es : s = w ++ (q " " ++ r2) := by rw [e1, takes_some.mp ht2]
          by_cases h2 : w = q "leave"
          · rw [if_pos h2] at h
            cases hk : number r2 with
            | none =>
              rw [hk] at h
              cases h
            | some z =>
              obtain ⟨k, r3⟩ := z
              rw [hk] at h
              obtain ⟨rfl, rfl⟩ := Prod.mk.inj (Option.some.inj h)
              refine ⟨?_, (number_some hk).2.2⟩
              rw [es, h2, (number_some hk).1]
              show _ = (q "leave" ++ (q " " ++ numL k)) ++ r3
              simp only [List.append_assoc]
          rw [if_neg h2] at h
          by_cases h3 : w = q "do"
          · rw [if_pos h3] at h
            cases hk : word r2 with
            | none =>
              rw [hk] at h
              cases h
            | some z =>
              obtain ⟨k, r3⟩ := z
              rw [hk] at h
              obtain ⟨rfl, rfl⟩ := Prod.mk.inj (Option.some.inj h)
              obtain ⟨k1, k2, _⟩ := word_some hk
              refine ⟨?_, k2⟩
              rw [es, h3, k1]
              show _ = (q "do" ++ (q " " ++ k)) ++ r3
              simp only [List.append_assoc]
          rw [if_neg h3] at h
          by_cases h4 : w = q "call"
          · rw [if_pos h4] at h
            cases hk : word r2 with
            | none =>
              rw [hk] at h
              cases h
            | some z =>
              obtain ⟨k, r3⟩ := z
              rw [hk] at h
              obtain ⟨rfl, rfl⟩ := Prod.mk.inj (Option.some.inj h)
              obtain ⟨k1, k2, _⟩ := word_some hk
              refine ⟨?_, k2⟩
              rw [es, h4, k1]
              show _ = (q "call" ++ (q " " ++ k)) ++ r3
              simp only [List.append_assoc]
          rw [if_neg h4] at h
          by_cases h5 : w = q "if" ∨ w = q "while"
          · rw [if_pos h5] at h
            cases hc : cond (n - 1) r2 with
            | none =>
              rw [hc] at h
              cases h
            | some z =>
              obtain ⟨c, r3⟩ := z
              rw [hc] at h
              dsimp only at h
              obtain ⟨c1, c2⟩ := cond_sound _ _ _ _ hc
              by_cases h6 : w = q "while"
              · rw [if_pos h6] at h
                cases ht3 : takes (q ": ") r3 with
                | none =>
                  rw [ht3] at h
                  cases h
                | some r4 =>
                  rw [ht3] at h
                  dsimp only at h
                  cases hp : part (n - 1) r4 with
                  | none =>
                    rw [hp] at h
                    cases h
                  | some z =>
                    obtain ⟨p1, r5⟩ := z
                    rw [hp] at h
                    obtain ⟨rfl, rfl⟩ := Prod.mk.inj (Option.some.inj h)
                    obtain ⟨p2, p3⟩ := ih (n - 1) (by omega) _ _ _ hp
                    refine ⟨?_, c2, p3⟩
                    rw [es, h6, c1, takes_some.mp ht3, p2]
                    show _ = (q "while " ++ (c.sh ++ (q ": " ++ p1.sh))) ++ r5
                    simp only [List.append_assoc]
                    rfl
              · rw [if_neg h6] at h
                have hif : w = q "if" := h5.resolve_right h6
                cases ht3 : takes (q " then ") r3 with
                | none =>
                  rw [ht3] at h
                  cases h
                | some r4 =>
                  rw [ht3] at h
                  dsimp only at h
                  cases hp : part (n - 1) r4 with
                  | none =>
                    rw [hp] at h
                    cases h
                  | some z =>
                    obtain ⟨p1, r5⟩ := z
                    rw [hp] at h
                    dsimp only at h
                    obtain ⟨p2, p3⟩ := ih (n - 1) (by omega) _ _ _ hp
                    cases ht4 : takes (q " else ") r5 with
                    | none =>
                      rw [ht4] at h
                      cases h
                    | some r6 =>
                      rw [ht4] at h
                      dsimp only at h
                      cases hp2 : part (n - 1) r6 with
                      | none =>
                        rw [hp2] at h
                        cases h
                      | some z =>
                        obtain ⟨p4, r7⟩ := z
                        rw [hp2] at h
                        obtain ⟨rfl, rfl⟩ := Prod.mk.inj (Option.some.inj h)
                        obtain ⟨p5, p6⟩ := ih (n - 1) (by omega) _ _ _ hp2
                        refine ⟨?_, c2, p3, p6⟩
                        rw [es, hif, c1, takes_some.mp ht3, p2, takes_some.mp ht4, p5]
                        show _ = (q "if " ++ (c.sh ++ (q " then " ++ (p1.sh ++ (q " else " ++ p4.sh))))) ++ r7
                        simp only [List.append_assoc]
                        rfl
          · rw [if_neg h5] at h
            cases h
end M
end

section
set_option linter.all false
set_option maxRecDepth 100000
set_option maxHeartbeats 4000000
namespace M
open L2 TL
theorem om_le {a b s : Cs} (h : s = a ++ b) : om b ≤ om s := by
  rw [h, om_app]
  omega
theorem len_le {a b s : Cs} (h : s = a ++ b) : b.length ≤ s.length := by
  rw [h, List.length_append]
  omega
/-- the program's reader tells a part without leave 0: so does the law's -/
theorem part_forward : ∀ (n : Nat) (s : Cs) (p : Part) (r : Cs), part n s = some (p, r) → p.pos = true → ∀ n' m, om s < n' → s.length ≤ m → lpart n' m s = some (p, r) := by
  intro n
  induction n using Nat.strongRecOn with
  | _ n ih =>
    intro s p r h hpos n' m ho hm
    rw [part] at h
    by_cases hn : n = 0
    · rw [dif_pos hn] at h
      cases h
    rw [dif_neg hn] at h
    cases ht : takes (q "[") s with
    | some r1 =>
      rw [ht] at h
      dsimp only at h
      have e := takes_some.mp ht
      cases hs : sev (part (n - 3)) (q "]") (q "; ") (r1.length + 1) [] r1 with
      | none =>
        rw [hs] at h
        cases h
      | some z =>
        obtain ⟨ps, r2⟩ := z
        rw [hs] at h
        obtain ⟨rfl, rfl⟩ := Prod.mk.inj (Option.some.inj h)
        have os : om s = 3 + om r1 := by rw [e, om_app]; rfl
        have ls : s.length = 1 + r1.length := by rw [e, List.length_append]; rfl
        have go : lall (lpart (n' - 3) m) (q "]") (q "; ") m r1 = some (ps, r2) :=
          sev_lall (f := Part.sh) (G := fun p => p.pos = true) (M := m) (k := n' - 3) shp_ne (fun s d r hd => (part_sound _ s d r hd).1) (fun s' d r' h1 h2 h3 hg => ih (n - 3) (by omega) s' d r' h3 hg (n' - 3) m h2 h1) hs ((posP_iff ps).mp hpos) (by omega) (by omega) (by omega)
        rw [lpart, dif_neg (by omega), e, if_neg (by simp [q_yes, q_no, q_not, q_all, q_any, q_3f, q_28, q_29, q_2c20, q_not28, q_all28, q_any28, q_back, q_leave, q_do, q_call, q_if, q_while, q_5b, q_5d, q_3b20, q_20, q_do20, q_call20, q_leave20, q_if20, q_while20, q_3a20, q_20then20, q_20else20, q_0]), if_neg (by simp [q_yes, q_no, q_not, q_all, q_any, q_3f, q_28, q_29, q_2c20, q_not28, q_all28, q_any28, q_back, q_leave, q_do, q_call, q_if, q_while, q_5b, q_5d, q_3b20, q_20, q_do20, q_call20, q_leave20, q_if20, q_while20, q_3a20, q_20then20, q_20else20, q_0]), if_neg (by simp [q_yes, q_no, q_not, q_all, q_any, q_3f, q_28, q_29, q_2c20, q_not28, q_all28, q_any28, q_back, q_leave, q_do, q_call, q_if, q_while, q_5b, q_5d, q_3b20, q_20, q_do20, q_call20, q_leave20, q_if20, q_while20, q_3a20, q_20then20, q_20else20, q_0]), if_neg (by simp [q_yes, q_no, q_not, q_all, q_any, q_3f, q_28, q_29, q_2c20, q_not28, q_all28, q_any28, q_back, q_leave, q_do, q_call, q_if, q_while, q_5b, q_5d, q_3b20, q_20, q_do20, q_call20, q_leave20, q_if20, q_while20, q_3a20, q_20then20, q_20else20, q_0]), if_pos (by simp [q_yes, q_no, q_not, q_all, q_any, q_3f, q_28, q_29, q_2c20, q_not28, q_all28, q_any28, q_back, q_leave, q_do, q_call, q_if, q_while, q_5b, q_5d, q_3b20, q_20, q_do20, q_call20, q_leave20, q_if20, q_while20, q_3a20, q_20then20, q_20else20, q_0])]
        have e2 : (q "[" ++ r1).drop 1 = r1 := rfl
        rw [e2, go]
    | none =>
      rw [ht] at h
      dsimp only at h
      cases hw : word s with
      | none =>
        rw [hw] at h
        cases h
      | some z =>
        obtain ⟨w, r1⟩ := z
        rw [hw] at h
        dsimp only at h
        obtain ⟨e1, e2, e3⟩ := word_some hw
        by_cases h1 : w = q "back"
        · rw [if_pos h1] at h
          rw [lpart, dif_neg (by omega), e1, h1, if_pos (by simp [q_yes, q_no, q_not, q_all, q_any, q_3f, q_28, q_29, q_2c20, q_not28, q_all28, q_any28, q_back, q_leave, q_do, q_call, q_if, q_while, q_5b, q_5d, q_3b20, q_20, q_do20, q_call20, q_leave20, q_if20, q_while20, q_3a20, q_20then20, q_20else20, q_0])]
          exact h
        rw [if_neg h1] at h
        cases ht2 : takes (q " ") r1 with
        | none =>
          rw [ht2] at h
          cases h
        | some r2 =>
          rw [ht2] at h
          dsimp only at h
          have es : s = w ++ (q " " ++ r2) := by rw [e1, takes_some.mp ht2]
          by_cases h2 : w = q "leave"
          · rw [if_pos h2] at h
            have ex : s = q "leave " ++ r2 := by rw [es, h2]; rfl
            have d6 : s.drop 6 = r2 := by rw [ex]; rfl
            cases hk : number r2 with
            | none =>
              rw [hk] at h
              cases h
            | some z =>
              obtain ⟨k, r3⟩ := z
              rw [hk] at h
              obtain ⟨rfl, rfl⟩ := Prod.mk.inj (Option.some.inj h)
              have hk0 : ¬ k = 0 := by
                have : decide (0 < k) = true := hpos
                have := of_decide_eq_true this
                omega
              rw [lpart, dif_neg (by omega), d6, ex, if_neg (by simp [q_yes, q_no, q_not, q_all, q_any, q_3f, q_28, q_29, q_2c20, q_not28, q_all28, q_any28, q_back, q_leave, q_do, q_call, q_if, q_while, q_5b, q_5d, q_3b20, q_20, q_do20, q_call20, q_leave20, q_if20, q_while20, q_3a20, q_20then20, q_20else20, q_0]), if_neg (by simp [q_yes, q_no, q_not, q_all, q_any, q_3f, q_28, q_29, q_2c20, q_not28, q_all28, q_any28, q_back, q_leave, q_do, q_call, q_if, q_while, q_5b, q_5d, q_3b20, q_20, q_do20, q_call20, q_leave20, q_if20, q_while20, q_3a20, q_20then20, q_20else20, q_0]), if_neg (by simp [q_yes, q_no, q_not, q_all, q_any, q_3f, q_28, q_29, q_2c20, q_not28, q_all28, q_any28, q_back, q_leave, q_do, q_call, q_if, q_while, q_5b, q_5d, q_3b20, q_20, q_do20, q_call20, q_leave20, q_if20, q_while20, q_3a20, q_20then20, q_20else20, q_0]), if_pos (by simp [q_yes, q_no, q_not, q_all, q_any, q_3f, q_28, q_29, q_2c20, q_not28, q_all28, q_any28, q_back, q_leave, q_do, q_call, q_if, q_while, q_5b, q_5d, q_3b20, q_20, q_do20, q_call20, q_leave20, q_if20, q_while20, q_3a20, q_20then20, q_20else20, q_0]), hk]
              dsimp only
              rw [if_neg hk0]
          rw [if_neg h2] at h
          by_cases h3 : w = q "do"
          · rw [if_pos h3] at h
            have ex : s = q "do " ++ r2 := by rw [es, h3]; rfl
            have d3 : s.drop 3 = r2 := by rw [ex]; rfl
            rw [lpart, dif_neg (by omega), d3, ex, if_neg ?_, if_pos (by simp [q_yes, q_no, q_not, q_all, q_any, q_3f, q_28, q_29, q_2c20, q_not28, q_all28, q_any28, q_back, q_leave, q_do, q_call, q_if, q_while, q_5b, q_5d, q_3b20, q_20, q_do20, q_call20, q_leave20, q_if20, q_while20, q_3a20, q_20then20, q_20else20, q_0])]
            · exact h
            · cases r2 <;> simp [q_yes, q_no, q_not, q_all, q_any, q_3f, q_28, q_29, q_2c20, q_not28, q_all28, q_any28, q_back, q_leave, q_do, q_call, q_if, q_while, q_5b, q_5d, q_3b20, q_20, q_do20, q_call20, q_leave20, q_if20, q_while20, q_3a20, q_20then20, q_20else20, q_0]
          rw [if_neg h3] at h
          by_cases h4 : w = q "call"
          · rw [if_pos h4] at h
            have ex : s = q "call " ++ r2 := by rw [es, h4]; rfl
            have d5 : s.drop 5 = r2 := by rw [ex]; rfl
            rw [lpart, dif_neg (by omega), d5, ex, if_neg (by simp [q_yes, q_no, q_not, q_all, q_any, q_3f, q_28, q_29, q_2c20, q_not28, q_all28, q_any28, q_back, q_leave, q_do, q_call, q_if, q_while, q_5b, q_5d, q_3b20, q_20, q_do20, q_call20, q_leave20, q_if20, q_while20, q_3a20, q_20then20, q_20else20, q_0]), if_neg (by simp [q_yes, q_no, q_not, q_all, q_any, q_3f, q_28, q_29, q_2c20, q_not28, q_all28, q_any28, q_back, q_leave, q_do, q_call, q_if, q_while, q_5b, q_5d, q_3b20, q_20, q_do20, q_call20, q_leave20, q_if20, q_while20, q_3a20, q_20then20, q_20else20, q_0]), if_pos (by simp [q_yes, q_no, q_not, q_all, q_any, q_3f, q_28, q_29, q_2c20, q_not28, q_all28, q_any28, q_back, q_leave, q_do, q_call, q_if, q_while, q_5b, q_5d, q_3b20, q_20, q_do20, q_call20, q_leave20, q_if20, q_while20, q_3a20, q_20then20, q_20else20, q_0])]
            exact h
          rw [if_neg h4] at h
          by_cases h5 : w = q "if" ∨ w = q "while"
          · rw [if_pos h5] at h
            cases hc : cond (n - 1) r2 with
            | none =>
              rw [hc] at h
              cases h
            | some z =>
              obtain ⟨c, r3⟩ := z
              rw [hc] at h
              dsimp only at h
              obtain ⟨c1, c2⟩ := cond_sound _ _ _ _ hc
              have o2 : om s = om w + (1 + om r2) := by rw [es, om_app, om_app]; rfl
              have l2 : r2.length ≤ s.length := by rw [es, List.length_append, List.length_append]; omega
              have o3 := om_le c1
              have l3 := len_le c1
              have fc : lcond (n' - 1) m r2 = some (c, r3) := cond_forward _ _ _ _ hc _ _ (by omega) (by omega)
              by_cases h6 : w = q "while"
              · rw [if_pos h6] at h
                cases ht3 : takes (q ": ") r3 with
                | none =>
                  rw [ht3] at h
                  cases h
                | some r4 =>
                  rw [ht3] at h
                  dsimp only at h
                  have o4 := om_le (takes_some.mp ht3)
                  have l4 := len_le (takes_some.mp ht3)
                  cases hp : part (n - 1) r4 with
                  | none =>
                    rw [hp] at h
                    cases h
                  | some z =>
                    obtain ⟨p1, r5⟩ := z
                    rw [hp] at h
                    obtain ⟨rfl, rfl⟩ := Prod.mk.inj (Option.some.inj h)
                    have fp := ih (n - 1) (by omega) _ _ _ hp hpos (n' - 1) m (by omega) (by omega)
                    have ex : s = q "while " ++ r2 := by rw [es, h6]; rfl
                    have d6 : s.drop 6 = r2 := by rw [ex]; rfl
                    rw [lpart, dif_neg (by omega), d6, ex, if_neg (by simp [q_yes, q_no, q_not, q_all, q_any, q_3f, q_28, q_29, q_2c20, q_not28, q_all28, q_any28, q_back, q_leave, q_do, q_call, q_if, q_while, q_5b, q_5d, q_3b20, q_20, q_do20, q_call20, q_leave20, q_if20, q_while20, q_3a20, q_20then20, q_20else20, q_0]), if_neg (by simp [q_yes, q_no, q_not, q_all, q_any, q_3f, q_28, q_29, q_2c20, q_not28, q_all28, q_any28, q_back, q_leave, q_do, q_call, q_if, q_while, q_5b, q_5d, q_3b20, q_20, q_do20, q_call20, q_leave20, q_if20, q_while20, q_3a20, q_20then20, q_20else20, q_0]), if_neg (by simp [q_yes, q_no, q_not, q_all, q_any, q_3f, q_28, q_29, q_2c20, q_not28, q_all28, q_any28, q_back, q_leave, q_do, q_call, q_if, q_while, q_5b, q_5d, q_3b20, q_20, q_do20, q_call20, q_leave20, q_if20, q_while20, q_3a20, q_20then20, q_20else20, q_0]), if_neg (by simp [q_yes, q_no, q_not, q_all, q_any, q_3f, q_28, q_29, q_2c20, q_not28, q_all28, q_any28, q_back, q_leave, q_do, q_call, q_if, q_while, q_5b, q_5d, q_3b20, q_20, q_do20, q_call20, q_leave20, q_if20, q_while20, q_3a20, q_20then20, q_20else20, q_0]), if_neg (by simp [q_yes, q_no, q_not, q_all, q_any, q_3f, q_28, q_29, q_2c20, q_not28, q_all28, q_any28, q_back, q_leave, q_do, q_call, q_if, q_while, q_5b, q_5d, q_3b20, q_20, q_do20, q_call20, q_leave20, q_if20, q_while20, q_3a20, q_20then20, q_20else20, q_0]), if_neg (by simp [q_yes, q_no, q_not, q_all, q_any, q_3f, q_28, q_29, q_2c20, q_not28, q_all28, q_any28, q_back, q_leave, q_do, q_call, q_if, q_while, q_5b, q_5d, q_3b20, q_20, q_do20, q_call20, q_leave20, q_if20, q_while20, q_3a20, q_20then20, q_20else20, q_0]), if_pos (by simp [q_yes, q_no, q_not, q_all, q_any, q_3f, q_28, q_29, q_2c20, q_not28, q_all28, q_any28, q_back, q_leave, q_do, q_call, q_if, q_while, q_5b, q_5d, q_3b20, q_20, q_do20, q_call20, q_leave20, q_if20, q_while20, q_3a20, q_20then20, q_20else20, q_0]), fc]
                    dsimp only
                    rw [ht3]
                    dsimp only
                    rw [fp]
              · rw [if_neg h6] at h
                have hif : w = q "if" := h5.resolve_right h6
                cases ht3 : takes (q " then ") r3 with
                | none =>
                  rw [ht3] at h
                  cases h
                | some r4 =>
                  rw [ht3] at h
                  dsimp only at h
                  have o4 : om r3 = 2 + om r4 := by rw [takes_some.mp ht3, om_app]; rfl
                  have l4 := len_le (takes_some.mp ht3)
                  cases hp : part (n - 1) r4 with
                  | none =>
                    rw [hp] at h
                    cases h
                  | some z =>
                    obtain ⟨p1, r5⟩ := z
                    rw [hp] at h
                    dsimp only at h
                    obtain ⟨s1, _⟩ := part_sound _ _ _ _ hp
                    have o5 := om_le s1
                    have l5 := len_le s1
                    cases ht4 : takes (q " else ") r5 with
                    | none =>
                      rw [ht4] at h
                      cases h
                    | some r6 =>
                      rw [ht4] at h
                      dsimp only at h
                      have o6 := om_le (takes_some.mp ht4)
                      have l6 := len_le (takes_some.mp ht4)
                      cases hp2 : part (n - 1) r6 with
                      | none =>
                        rw [hp2] at h
                        cases h
                      | some z =>
                        obtain ⟨p4, r7⟩ := z
                        rw [hp2] at h
                        obtain ⟨rfl, rfl⟩ := Prod.mk.inj (Option.some.inj h)
                        have hpos' : (p1.pos && p4.pos) = true := hpos
                        obtain ⟨g1, g2⟩ := Bool.and_eq_true_iff.mp hpos'
                        have fp := ih (n - 1) (by omega) _ _ _ hp g1 (n' - 2) m (by omega) (by omega)
                        have fp2 := ih (n - 1) (by omega) _ _ _ hp2 g2 (n' - 2) m (by omega) (by omega)
                        have ex : s = q "if " ++ r2 := by rw [es, hif]; rfl
                        have d3 : s.drop 3 = r2 := by rw [ex]; rfl
                        rw [lpart, dif_neg (by omega), d3, ex, if_neg ?_, if_neg (by simp [q_yes, q_no, q_not, q_all, q_any, q_3f, q_28, q_29, q_2c20, q_not28, q_all28, q_any28, q_back, q_leave, q_do, q_call, q_if, q_while, q_5b, q_5d, q_3b20, q_20, q_do20, q_call20, q_leave20, q_if20, q_while20, q_3a20, q_20then20, q_20else20, q_0]), if_neg ?_, if_neg ?_, if_neg (by simp [q_yes, q_no, q_not, q_all, q_any, q_3f, q_28, q_29, q_2c20, q_not28, q_all28, q_any28, q_back, q_leave, q_do, q_call, q_if, q_while, q_5b, q_5d, q_3b20, q_20, q_do20, q_call20, q_leave20, q_if20, q_while20, q_3a20, q_20then20, q_20else20, q_0]), if_pos (by simp [q_yes, q_no, q_not, q_all, q_any, q_3f, q_28, q_29, q_2c20, q_not28, q_all28, q_any28, q_back, q_leave, q_do, q_call, q_if, q_while, q_5b, q_5d, q_3b20, q_20, q_do20, q_call20, q_leave20, q_if20, q_while20, q_3a20, q_20then20, q_20else20, q_0]), fc]
                        · dsimp only
                          rw [ht3]
                          dsimp only
                          rw [fp]
                          dsimp only
                          rw [ht4]
                          dsimp only
                          rw [fp2]
                        · cases r2 <;> simp [q_yes, q_no, q_not, q_all, q_any, q_3f, q_28, q_29, q_2c20, q_not28, q_all28, q_any28, q_back, q_leave, q_do, q_call, q_if, q_while, q_5b, q_5d, q_3b20, q_20, q_do20, q_call20, q_leave20, q_if20, q_while20, q_3a20, q_20then20, q_20else20, q_0]
                        · cases r2 <;> simp [q_yes, q_no, q_not, q_all, q_any, q_3f, q_28, q_29, q_2c20, q_not28, q_all28, q_any28, q_back, q_leave, q_do, q_call, q_if, q_while, q_5b, q_5d, q_3b20, q_20, q_do20, q_call20, q_leave20, q_if20, q_while20, q_3a20, q_20then20, q_20else20, q_0]
                        · cases r2 <;> simp [q_yes, q_no, q_not, q_all, q_any, q_3f, q_28, q_29, q_2c20, q_not28, q_all28, q_any28, q_back, q_leave, q_do, q_call, q_if, q_while, q_5b, q_5d, q_3b20, q_20, q_do20, q_call20, q_leave20, q_if20, q_while20, q_3a20, q_20then20, q_20else20, q_0]
          · rw [if_neg h5] at h
            cases h
/-- the law's reader tells it: so does the program's, and it has no leave 0 -/
theorem part_reverse : ∀ (n' : Nat) (m : Nat) (s : Cs) (p : Part) (r : Cs), lpart n' m s = some (p, r) → nl r → ∀ n, om s < n → part n s = some (p, r) ∧ p.pos = true := by
  intro n'
  induction n' using Nat.strongRecOn with
  | _ n' ih =>
    intro m s p r h hr n ho
    rw [lpart] at h
    by_cases hn : n' = 0
    · rw [dif_pos hn] at h
      cases h
    rw [dif_neg hn] at h
    rw [part, dif_neg (by omega)]
    -- the first word of s
    have first : ∀ (w : String) (x : Cs), s = q w ++ x → nl x → (decide (0 < (q w).length) && decide ((q w).length ≤ 8) && (q w).all isLet) = true → takes (q "[") s = none ∧ word s = some (q w, x) := fun w x e hx hw => by
      refine ⟨takes_none.mpr fun y z => ?_, by rw [e]; exact word_app (nm_q hw) hx⟩
      have hn := nm_q hw
      rw [e] at z
      cases ew : q w with
      | nil =>
        rw [ew] at hn
        exact absurd hn.pos (by decide)
      | cons d u =>
        rw [ew] at z hn
        have z2 : d :: (u ++ x) = 91 :: y := z
        injection z2 with z3 _
        have := hn.all d (List.mem_cons_self ..)
        rw [z3] at this
        exact absurd this (by decide)
    have sp : ∀ x : Cs, nl (q " " ++ x) := fun x => nl_cons (by decide)
    by_cases h1 : s.take 4 = q "back"
    · rw [if_pos h1] at h
      obtain ⟨rfl, rfl⟩ := Prod.mk.inj (Option.some.inj h)
      obtain ⟨f1, f2⟩ := first "back" _ (take_of h1) hr (by decide)
      rw [f1, f2]
      dsimp only
      rw [if_pos rfl]
      exact ⟨rfl, rfl⟩
    rw [if_neg h1] at h
    by_cases h2 : s.take 3 = q "do "
    · rw [if_pos h2] at h
      have e : s = q "do" ++ (q " " ++ s.drop 3) := take_of h2
      obtain ⟨f1, f2⟩ := first "do" _ e (sp _) (by decide)
      rw [f1, f2]
      dsimp only
      rw [if_neg (by decide), takes_self]
      dsimp only
      rw [if_neg (by decide), if_pos rfl]
      cases hw : word (s.drop 3) with
      | none =>
        rw [hw] at h
        cases h
      | some z =>
        obtain ⟨x, r2⟩ := z
        rw [hw] at h
        obtain ⟨rfl, rfl⟩ := Prod.mk.inj (Option.some.inj h)
        exact ⟨rfl, rfl⟩
    rw [if_neg h2] at h
    by_cases h3 : s.take 5 = q "call "
    · rw [if_pos h3] at h
      have e : s = q "call" ++ (q " " ++ s.drop 5) := take_of h3
      obtain ⟨f1, f2⟩ := first "call" _ e (sp _) (by decide)
      rw [f1, f2]
      dsimp only
      rw [if_neg (by decide), takes_self]
      dsimp only
      rw [if_neg (by decide), if_neg (by decide), if_pos rfl]
      cases hw : word (s.drop 5) with
      | none =>
        rw [hw] at h
        cases h
      | some z =>
        obtain ⟨x, r2⟩ := z
        rw [hw] at h
        obtain ⟨rfl, rfl⟩ := Prod.mk.inj (Option.some.inj h)
        exact ⟨rfl, rfl⟩
    rw [if_neg h3] at h
    by_cases h4 : s.take 6 = q "leave "
    · rw [if_pos h4] at h
      have e : s = q "leave" ++ (q " " ++ s.drop 6) := take_of h4
      obtain ⟨f1, f2⟩ := first "leave" _ e (sp _) (by decide)
      rw [f1, f2]
      dsimp only
      rw [if_neg (by decide), takes_self]
      dsimp only
      rw [if_pos rfl]
      cases hw : number (s.drop 6) with
      | none =>
        rw [hw] at h
        cases h
      | some z =>
        obtain ⟨k, r2⟩ := z
        rw [hw] at h
        dsimp only at h
        by_cases hk : k = 0
        · rw [if_pos hk] at h
          cases h
        · rw [if_neg hk] at h
          obtain ⟨rfl, rfl⟩ := Prod.mk.inj (Option.some.inj h)
          exact ⟨rfl, decide_eq_true (by omega)⟩
    rw [if_neg h4] at h
    by_cases h5 : s.take 1 = q "["
    · rw [if_pos h5] at h
      have e := take_of h5
      have os : om s = 3 + om (s.drop 1) := by
        conv => lhs; rw [e, om_app]
        rfl
      rw [takes_some.mpr e]
      dsimp only
      cases hl : lall (lpart (n' - 3) m) (q "]") (q "; ") m (s.drop 1) with
      | none =>
        rw [hl] at h
        cases h
      | some z =>
        obtain ⟨ps, r2⟩ := z
        rw [hl] at h
        obtain ⟨rfl, rfl⟩ := Prod.mk.inj (Option.some.inj h)
        obtain ⟨g1, g2⟩ := lall_sev (e := q "]") (b := q "; ") (f := Part.sh) (G := fun p => p.pos = true) (k := n - 3) (rd := part (n - 3)) shp_ne (nl_cons (by decide)) (nl_cons (by decide)) (by decide) (by decide) (fun s d r hd => (part_sound _ s d r hd).1)
            (fun s' d r' h1 h2 h3 => ih (n' - 3) (by omega) m s' d r' h2 h3 (n - 3) h1) hl (by omega)
        rw [g1]
        exact ⟨rfl, (posP_iff ps).mpr g2⟩
    rw [if_neg h5] at h
    by_cases h6 : s.take 3 = q "if "
    · rw [if_pos h6] at h
      have e : s = q "if" ++ (q " " ++ s.drop 3) := take_of h6
      have os : om s = 1 + om (s.drop 3) := by
        conv => lhs; rw [e, om_app, om_app]
        have a1 : om (q "if") = 0 := by decide
        have a2 : om (q " ") = 1 := by decide
        omega
      obtain ⟨f1, f2⟩ := first "if" _ e (sp _) (by decide)
      rw [f1, f2]
      dsimp only
      rw [if_neg (by decide), takes_self]
      dsimp only
      rw [if_neg (by decide), if_neg (by decide), if_neg (by decide), if_pos (by left; rfl)]
      cases hc : lcond (n' - 1) m (s.drop 3) with
      | none =>
        rw [hc] at h
        cases h
      | some z =>
        obtain ⟨c, r2⟩ := z
        rw [hc] at h
        dsimp only at h
        cases ht : takes (q " then ") r2 with
        | none =>
          rw [ht] at h
          cases h
        | some r3 =>
          rw [ht] at h
          dsimp only at h
          have e2 := takes_some.mp ht
          have c1 := cond_reverse _ _ _ _ _ hc (by rw [e2]; exact nl_cons (by decide)) (n - 1) (by omega)
          have o2 := om_le (cond_sound _ _ _ _ c1).1
          have o3 := om_le e2
          rw [c1]
          dsimp only
          rw [if_neg (by decide), ht]
          dsimp only
          cases hp : lpart (n' - 2) m r3 with
          | none =>
            rw [hp] at h
            cases h
          | some z =>
            obtain ⟨p1, r4⟩ := z
            rw [hp] at h
            dsimp only at h
            cases ht2 : takes (q " else ") r4 with
            | none =>
              rw [ht2] at h
              cases h
            | some r5 =>
              rw [ht2] at h
              dsimp only at h
              have e3 := takes_some.mp ht2
              obtain ⟨p2, p3⟩ := ih (n' - 2) (by omega) m _ _ _ hp (by rw [e3]; exact nl_cons (by decide)) (n - 1) (by omega)
              have o4 := om_le (part_sound _ _ _ _ p2).1
              have o5 := om_le e3
              rw [p2]
              dsimp only
              rw [ht2]
              dsimp only
              cases hp2 : lpart (n' - 2) m r5 with
              | none =>
                rw [hp2] at h
                cases h
              | some z =>
                obtain ⟨p4, r6⟩ := z
                rw [hp2] at h
                obtain ⟨rfl, rfl⟩ := Prod.mk.inj (Option.some.inj h)
                obtain ⟨p5, p6⟩ := ih (n' - 2) (by omega) m _ _ _ hp2 hr (n - 1) (by omega)
                rw [p5]
                exact ⟨rfl, by show (p1.pos && p4.pos) = true; rw [p3, p6]; rfl⟩
    rw [if_neg h6] at h
    by_cases h7 : s.take 6 = q "while "
    · rw [if_pos h7] at h
      have e : s = q "while" ++ (q " " ++ s.drop 6) := take_of h7
      have os : om s = 1 + om (s.drop 6) := by
        conv => lhs; rw [e, om_app, om_app]
        have a1 : om (q "while") = 0 := by decide
        have a2 : om (q " ") = 1 := by decide
        omega
      obtain ⟨f1, f2⟩ := first "while" _ e (sp _) (by decide)
      rw [f1, f2]
      dsimp only
      rw [if_neg (by decide), takes_self]
      dsimp only
      rw [if_neg (by decide), if_neg (by decide), if_neg (by decide), if_pos (by right; rfl)]
      cases hc : lcond (n' - 1) m (s.drop 6) with
      | none =>
        rw [hc] at h
        cases h
      | some z =>
        obtain ⟨c, r2⟩ := z
        rw [hc] at h
        dsimp only at h
        cases ht : takes (q ": ") r2 with
        | none =>
          rw [ht] at h
          cases h
        | some r3 =>
          rw [ht] at h
          dsimp only at h
          have e2 := takes_some.mp ht
          have c1 := cond_reverse _ _ _ _ _ hc (by rw [e2]; exact nl_cons (by decide)) (n - 1) (by omega)
          have o2 := om_le (cond_sound _ _ _ _ c1).1
          have o3 := om_le e2
          rw [c1]
          dsimp only
          rw [if_pos rfl, ht]
          dsimp only
          cases hp : lpart (n' - 1) m r3 with
          | none =>
            rw [hp] at h
            cases h
          | some z =>
            obtain ⟨p1, r4⟩ := z
            rw [hp] at h
            obtain ⟨rfl, rfl⟩ := Prod.mk.inj (Option.some.inj h)
            obtain ⟨p2, p3⟩ := ih (n' - 1) (by omega) m _ _ _ hp hr (n - 1) (by omega)
            rw [p2]
            exact ⟨rfl, p3⟩
    · rw [if_neg h7] at h
      cases h
/-! ### what is told of a whole text -/
def readC (n : Nat) (s : Cs) : Option Cond := match cond n s with
  | none => none
  | some (c, _) => if c.sh = s then some c else none
def readP (n : Nat) (s : Cs) : Option Part := match part n s with
  | none => none
  | some (p, _) => if p.sh = s ∧ p.pos = true then some p else none
def lawC (n m : Nat) (s : Cs) : Option Cond := match lcond n m s with
  | none => none
  | some (c, r) => if r = [] then some c else none
def lawP (n m : Nat) (s : Cs) : Option Part := match lpart n m s with
  | none => none
  | some (p, r) => if r = [] then some p else none
theorem readC_eq {n n' m : Nat} {s : Cs} (h1 : om s < n) (h2 : om s < n') (hm : s.length ≤ m) : readC n s = lawC n' m s := by
  unfold readC lawC
  cases hc : cond n s with
  | none =>
    cases hl : lcond n' m s with
    | none => rfl
    | some z =>
      obtain ⟨c, r⟩ := z
      dsimp only
      by_cases hr : r = []
      · subst hr
        rw [cond_reverse _ _ _ _ _ hl nl_nil n h1] at hc
        cases hc
      · rw [if_neg hr]
  | some z =>
    obtain ⟨c, r⟩ := z
    rw [cond_forward _ _ _ _ hc n' m h2 hm]
    dsimp only
    have e := (cond_sound _ _ _ _ hc).1
    by_cases hr : r = []
    · rw [if_pos hr, if_pos (by rw [e, hr, List.append_nil])]
    · rw [if_neg hr, if_neg fun z => hr (by
        rw [e] at z
        have l := congrArg List.length z
        rw [List.length_append] at l
        exact List.length_eq_zero_iff.mp (by omega))]
theorem readP_eq {n n' m : Nat} {s : Cs} (h1 : om s < n) (h2 : om s < n') (hm : s.length ≤ m) : readP n s = lawP n' m s := by
  unfold readP lawP
  cases hc : part n s with
  | none =>
    cases hl : lpart n' m s with
    | none => rfl
    | some z =>
      obtain ⟨c, r⟩ := z
      dsimp only
      by_cases hr : r = []
      · subst hr
        rw [(part_reverse _ _ _ _ _ hl nl_nil n h1).1] at hc
        cases hc
      · rw [if_neg hr]
  | some z =>
    obtain ⟨c, r⟩ := z
    dsimp only
    have e := (part_sound _ _ _ _ hc).1
    have whole : c.sh = s ↔ r = [] := by
      constructor
      · intro z
        rw [e] at z
        have l := congrArg List.length z
        rw [List.length_append] at l
        exact List.length_eq_zero_iff.mp (by omega)
      · intro z
        rw [e, z, List.append_nil]
    by_cases hp : c.pos = true
    · rw [part_forward _ _ _ _ hc hp n' m h2 hm]
      dsimp only
      by_cases hr : r = []
      · rw [if_pos hr, if_pos ⟨whole.mpr hr, hp⟩]
      · rw [if_neg hr, if_neg fun z => hr (whole.mp z.1)]
    · rw [if_neg fun z => hp z.2]
      cases hl : lpart n' m s with
      | none => rfl
      | some z =>
        obtain ⟨c2, r2⟩ := z
        dsimp only
        by_cases hr : r2 = []
        · subst hr
          obtain ⟨z1, z2⟩ := part_reverse _ _ _ _ _ hl nl_nil n h1
          rw [z1] at hc
          obtain ⟨rfl, _⟩ := Prod.mk.inj (Option.some.inj hc)
          exact absurd z2 hp
        · rw [if_neg hr]
theorem lawC_sh {n m : Nat} {s : Cs} {c : Cond} (h : lawC n m s = some c) : c.sh = s ∧ c.wf := by
  unfold lawC at h
  cases hl : lcond n m s with
  | none =>
    rw [hl] at h
    cases h
  | some z =>
    obtain ⟨c', r⟩ := z
    rw [hl] at h
    dsimp only at h
    by_cases hr : r = []
    · rw [if_pos hr] at h
      cases h
      subst hr
      obtain ⟨e, w⟩ := cond_sound _ _ _ _ (cond_reverse _ _ _ _ _ hl nl_nil (om s + 1) (by omega))
      exact ⟨by rw [e, List.append_nil], w⟩
    · rw [if_neg hr] at h
      cases h
theorem lawP_sh {n m : Nat} {s : Cs} {p : Part} (h : lawP n m s = some p) : p.sh = s ∧ p.wf ∧ p.pos = true := by
  unfold lawP at h
  cases hl : lpart n m s with
  | none =>
    rw [hl] at h
    cases h
  | some z =>
    obtain ⟨c', r⟩ := z
    rw [hl] at h
    dsimp only at h
    by_cases hr : r = []
    · rw [if_pos hr] at h
      cases h
      subst hr
      obtain ⟨z1, z2⟩ := part_reverse _ _ _ _ _ hl nl_nil (om s + 1) (by omega)
      obtain ⟨e, w⟩ := part_sound _ _ _ _ z1
      exact ⟨by rw [e, List.append_nil], w, z2⟩
    · rw [if_neg hr] at h
      cases h
end M
end

section
set_option Elab.async false
set_option linter.all false
set_option maxRecDepth 100000
set_option maxHeartbeats 4000000
/-! k91: conditions and parts as they stand in the heap. -/
namespace K91
open PySem PySem.Spec PyProof.Rows L2 He HL M
mutual
def cd : Cond → PyData
  | .word b => .tuple [.str (HL.S (yq b))]
  | .ask n => .tuple [.str (HL.S (q "ask")), .str (HL.S n)]
  | .neg c => .tuple [.str (HL.S (q "not")), cd c]
  | .many b cs => .tuple [.str (HL.S (nq b)), .tuple (cdL cs)]
def cdL : List Cond → List PyData
  | [] => []
  | c :: cs => cd c :: cdL cs
end
mutual
def pd : Part → PyData
  | .back => .tuple [.str (HL.S (q "back"))]
  | .leave k => .tuple [.str (HL.S (q "leave")), .int (k : Nat)]
  | .step n => .tuple [.str (HL.S (q "step")), .str (HL.S n)]
  | .call n => .tuple [.str (HL.S (q "call")), .str (HL.S n)]
  | .row ps => .tuple [.str (HL.S (q "row")), .tuple (pdL ps)]
  | .whil c p => .tuple [.str (HL.S (q "while")), cd c, pd p]
  | .ite c p r => .tuple [.str (HL.S (q "if")), cd c, pd p, pd r]
def pdL : List Part → List PyData
  | [] => []
  | p :: ps => pd p :: pdL ps
end
mutual
def CAt (H : Hp) : Cond → V → Prop
  | .word b, v => ∃ a, v = .ref a ∧ H a = some (.tup [.str (HL.S (yq b))])
  | .ask n, v => ∃ a, v = .ref a ∧ H a = some (.tup [.str (HL.S (q "ask")), .str (HL.S n)])
  | .neg c, v => ∃ a u, v = .ref a ∧ H a = some (.tup [.str (HL.S (q "not")), u]) ∧ CAt H c u
  | .many b cs, v => ∃ a t us, v = .ref a ∧ H a = some (.tup [.str (HL.S (nq b)), .ref t]) ∧ H t = some (.tup us) ∧ CAtL H cs us
def CAtL (H : Hp) : List Cond → List V → Prop
  | [], us => us = []
  | c :: cs, us => ∃ v vs, us = v :: vs ∧ CAt H c v ∧ CAtL H cs vs
end
mutual
def PAt (H : Hp) : Part → V → Prop
  | .back, v => ∃ a, v = .ref a ∧ H a = some (.tup [.str (HL.S (q "back"))])
  | .leave k, v => ∃ a, v = .ref a ∧ H a = some (.tup [.str (HL.S (q "leave")), .int (k : Nat)])
  | .step n, v => ∃ a, v = .ref a ∧ H a = some (.tup [.str (HL.S (q "step")), .str (HL.S n)])
  | .call n, v => ∃ a, v = .ref a ∧ H a = some (.tup [.str (HL.S (q "call")), .str (HL.S n)])
  | .row ps, v => ∃ a t us, v = .ref a ∧ H a = some (.tup [.str (HL.S (q "row")), .ref t]) ∧ H t = some (.tup us) ∧ PAtL H ps us
  | .whil c p, v => ∃ a u x, v = .ref a ∧ H a = some (.tup [.str (HL.S (q "while")), u, x]) ∧ CAt H c u ∧ PAt H p x
  | .ite c p r, v => ∃ a u x y, v = .ref a ∧ H a = some (.tup [.str (HL.S (q "if")), u, x, y]) ∧ CAt H c u ∧ PAt H p x ∧ PAt H r y
def PAtL (H : Hp) : List Part → List V → Prop
  | [], us => us = []
  | p :: ps, us => ∃ v vs, us = v :: vs ∧ PAt H p v ∧ PAtL H ps vs
end
theorem cAtL_iff {H : Hp} : ∀ {cs : List Cond} {us : List V}, CAtL H cs us ↔ All2 (fun v c => CAt H c v) us cs
  | [], us => by
    unfold CAtL
    cases us with
    | nil => exact ⟨fun _ => trivial, fun _ => rfl⟩
    | cons v vs => exact ⟨fun h => (nomatch h), fun h => False.elim h⟩
  | c :: cs, us => by
    unfold CAtL
    cases us with
    | nil => exact ⟨fun ⟨_, _, h, _⟩ => (nomatch h), fun h => False.elim h⟩
    | cons v vs => exact ⟨fun ⟨v', vs', h, h1, h2⟩ => by
        injection h with e1 e2
        subst e1 e2
        exact ⟨h1, cAtL_iff.mp h2⟩, fun h => ⟨v, vs, rfl, h.1, cAtL_iff.mpr h.2⟩⟩
theorem pAtL_iff {H : Hp} : ∀ {cs : List Part} {us : List V}, PAtL H cs us ↔ All2 (fun v c => PAt H c v) us cs
  | [], us => by
    unfold PAtL
    cases us with
    | nil => exact ⟨fun _ => trivial, fun _ => rfl⟩
    | cons v vs => exact ⟨fun h => (nomatch h), fun h => False.elim h⟩
  | c :: cs, us => by
    unfold PAtL
    cases us with
    | nil => exact ⟨fun ⟨_, _, h, _⟩ => (nomatch h), fun h => False.elim h⟩
    | cons v vs => exact ⟨fun ⟨v', vs', h, h1, h2⟩ => by
        injection h with e1 e2
        subst e1 e2
        exact ⟨h1, pAtL_iff.mp h2⟩, fun h => ⟨v, vs, rfl, h.1, pAtL_iff.mpr h.2⟩⟩
/-! ### what moves does not touch them -/
mutual
theorem CAt.keep {H H' : Hp} (e : TupK H H') : ∀ (c : Cond) (v : V), CAt H c v → CAt H' c v
  | .word b, v, h => by
    unfold CAt at h ⊢
    obtain ⟨a, r, h⟩ := h
    exact ⟨a, r, e _ _ h⟩
  | .ask n, v, h => by
    unfold CAt at h ⊢
    obtain ⟨a, r, h⟩ := h
    exact ⟨a, r, e _ _ h⟩
  | .neg c, v, h => by
    unfold CAt at h ⊢
    obtain ⟨a, u, r, h, h1⟩ := h
    exact ⟨a, u, r, e _ _ h, CAt.keep e c u h1⟩
  | .many b cs, v, h => by
    unfold CAt at h ⊢
    obtain ⟨a, t, us, r, h, h1, h2⟩ := h
    exact ⟨a, t, us, r, e _ _ h, e _ _ h1, CAtL.keep e cs us h2⟩
theorem CAtL.keep {H H' : Hp} (e : TupK H H') : ∀ (cs : List Cond) (us : List V), CAtL H cs us → CAtL H' cs us
  | [], us, h => by
    unfold CAtL at h ⊢
    exact h
  | c :: cs, us, h => by
    unfold CAtL at h ⊢
    obtain ⟨v, vs, r, h1, h2⟩ := h
    exact ⟨v, vs, r, CAt.keep e c v h1, CAtL.keep e cs vs h2⟩
end
mutual
theorem PAt.keep {H H' : Hp} (e : TupK H H') : ∀ (c : Part) (v : V), PAt H c v → PAt H' c v
  | .back, v, h => by
    unfold PAt at h ⊢
    obtain ⟨a, r, h⟩ := h
    exact ⟨a, r, e _ _ h⟩
  | .leave k, v, h => by
    unfold PAt at h ⊢
    obtain ⟨a, r, h⟩ := h
    exact ⟨a, r, e _ _ h⟩
  | .step n, v, h => by
    unfold PAt at h ⊢
    obtain ⟨a, r, h⟩ := h
    exact ⟨a, r, e _ _ h⟩
  | .call n, v, h => by
    unfold PAt at h ⊢
    obtain ⟨a, r, h⟩ := h
    exact ⟨a, r, e _ _ h⟩
  | .row ps, v, h => by
    unfold PAt at h ⊢
    obtain ⟨a, t, us, r, h, h1, h2⟩ := h
    exact ⟨a, t, us, r, e _ _ h, e _ _ h1, PAtL.keep e ps us h2⟩
  | .whil c p, v, h => by
    unfold PAt at h ⊢
    obtain ⟨a, u, x, r, h, h1, h2⟩ := h
    exact ⟨a, u, x, r, e _ _ h, h1.keep e, PAt.keep e p x h2⟩
  | .ite c p r, v, h => by
    unfold PAt at h ⊢
    obtain ⟨a, u, x, y, r', h, h1, h2, h3⟩ := h
    exact ⟨a, u, x, y, r', e _ _ h, h1.keep e, PAt.keep e p x h2, PAt.keep e r y h3⟩
theorem PAtL.keep {H H' : Hp} (e : TupK H H') : ∀ (cs : List Part) (us : List V), PAtL H cs us → PAtL H' cs us
  | [], us, h => by
    unfold PAtL at h ⊢
    exact h
  | c :: cs, us, h => by
    unfold PAtL at h ⊢
    obtain ⟨v, vs, r, h1, h2⟩ := h
    exact ⟨v, vs, r, PAt.keep e c v h1, PAtL.keep e cs vs h2⟩
end
/-! ### as data -/
section
variable {K : PySem.W.Frag} {H : Hp}
theorem sqt {a : Addr} {xs : List V} (h : H a = some (.tup xs)) : SqT K H a xs := .inl (.inl h)
theorem sql {a : Addr} {xs : List V} (h : H a = some (.lst xs)) : SqL K H a xs := .inl (.inl h)
mutual
theorem CAt.dp : ∀ (c : Cond) (v : V), CAt H c v → Dp K H v (cd c)
  | .word b, v, h => by
    unfold CAt at h
    obtain ⟨a, rfl, h⟩ := h
    unfold cd
    exact .tup (sqt h) (.cons (.str _) .nil)
  | .ask n, v, h => by
    unfold CAt at h
    obtain ⟨a, rfl, h⟩ := h
    unfold cd
    exact .tup (sqt h) (.cons (.str _) (.cons (.str _) .nil))
  | .neg c, v, h => by
    unfold CAt at h
    obtain ⟨a, u, rfl, h, h1⟩ := h
    unfold cd
    exact .tup (sqt h) (.cons (.str _) (.cons (CAt.dp c u h1) .nil))
  | .many b cs, v, h => by
    unfold CAt at h
    obtain ⟨a, t, us, rfl, h, h1, h2⟩ := h
    unfold cd
    exact .tup (sqt h) (.cons (.str _) (.cons (.tup (sqt h1) (CAtL.dp cs us h2)) .nil))
theorem CAtL.dp : ∀ (cs : List Cond) (us : List V), CAtL H cs us → DpAll K H us (cdL cs)
  | [], us, h => by
    unfold CAtL at h
    subst h
    unfold cdL
    exact .nil
  | c :: cs, us, h => by
    unfold CAtL at h
    obtain ⟨v, vs, rfl, h1, h2⟩ := h
    unfold cdL
    exact .cons (CAt.dp c v h1) (CAtL.dp cs vs h2)
end
mutual
theorem PAt.dp : ∀ (c : Part) (v : V), PAt H c v → Dp K H v (pd c)
  | .back, v, h => by
    unfold PAt at h
    obtain ⟨a, rfl, h⟩ := h
    unfold pd
    exact .tup (sqt h) (.cons (.str _) .nil)
  | .leave k, v, h => by
    unfold PAt at h
    obtain ⟨a, rfl, h⟩ := h
    unfold pd
    exact .tup (sqt h) (.cons (.str _) (.cons (.int _) .nil))
  | .step n, v, h => by
    unfold PAt at h
    obtain ⟨a, rfl, h⟩ := h
    unfold pd
    exact .tup (sqt h) (.cons (.str _) (.cons (.str _) .nil))
  | .call n, v, h => by
    unfold PAt at h
    obtain ⟨a, rfl, h⟩ := h
    unfold pd
    exact .tup (sqt h) (.cons (.str _) (.cons (.str _) .nil))
  | .row cs, v, h => by
    unfold PAt at h
    obtain ⟨a, t, us, rfl, h, h1, h2⟩ := h
    unfold pd
    exact .tup (sqt h) (.cons (.str _) (.cons (.tup (sqt h1) (PAtL.dp cs us h2)) .nil))
  | .whil c p, v, h => by
    unfold PAt at h
    obtain ⟨a, u, x, rfl, h, h1, h2⟩ := h
    unfold pd
    exact .tup (sqt h) (.cons (.str _) (.cons h1.dp (.cons (PAt.dp p x h2) .nil)))
  | .ite c p r, v, h => by
    unfold PAt at h
    obtain ⟨a, u, x, y, rfl, h, h1, h2, h3⟩ := h
    unfold pd
    exact .tup (sqt h) (.cons (.str _) (.cons h1.dp (.cons (PAt.dp p x h2) (.cons (PAt.dp r y h3) .nil))))
theorem PAtL.dp : ∀ (cs : List Part) (us : List V), PAtL H cs us → DpAll K H us (pdL cs)
  | [], us, h => by
    unfold PAtL at h
    subst h
    unfold pdL
    exact .nil
  | c :: cs, us, h => by
    unfold PAtL at h
    obtain ⟨v, vs, rfl, h1, h2⟩ := h
    unfold pdL
    exact .cons (PAt.dp c v h1) (PAtL.dp cs vs h2)
end
end
/-! ### laid, shown, deep -/
theorem okS (l : List Nat) (h : l.all (fun c => decide (c < 0x110000)) = true) : PyData.strOk (HL.S l) = true := by
  unfold PyData.strOk
  rw [Array.all_eq_true']
  intro c hc
  exact List.all_eq_true.mp h c (by simpa [HL.S] using hc)
theorem nm_ok {n : Cs} (h : Nm n) : PyData.strOk (HL.S n) = true := okS n (List.all_eq_true.mpr fun c hc => by
  have h3 : c ∈ LET := of_decide_eq_true (h.all c hc)
  have h4 : ∀ d ∈ LET, d < 0x110000 := by decide
  exact decide_eq_true (h4 c h3))
theorem ok_yq (b : Bool) : PyData.strOk (HL.S (yq b)) = true := by cases b <;> exact okS _ (by decide)
theorem ok_nq (b : Bool) : PyData.strOk (HL.S (nq b)) = true := by cases b <;> exact okS _ (by decide)
theorem ok_ask : PyData.strOk (HL.S (q "ask")) = true := okS _ (by decide)
theorem ok_not : PyData.strOk (HL.S (q "not")) = true := okS _ (by decide)
theorem ok_back : PyData.strOk (HL.S (q "back")) = true := okS _ (by decide)
theorem ok_leave : PyData.strOk (HL.S (q "leave")) = true := okS _ (by decide)
theorem ok_step : PyData.strOk (HL.S (q "step")) = true := okS _ (by decide)
theorem ok_call : PyData.strOk (HL.S (q "call")) = true := okS _ (by decide)
theorem ok_row : PyData.strOk (HL.S (q "row")) = true := okS _ (by decide)
theorem ok_while : PyData.strOk (HL.S (q "while")) = true := okS _ (by decide)
theorem ok_if : PyData.strOk (HL.S (q "if")) = true := okS _ (by decide)
mutual
theorem cd_lay : ∀ c : Cond, c.wf → (cd c).canLay0 = true
  | .word b, _ => by
    unfold cd
    simp only [PyData.canLay0, PyData.canLayAll0, ok_yq, ok_nq, ok_ask, ok_not, ok_back, ok_leave, ok_step, ok_call, ok_row, ok_while, ok_if, Bool.and_true, Bool.true_and]
  | .ask n, h => by
    unfold cd
    have := nm_ok (show Nm n by simpa [Cond.wf] using h)
    simp only [PyData.canLay0, PyData.canLayAll0, this, ok_yq, ok_nq, ok_ask, ok_not, ok_back, ok_leave, ok_step, ok_call, ok_row, ok_while, ok_if, Bool.and_true, Bool.true_and]
  | .neg c, h => by
    unfold cd
    have := cd_lay c (by simpa [Cond.wf] using h)
    simp only [PyData.canLay0, PyData.canLayAll0, this, ok_yq, ok_nq, ok_ask, ok_not, ok_back, ok_leave, ok_step, ok_call, ok_row, ok_while, ok_if, Bool.and_true, Bool.true_and]
  | .many b cs, h => by
    unfold cd
    have := cdL_lay cs (by simpa [Cond.wf] using h)
    simp only [PyData.canLay0, PyData.canLayAll0, this, ok_yq, ok_nq, ok_ask, ok_not, ok_back, ok_leave, ok_step, ok_call, ok_row, ok_while, ok_if, Bool.and_true, Bool.true_and]
theorem cdL_lay : ∀ cs : List Cond, wfC cs → PyData.canLayAll0 (cdL cs) = true
  | [], _ => by
    unfold cdL
    rfl
  | c :: cs, h => by
    unfold cdL
    have h1 : c.wf ∧ wfC cs := by simpa [wfC] using h
    simp only [PyData.canLayAll0, cd_lay c h1.1, cdL_lay cs h1.2, Bool.and_true]
end
mutual
theorem pd_lay : ∀ c : Part, c.wf → (pd c).canLay0 = true
  | .back, _ => by
    unfold pd
    simp only [PyData.canLay0, PyData.canLayAll0, ok_yq, ok_nq, ok_ask, ok_not, ok_back, ok_leave, ok_step, ok_call, ok_row, ok_while, ok_if, Bool.and_true, Bool.true_and]
  | .leave k, _ => by
    unfold pd
    simp only [PyData.canLay0, PyData.canLayAll0, ok_yq, ok_nq, ok_ask, ok_not, ok_back, ok_leave, ok_step, ok_call, ok_row, ok_while, ok_if, Bool.and_true, Bool.true_and]
  | .step n, h => by
    unfold pd
    have := nm_ok (show Nm n by simpa [Part.wf] using h)
    simp only [PyData.canLay0, PyData.canLayAll0, this, ok_yq, ok_nq, ok_ask, ok_not, ok_back, ok_leave, ok_step, ok_call, ok_row, ok_while, ok_if, Bool.and_true, Bool.true_and]
  | .call n, h => by
    unfold pd
    have := nm_ok (show Nm n by simpa [Part.wf] using h)
    simp only [PyData.canLay0, PyData.canLayAll0, this, ok_yq, ok_nq, ok_ask, ok_not, ok_back, ok_leave, ok_step, ok_call, ok_row, ok_while, ok_if, Bool.and_true, Bool.true_and]
  | .row cs, h => by
    unfold pd
    have := pdL_lay cs (by simpa [Part.wf] using h)
    simp only [PyData.canLay0, PyData.canLayAll0, this, ok_yq, ok_nq, ok_ask, ok_not, ok_back, ok_leave, ok_step, ok_call, ok_row, ok_while, ok_if, Bool.and_true, Bool.true_and]
  | .whil c p, h => by
    unfold pd
    have h1 : c.wf ∧ p.wf := by simpa [Part.wf] using h
    simp only [PyData.canLay0, PyData.canLayAll0, cd_lay c h1.1, pd_lay p h1.2, ok_yq, ok_nq, ok_ask, ok_not, ok_back, ok_leave, ok_step, ok_call, ok_row, ok_while, ok_if, Bool.and_true, Bool.true_and]
  | .ite c p r, h => by
    unfold pd
    have h1 : c.wf ∧ p.wf ∧ r.wf := by simpa [Part.wf] using h
    simp only [PyData.canLay0, PyData.canLayAll0, cd_lay c h1.1, pd_lay p h1.2.1, pd_lay r h1.2.2, ok_yq, ok_nq, ok_ask, ok_not, ok_back, ok_leave, ok_step, ok_call, ok_row, ok_while, ok_if, Bool.and_true, Bool.true_and]
theorem pdL_lay : ∀ cs : List Part, wfP cs → PyData.canLayAll0 (pdL cs) = true
  | [], _ => by
    unfold pdL
    rfl
  | c :: cs, h => by
    unfold pdL
    have h1 : c.wf ∧ wfP cs := by simpa [wfP] using h
    simp only [PyData.canLayAll0, pd_lay c h1.1, pdL_lay cs h1.2, Bool.and_true]
end
end K91
end

section
set_option Elab.async false
set_option linter.all false
set_option maxRecDepth 100000
set_option maxHeartbeats 4000000
/-! k91: the small defs. The bodies' terms are printed by mk.py. -/
namespace K91
open PySem PySem.Spec PyProof.Rows L2 He HL
abbrev P0 : Program := PySem.Challenge.pw_bynamealone_k91_parts_spoilt
abbrev CN (K : PySem.W.Frag) : Addr := ga K "NoText"
def supO (b : List Stmt) : Expr := match b with
  | [.Expr (.Call (.Attribute o _ _) _ _ _) _] => o
  | _ => .Constant .none 0 ⟨0, 0, 0, 0⟩
theorem pmkN {X : Cx} {k : Nat} {p pos : Pos} (W : Wl X.K X.mg) (hr : Room (k + 1) X.A) (hP : X.prog = P0 := by rfl) (hg : Gl X "NoText" := by rfl) : PMk X (.Call (.Name "NoText" p) [] [] pos) (XR.tMkN (CN X.K)) := by
  subst_eqs
  refine XR.pmk_noarg (pl := fun env => do return (← importBound (supO x_NoText.body) env).getD true) (file := "/claim/cut.py") (name := "__init__") (qual := x_NoText.qual) (params := x_NoText.params) (scope := x_NoText.scope) (W.na_x_NoText) ⟨by decide +kernel, by decide +kernel, by decide +kernel, by decide +kernel, by decide +kernel, by decide +kernel, by decide +kernel⟩
    ⟨fun _ _ _ _ => rfl, fun _ _ _ _ => rfl, fun _ _ _ _ => rfl⟩ ⟨_, rfl, rfl⟩ (fun _ _ _ _ _ _ _ _ => rfl) (by rw [hP]; decide +kernel) (by rw [hP]; decide +kernel) (hr.mono (by omega)) hg W.g_NoText
section
variable {w : World} {K : PySem.W.Frag} {mg : Str → Option Value} {base : Heap}
/-- a def of the text keeps its promise -/
abbrev OkD (w : World) (K : PySem.W.Frag) (mg : Str → Option Value) (base : Heap) (CX : CXT) (k : Nat) (d : DefD) (ps : List Str) (sp : Sp) : Prop := HL.Ok P0 w K mg base CX k d.at_ ps sp
abbrev CXN (w : World) : CXT := L2.CX P0 w
theorem ofq_tl (s : String) : (Str.ofString s).cps.toList = M.q s := by
  rw [HL.ofq]
  rfl
theorem isLet_in (c : Nat) : decide (c ∈ (Str.ofString "abcdefghijklmnopqrstuvwxyz").cps.toList) = M.isLet c := by
  rw [ofq_tl]
  rfl
theorem isDig_in (c : Nat) : decide (c ∈ (Str.ofString "0123456789").cps.toList) = M.isDig c := by
  rw [ofq_tl]
  rfl
theorem all_id {α : Type} (f : α → Bool) (l : List α) : (l.map f).all id = l.all f := by
  rw [List.all_map]
  rfl
abbrev n_need : List Str := ["truth"]
theorem sc_need : FnScope n_need ["truth"] (defScope s_need) := ⟨rfl, rfl, rfl, by decide +kernel, rfl, by decide +kernel, by decide +kernel⟩
theorem bi_need : ∀ (kV doc pm : Value) (an : Option Addr) (cdv ct : Value) (us : List Value), us.length = 1 → bindArgs (PySem.W.fnOf d_need.name d_need.qual d_need.params d_need.body d_need.scope .none kV doc pm an cdv ct) ⟨us, []⟩ = pure ([("truth" : Str)].zip us) := fun kV doc pm an cdv ct us hu => by
  match us, hu with
  | [u0], _ => rfl
def spNeed (K : PySem.W.Frag) : Sp := fun vs H Q E => ∃ b, vs = [.bl b] ∧ (b = true → Q .non H) ∧ (b = false → E (.ref (CN K)) none H)
theorem o_need (W : Wl K mg) : OkD w K mg base (CXN w) 2 d_need ["truth"] (spNeed K) := by
  refine HL.ok_of W.D_need sc_need (fun vs H Q E ⟨b, h, _⟩ => by rw [h]; rfl) bi_need fun cdv A outer s H vs Q E hr h => ?_
  have tk := takes_of (X := cxOf (CXN w) P0 w K mg base n_need d_need.qual d_need.scope (fAd K d_need.at_) cdv A outer s H E) rfl rfl rfl rfl
  refine ⟨_, (pss_one (ps_if (pt_not (pt_truth (pv 0) (by intro _; rfl))) (pss_one (ps_raise rfl tk (pmkN W hr))) pss_nil)), ?_⟩
  obtain ⟨b, rfl, hT, hF⟩ := h
  refine ⟨_, rfl, b, rfl, ?_⟩
  cases b with
  | true => exact iteF (hT rfl)
  | false => exact iteT (hF rfl)
abbrev n_need_text : List Str := ["text"]
theorem sc_need_text : FnScope n_need_text ["text"] (defScope s_need_text) := ⟨rfl, rfl, rfl, by decide +kernel, rfl, by decide +kernel, by decide +kernel⟩
theorem bi_need_text : ∀ (kV doc pm : Value) (an : Option Addr) (cdv ct : Value) (us : List Value), us.length = 1 → bindArgs (PySem.W.fnOf d_need_text.name d_need_text.qual d_need_text.params d_need_text.body d_need_text.scope .none kV doc pm an cdv ct) ⟨us, []⟩ = pure ([("text" : Str)].zip us) := fun kV doc pm an cdv ct us hu => by
  match us, hu with
  | [u0], _ => rfl
/-- what is no text -/
def NoStr (K : PySem.W.Frag) (H : Hp) (v : V) : Prop := ∃ t, TyX K H v (.type t) ∧ PySem.W.kitOne K (.type t) (.type "str") = some false
def spNeedText (K : PySem.W.Frag) : Sp := fun vs H Q E => ∃ v, vs = [v] ∧ ((∃ s, v = .str s ∧ Q .non H) ∨ (NoStr K H v ∧ E (.ref (CN K)) none H))
theorem o_need_text (W : Wl K mg) : OkD w K mg base (CXN w) 2 d_need_text ["text"] (spNeedText K) := by
  refine HL.ok_of W.D_need_text sc_need_text (fun vs H Q E ⟨b, h, _⟩ => by rw [h]; rfl) bi_need_text fun cdv A outer s H vs Q E hr h => ?_
  have tk := takes_of (X := cxOf (CXN w) P0 w K mg base n_need_text d_need_text.qual d_need_text.scope (fAd K d_need_text.at_) cdv A outer s H E) rfl rfl rfl rfl
  refine ⟨_, (pss_one (ps_if (pt_not (pt_val (pe_callB call_isi (by rfl) W.f_isinstance (by decide +kernel) (pa_cons (pv 0) (pa_cons (pe_bltn (v := .ty "str") (by rfl) W.f_str (by decide +kernel) rfl) pa_nil))))) (pss_one (ps_raise rfl tk (pmkN W hr))) pss_nil)), ?_⟩
  obtain ⟨v, rfl, ⟨s, rfl, hq⟩ | ⟨⟨t, ht, hk⟩, he⟩⟩ := h
  · refine ⟨_, rfl, _, _, _, _, true, rfl, .ty _, .base (.str s), kit_ty (by decide +kernel), _, rfl, ?_⟩
    exact iteF hq
  · refine ⟨_, rfl, _, _, _, _, false, rfl, .ty _, ht, hk, _, rfl, ?_⟩
    exact iteT he
abbrev n_is_integer : List Str := ["thing"]
theorem sc_is_integer : FnScope n_is_integer ["thing"] (defScope s_is_integer) := ⟨rfl, rfl, rfl, by decide +kernel, rfl, by decide +kernel, by decide +kernel⟩
theorem bi_is_integer : ∀ (kV doc pm : Value) (an : Option Addr) (cdv ct : Value) (us : List Value), us.length = 1 → bindArgs (PySem.W.fnOf d_is_integer.name d_is_integer.qual d_is_integer.params d_is_integer.body d_is_integer.scope .none kV doc pm an cdv ct) ⟨us, []⟩ = pure ([("thing" : Str)].zip us) := fun kV doc pm an cdv ct us hu => by
  match us, hu with
  | [u0], _ => rfl
def spIsInt : Sp := fun vs H Q _ => ∃ i, vs = [.int i] ∧ Q (.bl true) H
theorem o_is_integer (W : Wl K mg) : OkD w K mg base CX0 1 d_is_integer ["thing"] spIsInt := by
  refine HL.ok_of0 W.D_is_integer sc_is_integer (fun vs H Q E ⟨b, h, _⟩ => by rw [h]; rfl) bi_is_integer fun cdv A outer s H vs Q E hr h => ?_
  refine ⟨_, (pss_one (ps_ret (pe_and (pe_callB call_isi (by rfl) W.f_isinstance (by decide +kernel) (pa_cons (pv 0) (pa_cons (pe_bltn (v := .ty "int") (by rfl) W.f_int (by decide +kernel) rfl) pa_nil))) (pe_one (pe_not (pe_callB call_isi (by rfl) W.f_isinstance (by decide +kernel) (pa_cons (pv 0) (pa_cons (pe_bltn (v := .ty "bool") (by rfl) W.f_bool (by decide +kernel) rfl) pa_nil)))))))), ?_⟩
  obtain ⟨i, rfl, hq⟩ := h
  refine ⟨_, rfl, _, _, _, _, true, rfl, .ty _, .base (.int i), kit_ty (by decide +kernel), _, rfl, ?_⟩
  refine iteT ⟨_, rfl, _, _, _, _, false, rfl, .ty _, .base (.int i), kit_ty (by decide +kernel), _, rfl, ?_⟩
  exact hq
abbrev n_is_name : List Str := ["thing", "sign"]
theorem sc_is_name : FnScope n_is_name ["thing"] (defScope s_is_name) := ⟨rfl, rfl, rfl, by decide +kernel, rfl, by decide +kernel, by decide +kernel⟩
theorem bi_is_name : ∀ (kV doc pm : Value) (an : Option Addr) (cdv ct : Value) (us : List Value), us.length = 1 → bindArgs (PySem.W.fnOf d_is_name.name d_is_name.qual d_is_name.params d_is_name.body d_is_name.scope .none kV doc pm an cdv ct) ⟨us, []⟩ = pure ([("thing" : Str)].zip us) := fun kV doc pm an cdv ct us hu => by
  match us, hu with
  | [u0], _ => rfl
def spIsName : Sp := fun vs H Q _ => ∃ n, vs = [.str (S n)] ∧ n.length ≤ 1000000 ∧ ∀ H', Same H H' → Q (.bl (decide (0 < n.length ∧ n.length ≤ 8) && n.all M.isLet)) H'
theorem o_is_name (W : Wl K mg) : OkD w K mg base CX0 1 d_is_name ["thing"] spIsName := by
  refine HL.ok_of0 W.D_is_name sc_is_name (fun vs H Q E ⟨b, h, _⟩ => by rw [h]; rfl) bi_is_name fun cdv A outer s H vs Q E hr h => ?_
  have nd := sc_is_name.nd
  obtain ⟨tL, hc_LETTERS⟩ := W.c_LETTERS
  obtain ⟨tN, hc_LONGEST_NAME⟩ := W.c_LONGEST_NAME
  have NN : List Str := n_is_name
  refine ⟨_, (pss_one (ps_ret (pe_and (pe_callB call_isi (by rfl) W.f_isinstance (by decide +kernel) (pa_cons (pv 0) (pa_cons (pe_bltn (v := .ty "str") (by rfl) W.f_str (by decide +kernel) rfl) pa_nil))) (pe_and (pe_chain op_lt op_le pe_int (pe_callB call_len_str (by rfl) W.f_len (by decide +kernel) (pa_cons (pv 0) pa_nil)) (pe_glob (v := .int 8) (by rfl) hc_LONGEST_NAME ⟨_, rfl⟩)) (pe_one (pe_callB (cr_all rfl) (by rfl) W.f_all (by decide +kernel) (pa_cons (pe_lc (own := [("sign", 1)]) (g := gName 1) (tt := tYes) (by rfl) nd (pi_str (pv 0)) (blkOk_by (own := [("sign", 1)]) (N := n_is_name) (sc := defScope s_is_name) (by decide +kernel)) (fun _ _ _ _ _ => pg_name (i := 1) nd rfl (Or.inl rfl)) (fun _ _ _ _ _ => pts_nil) (fun _ _ _ _ _ => (pe_cmpR op_in_sign (pv 1) (pe_glob (v := .str "abcdefghijklmnopqrstuvwxyz") (by rfl) hc_LETTERS ⟨_, rfl⟩) (by rfl)))) pa_nil))))))), ?_⟩
  obtain ⟨n, rfl, hn, hq⟩ := h
  refine ⟨_, rfl, _, _, _, _, true, rfl, .ty _, .base (.str _), kit_ty (by decide +kernel), _, rfl, ?_⟩
  refine iteT ⟨_, rfl, _, rfl, by rw [S_len]; exact small hn, _, _, rfl, rfl, ?_⟩
  have b1 : decide ((0 : Int) < ((S n).length : Nat)) = decide (0 < n.length) := by
    rw [S_len]
    exact decide_eq_decide.mpr (by omega)
  have b2 : decide ((((S n).length : Nat) : Int) ≤ 8) = decide (n.length ≤ 8) := by
    rw [S_len]
    exact decide_eq_decide.mpr (by omega)
  refine ⟨_, rfl, ite2 (fun h1 => ?_) (fun h1 => ?_)⟩
  · rw [b1] at h1
    have h1 := of_decide_eq_true h1
    refine ⟨_, _, rfl, rfl, _, rfl, ite2 (fun h2 => ?_) (fun h2 => ?_)⟩
    · rw [b2] at h2
      have h2 := of_decide_eq_true h2
      refine ⟨_, rfl, _, rfl, fun D hD => HL.lcS (out := n.map fun c => V.bl (M.isLet c)) hD (by simp [S]) (small hn) (fun k c y H Q hx ho e hl hq => ?_) fun H e hl => ?_⟩
      · refine ⟨_, rfl, _, _, rfl, rfl, ?_⟩
        have hc : n[k]? = some c := by simpa [S] using hx
        rw [List.getElem?_map, hc] at ho
        have ho : some (V.bl (M.isLet c)) = some y := ho
        cases ho
        rw [isLet_in]
        exact hq _ (Same.refl _)
      · refine ⟨_, n.map M.isLet, rfl, .inl (.inl (by rw [hl, List.map_map] <;> rfl)), ?_⟩
        rw [all_id]
        have q := hq H e
        rw [decide_eq_true (p := 0 < n.length ∧ n.length ≤ 8) ⟨h1, h2⟩, Bool.true_and] at q
        exact q
    · rw [b2] at h2
      have q := hq H (Same.refl _)
      rw [decide_eq_false (p := 0 < n.length ∧ n.length ≤ 8) (fun z => h2 (decide_eq_true z.2)), Bool.false_and] at q
      exact q
  · rw [b1] at h1
    refine ⟨_, rfl, iteF ?_⟩
    have q := hq H (Same.refl _)
    rw [decide_eq_false (p := 0 < n.length ∧ n.length ≤ 8) (fun z => h1 (decide_eq_true z.1)), Bool.false_and] at q
    exact q
end
end K91
end

section
set_option Elab.async false
set_option linter.all false
set_option maxRecDepth 100000
set_option maxHeartbeats 4000000
/-! k91: the reader's small methods. -/
namespace K91
open PySem PySem.Spec PyProof.Rows L2 He HL
theorem cut_ij (s : List Nat) (i j : Nat) : cutS (S s) (some (i : Int)) (some (j : Int)) = S ((s.drop i).take (j - i)) := by
  unfold cutS
  rw [show (S s).length = s.length from S_len s, HT.sIx_nat, HT.sIx_nat]
  show S ((s.drop _).take _) = _
  congr 1
  apply List.ext_getElem?
  intro k
  simp only [List.getElem?_take, List.getElem?_drop]
  by_cases h : s.length ≤ i
  · rw [List.getElem?_eq_none (by omega), List.getElem?_eq_none (by omega)]
    simp
  · by_cases h2 : s.length ≤ i + k
    · rw [List.getElem?_eq_none (by omega), List.getElem?_eq_none (by omega)]
      simp
    · rw [show min i s.length = i by omega]
      by_cases h3 : k < j - i
      · rw [if_pos h3, if_pos (by omega)]
      · rw [if_neg h3, if_neg (by omega)]
theorem cut_i (s : List Nat) (i : Nat) : cutS (S s) (some (i : Int)) none = S (s.drop i) := by
  unfold cutS
  rw [show (S s).length = s.length from S_len s, HT.sIx_nat, HT.sIx_none]
  show S ((s.drop _).take _) = _
  congr 1
  apply List.ext_getElem?
  intro k
  simp only [List.getElem?_take, List.getElem?_drop]
  by_cases h : s.length ≤ i
  · rw [List.getElem?_eq_none (by omega), List.getElem?_eq_none (by omega)]
    simp
  · rw [show min i s.length = i by omega]
    by_cases h3 : k < s.length - i
    · rw [if_pos h3]
    · rw [if_neg h3, List.getElem?_eq_none (by omega)]
theorem cut_j (s : List Nat) (j : Nat) : cutS (S s) none (some (j : Int)) = S (s.take j) := by
  unfold cutS
  rw [show (S s).length = s.length from S_len s, HT.sIx_nat, HT.sIx_none]
  show S ((s.drop 0).take _) = _
  congr 1
  rw [List.drop_zero, Nat.sub_zero, Nat.min_comm]
  apply List.ext_getElem?
  intro k
  simp only [List.getElem?_take]
  by_cases h3 : k < s.length
  · by_cases h4 : k < j
    · rw [if_pos (by omega), if_pos h4]
    · rw [if_neg (by omega), if_neg h4]
  · rw [List.getElem?_eq_none (by omega)]
    simp
/-! ### scanning -/
theorem tw_take {f : Nat → Bool} : ∀ (l : List Nat) (n : Nat), (∀ k, k < n → ∃ c, l[k]? = some c ∧ f c = true) → (∀ c, l[n]? = some c → f c = false) → l.take n = l.takeWhile f ∧ n = (l.takeWhile f).length
  | [], 0, _, _ => ⟨rfl, rfl⟩
  | [], n + 1, h, _ => by
    obtain ⟨c, e, _⟩ := h 0 (by omega)
    simp at e
  | c :: l, 0, _, h => by
    have q := h c (by simp)
    rw [List.takeWhile_cons_of_neg (by rw [q]; simp)]
    exact ⟨rfl, rfl⟩
  | c :: l, n + 1, h, h2 => by
    obtain ⟨d, e, q⟩ := h 0 (by omega)
    have : c = d := by simpa using e
    subst this
    rw [List.takeWhile_cons_of_pos q]
    obtain ⟨e1, e2⟩ := tw_take l n (fun k hk => by simpa using h (k + 1) (by omega)) (fun c' z => h2 c' (by simpa using z))
    exact ⟨by rw [List.take_succ_cons, e1], by rw [List.length_cons, ← e2]⟩
/-- all signs from i to e are f's -/
def Sc (f : Nat → Bool) (s : List Nat) (i e : Nat) : Prop := i ≤ e ∧ ∀ k, i ≤ k → k < e → ∃ c, s[k]? = some c ∧ f c = true
theorem Sc.start (f : Nat → Bool) (s : List Nat) (i : Nat) : Sc f s i i := ⟨Nat.le_refl _, fun k h1 h2 => by omega⟩
theorem Sc.next {f : Nat → Bool} {s : List Nat} {i e c : Nat} (h : Sc f s i e) (hc : s[e]? = some c) (hf : f c = true) : Sc f s i (e + 1) := ⟨by have := h.1; omega, fun k h1 h2 => by
  by_cases q : k = e
  · rw [q]
    exact ⟨c, hc, hf⟩
  · exact h.2 k h1 (by omega)⟩
theorem Sc.stop {f : Nat → Bool} {s : List Nat} {i e : Nat} (h : Sc f s i e) (hn : ∀ c, s[e]? = some c → f c = false) : (s.drop i).take (e - i) = (s.drop i).takeWhile f ∧ e = i + ((s.drop i).takeWhile f).length := by
  have h1 := h.1
  obtain ⟨e1, e2⟩ := tw_take (s.drop i) (e - i) (fun k hk => by
    rw [List.getElem?_drop]
    exact h.2 (i + k) (by omega) (by omega)) (fun c z => by
    rw [List.getElem?_drop, show i + (e - i) = e by omega] at z
    exact hn c z)
  exact ⟨e1, by omega⟩
section
variable {w : World} {K : PySem.W.Frag} {mg : Str → Option Value} {base : Heap}
abbrev RC (K : PySem.W.Frag) : Addr := ga K "Reader"
/-- the reader at p: its text, its place -/
def RdAt (K : PySem.W.Frag) (H : Hp) (p : Addr) (s : List Nat) (i : Nat) : Prop := ∃ dx, H p = some (.ins (RC K) dx [("its_text", .str (S s)), ("its_place", .int (i : Nat))])
abbrev n_Reader_init : List Str := ["self", "text"]
theorem sc_Reader_init : FnScope n_Reader_init ["self", "text"] (defScope s_Reader_init) := ⟨rfl, rfl, rfl, by decide +kernel, rfl, by decide +kernel, by decide +kernel⟩
theorem bi_Reader_init : ∀ (kV doc pm : Value) (an : Option Addr) (cdv ct : Value) (us : List Value), us.length = 2 → bindArgs (PySem.W.fnOf d_Reader_init.name d_Reader_init.qual d_Reader_init.params d_Reader_init.body d_Reader_init.scope .none kV doc pm an cdv ct) ⟨us, []⟩ = pure ([("self" : Str), ("text" : Str)].zip us) := fun kV doc pm an cdv ct us hu => by
  match us, hu with
  | [u0, u1], _ => rfl
def spInit (K : PySem.W.Frag) : Sp := fun vs H Q _ => ∃ p dx s, vs = [.ref p, .str (S s)] ∧ H p = some (.ins (RC K) dx []) ∧ ∀ H', SameB p H H' → RdAt K H' p s 0 → Q .non H'
theorem o_init (W : Wl K mg) : OkD w K mg base CX0 1 d_Reader_init ["self", "text"] (spInit K) := by
  refine HL.ok_of0 W.D_Reader_init sc_Reader_init (fun vs H Q E ⟨_, _, _, h, _⟩ => by rw [h]; rfl) bi_Reader_init fun cdv A outer s H vs Q E hr h => ?_
  refine ⟨_, (pss_cons (ps_fld (pv 0) (pv 1) rfl)
    (pss_one (ps_fld (pv 0) pe_int rfl))), ?_⟩
  obtain ⟨p, dx, s, rfl, hp, hq⟩ := h
  refine ⟨_, rfl, _, rfl, p, _, dx, _, rfl, hp, W.k_Reader, W.n_Reader_its_text, by simp, ?_⟩
  refine ⟨_, rfl, p, _, dx, _, rfl, upd_same, W.k_Reader, W.n_Reader_its_place, Nat.lt_of_lt_of_le (show 1 < 2 by decide) (by decide), ?_⟩
  exact hq _ (((SameB.refl p H).upd).upd) ⟨dx, by rw [upd_same] <;> rfl⟩
abbrev n_Reader_takes : List Str := ["self", "sign"]
theorem sc_Reader_takes : FnScope n_Reader_takes ["self", "sign"] (defScope s_Reader_takes) := ⟨rfl, rfl, rfl, by decide +kernel, rfl, by decide +kernel, by decide +kernel⟩
theorem bi_Reader_takes : ∀ (kV doc pm : Value) (an : Option Addr) (cdv ct : Value) (us : List Value), us.length = 2 → bindArgs (PySem.W.fnOf d_Reader_takes.name d_Reader_takes.qual d_Reader_takes.params d_Reader_takes.body d_Reader_takes.scope .none kV doc pm an cdv ct) ⟨us, []⟩ = pure ([("self" : Str), ("sign" : Str)].zip us) := fun kV doc pm an cdv ct us hu => by
  match us, hu with
  | [u0, u1], _ => rfl
def spTakes (K : PySem.W.Frag) : Sp := fun vs H Q _ => ∃ p s i w, vs = [.ref p, .str (S w)] ∧ RdAt K H p s i ∧ s.length ≤ 1000000 ∧ w.length ≤ 1000 ∧
  (M.takes w (s.drop i) = none → Q (.bl false) H) ∧ (∀ r, M.takes w (s.drop i) = some r → ∀ H', SameB p H H' → RdAt K H' p s (i + w.length) → Q (.bl true) H')
theorem o_takes (W : Wl K mg) : OkD w K mg base CX0 1 d_Reader_takes ["self", "sign"] (spTakes K) := by
  refine HL.ok_of0 W.D_Reader_takes sc_Reader_takes (fun vs H Q E ⟨_, _, _, _, h, _⟩ => by rw [h]; rfl) bi_Reader_takes fun cdv A outer s H vs Q E hr h => ?_
  refine ⟨_, (pss_cons (ps_if (pt_cmpR op_ne (pe_slice sl_str (pe_fld (pv 0) rfl) (po_some (pe_fld (pv 0) rfl)) (po_some (pe_op op_add (pe_fld (pv 0) rfl) (pe_callB call_len_str (by rfl) W.f_len (by decide +kernel) (pa_cons (pv 1) pa_nil))))) (pv 1) (nomark _)) (pss_one (ps_ret pe_bl)) pss_nil)
    (pss_cons (ps_fldaug (pv 0) (pe_callB call_len_str (by rfl) W.f_len (by decide +kernel) (pa_cons (pv 1) pa_nil)) in_add)
    (pss_one (ps_ret pe_bl)))), ?_⟩
  obtain ⟨p, s, i, w, rfl, ⟨dx, hp⟩, hs, hw, hF, hT⟩ := h
  have sl : (S s).length ≤ sizeLine := by rw [S_len]; exact small hs
  have wl : (S w).length ≤ sizeLine := by rw [S_len]; exact small (by omega)
  refine ⟨_, rfl, p, _, dx, _, _, rfl, hp, W.k_Reader, W.n_Reader_its_text, rfl, ?_⟩
  refine ⟨_, rfl, p, _, dx, _, _, rfl, hp, W.k_Reader, W.n_Reader_its_place, rfl, ?_⟩
  refine ⟨_, rfl, ⟨_, rfl, p, _, dx, _, _, rfl, hp, W.k_Reader, W.n_Reader_its_place, rfl, ?_⟩⟩
  refine ⟨_, rfl, _, rfl, wl, _, _, rfl, rfl, _, rfl, _, rfl, sl, _, rfl, ?_⟩
  rw [S_len, show ((i : Nat) : Int) + ((w.length : Nat) : Int) = ((i + w.length : Nat) : Int) by omega, cut_ij, Nat.add_sub_cancel_left]
  refine ⟨rfl, _, rfl, ?_⟩
  rw [dec_S]
  refine ite2 (fun h => ?_) (fun h => ?_)
  · have hn : ¬ (s.drop i).take w.length = w := by simpa using h
    exact hF (by unfold M.takes; rw [if_neg hn])
  · have hn : (s.drop i).take w.length = w := by simpa using h
    refine ⟨_, rfl, p, _, dx, _, _, rfl, hp, W.k_Reader, W.n_Reader_its_place, rfl, ⟨_, rfl, _, rfl, wl, _, _, rfl, rfl, dx, _, hp, by simp, ?_⟩⟩
    exact hT _ (by unfold M.takes; rw [if_pos hn]) _ (SameB.refl p H).upd ⟨dx, by rw [upd_same, S_len] <;> rfl⟩
abbrev n_Reader_needs : List Str := ["self", "sign"]
theorem sc_Reader_needs : FnScope n_Reader_needs ["self", "sign"] (defScope s_Reader_needs) := ⟨rfl, rfl, rfl, by decide +kernel, rfl, by decide +kernel, by decide +kernel⟩
theorem bi_Reader_needs : ∀ (kV doc pm : Value) (an : Option Addr) (cdv ct : Value) (us : List Value), us.length = 2 → bindArgs (PySem.W.fnOf d_Reader_needs.name d_Reader_needs.qual d_Reader_needs.params d_Reader_needs.body d_Reader_needs.scope .none kV doc pm an cdv ct) ⟨us, []⟩ = pure ([("self" : Str), ("sign" : Str)].zip us) := fun kV doc pm an cdv ct us hu => by
  match us, hu with
  | [u0, u1], _ => rfl
def spNeeds (K : PySem.W.Frag) : Sp := fun vs H Q E => ∃ p s i w, vs = [.ref p, .str (S w)] ∧ RdAt K H p s i ∧ s.length ≤ 1000000 ∧ w.length ≤ 1000 ∧
  (M.takes w (s.drop i) = none → E (.ref (CN K)) none H) ∧ (∀ r, M.takes w (s.drop i) = some r → ∀ H', SameB p H H' → RdAt K H' p s (i + w.length) → Q .non H')
theorem o_needs (W : Wl K mg) : OkD w K mg base (CXN w) 3 d_Reader_needs ["self", "sign"] (spNeeds K) := by
  refine HL.ok_of W.D_Reader_needs sc_Reader_needs (fun vs H Q E ⟨_, _, _, _, h, _⟩ => by rw [h]; rfl) bi_Reader_needs fun cdv A outer s H vs Q E hr h => ?_
  have tk := takes_of (X := cxOf (CXN w) P0 w K mg base n_Reader_needs d_Reader_needs.qual d_Reader_needs.scope (fAd K d_Reader_needs.at_) cdv A outer s H E) rfl rfl rfl rfl
  have O_need := o_need (w := w) (base := base) W
  have O_takes := o_takes (w := w) (base := base) W
  refine ⟨_, (pss_one (ps_expr (pe_cal O_need (hr.mono (by omega)) W.g_need (passes_call tk (fun _ _ _ _ h => h)) (pa_cons (pe_cam O_takes W.k_Reader W.m_Reader_takes (hr.mono (by omega)) pass0 (pv 0) (pa_cons (pv 1) pa_nil)) pa_nil)))), ?_⟩
  obtain ⟨p, s, i, w, rfl, hp, hs, hw, hF, hT⟩ := h
  obtain ⟨dx, hp'⟩ := id hp
  refine ⟨_, rfl, p, dx, _, rfl, hp', rfl, _, rfl, p, s, i, w, rfl, hp, hs, hw, fun hn => ?_, fun r hr H' e hp2 => ?_⟩
  · exact ⟨_, rfl, nofun, fun _ => hF hn⟩
  · exact ⟨_, rfl, fun _ => hT r hr H' e hp2, nofun⟩
abbrev n_Reader_signs : List Str := ["self", "some", "end", "found"]
theorem sc_Reader_signs : FnScope n_Reader_signs ["self", "some"] (defScope s_Reader_signs) := ⟨rfl, rfl, rfl, by decide +kernel, rfl, by decide +kernel, by decide +kernel⟩
theorem bi_Reader_signs : ∀ (kV doc pm : Value) (an : Option Addr) (cdv ct : Value) (us : List Value), us.length = 2 → bindArgs (PySem.W.fnOf d_Reader_signs.name d_Reader_signs.qual d_Reader_signs.params d_Reader_signs.body d_Reader_signs.scope .none kV doc pm an cdv ct) ⟨us, []⟩ = pure ([("self" : Str), ("some" : Str)].zip us) := fun kV doc pm an cdv ct us hu => by
  match us, hu with
  | [u0, u1], _ => rfl
def spSigns (K : PySem.W.Frag) : Sp := fun vs H Q _ => ∃ p s i z, vs = [.ref p, .str z] ∧ RdAt K H p s i ∧ s.length ≤ 1000000 ∧
  ∀ f, (∀ c, f c = decide (c ∈ z.cps.toList)) → ∀ H', SameB p H H' → RdAt K H' p s (i + ((s.drop i).takeWhile f).length) → Q (.str (S ((s.drop i).takeWhile f))) H'
theorem o_signs (W : Wl K mg) : OkD w K mg base CX0 1 d_Reader_signs ["self", "some"] (spSigns K) := by
  refine HL.ok_of0 W.D_Reader_signs sc_Reader_signs (fun vs H Q E ⟨_, _, _, _, h, _⟩ => by rw [h]; rfl) bi_Reader_signs fun cdv A outer s H vs Q E hr h => ?_
  have nd := sc_Reader_signs.nd
  refine ⟨_, (pss_cons (ps_set (i := 2) nd rfl (Or.inl rfl) (pe_fld (pv 0) rfl))
    (pss_cons (ps_while PassesOwn.never (PW.pt (pw_and (pt_cmpR op_lt (pv 2) (pe_callB call_len_str (by rfl) W.f_len (by decide +kernel) (pa_cons (pe_fld (pv 0) rfl) pa_nil)) (nomark _)) (pw_and1 (pt_cmpR op_in_sign (pe_ix ix_str (pe_fld (pv 0) rfl) (pv 2) (fun _ _ => rfl)) (pv 1) (by rfl))))) (pss_one (ps_aug (i := 2) nd rfl (.inl rfl) pe_int ip_add)))
    (pss_cons (ps_set (i := 3) nd rfl (Or.inl rfl) (pe_slice sl_str (pe_fld (pv 0) rfl) (po_some (pe_fld (pv 0) rfl)) (po_some (pv 2))))
    (pss_cons (ps_fld (pv 0) (pv 2) rfl)
    (pss_one (ps_ret (pv 3))))))), ?_⟩
  obtain ⟨p, s, i, z, rfl, ⟨dx, hp⟩, hs, hq⟩ := h
  have sl : (S s).length ≤ sizeLine := by rw [S_len]; exact small hs
  have hq := hq (fun c => decide (c ∈ z.cps.toList)) (fun _ => rfl)
  generalize hf : (fun c => decide (c ∈ z.cps.toList)) = f at hq
  refine ⟨_, rfl, p, _, dx, _, _, rfl, hp, W.k_Reader, W.n_Reader_its_place, rfl, ?_⟩
  refine HL.while_zz (fun m σ H1 => ∃ e : Nat, m = s.length - e ∧ H1 = H ∧ σ = [some (.ref p), some (.str z), some (.int (e : Nat)), none] ∧ Sc f s i e)
    (fun σ H1 => ∃ e : Nat, H1 = H ∧ σ = [some (.ref p), some (.str z), some (.int (e : Nat)), none] ∧ Sc f s i e ∧ ∀ c, s[e]? = some c → f c = false) ⟨_, i, rfl, rfl, rfl, Sc.start f s i⟩ ?_ ?_
  · rintro m σ H1 ⟨e, rfl, rfl, rfl, hsc⟩ R hT hF
    refine ⟨_, rfl, _, rfl, p, _, dx, _, _, rfl, hp, W.k_Reader, W.n_Reader_its_text, rfl, _, rfl, sl, _, _, rfl, rfl, _, rfl, ?_⟩
    refine ite2 (fun h1 => ?_) (fun h1 => ?_)
    · have h1 : e < s.length := by
        have := of_decide_eq_true h1
        rw [S_len] at this
        omega
      refine ⟨_, rfl, p, _, dx, _, _, rfl, hp, W.k_Reader, W.n_Reader_its_text, rfl, _, rfl, _, _, _, rfl, rfl, sl, atI_nat (List.getElem?_eq_getElem h1), _, rfl, _, _, rfl, rfl, _, rfl, ?_⟩
      rw [congrFun hf]
      cases hc : f s[e] with
      | true =>
        refine hT _ fun N F hN hF => ?_
        refine ⟨_, rfl, _, _, rfl, rfl, ?_⟩
        exact hN (s.length - (e + 1)) _ _ (by omega) ⟨e + 1, rfl, rfl, rfl, hsc.next (List.getElem?_eq_getElem h1) hc⟩
      | false => exact hF _ ⟨e, rfl, rfl, hsc, fun c z => by
          rw [List.getElem?_eq_getElem h1] at z
          cases z
          exact hc⟩
    · have h1 : ¬ e < s.length := by
        intro z
        apply h1
        rw [S_len]
        exact decide_eq_true (by omega)
      exact hF _ ⟨e, rfl, rfl, hsc, fun c z => by
        rw [List.getElem?_eq_none (by omega)] at z
        cases z⟩
  · rintro σ H1 ⟨e, rfl, rfl, hsc, hst⟩
    obtain ⟨e1, e2⟩ := hsc.stop hst
    refine ⟨_, rfl, p, _, dx, _, _, rfl, hp, W.k_Reader, W.n_Reader_its_text, rfl, _, rfl, p, _, dx, _, _, rfl, hp, W.k_Reader, W.n_Reader_its_place, rfl, _, rfl, _, rfl, _, rfl, _, rfl, sl, ?_⟩
    rw [cut_ij, e1]
    refine ⟨_, rfl, _, rfl, p, _, dx, _, rfl, hp, W.k_Reader, W.n_Reader_its_place, by simp, ?_⟩
    refine ⟨_, rfl, hq _ (SameB.refl p _).upd ⟨dx, by rw [upd_same, e2] <;> rfl⟩⟩
abbrev n_Reader_word_here : List Str := ["self", "found"]
theorem sc_Reader_word_here : FnScope n_Reader_word_here ["self"] (defScope s_Reader_word_here) := ⟨rfl, rfl, rfl, by decide +kernel, rfl, by decide +kernel, by decide +kernel⟩
theorem bi_Reader_word_here : ∀ (kV doc pm : Value) (an : Option Addr) (cdv ct : Value) (us : List Value), us.length = 1 → bindArgs (PySem.W.fnOf d_Reader_word_here.name d_Reader_word_here.qual d_Reader_word_here.params d_Reader_word_here.body d_Reader_word_here.scope .none kV doc pm an cdv ct) ⟨us, []⟩ = pure ([("self" : Str)].zip us) := fun kV doc pm an cdv ct us hu => by
  match us, hu with
  | [u0], _ => rfl
def spWord (K : PySem.W.Frag) : Sp := fun vs H Q E => ∃ p s i, vs = [.ref p] ∧ RdAt K H p s i ∧ s.length ≤ 1000000 ∧
  (M.word (s.drop i) = none → ∀ H', SameB p H H' → E (.ref (CN K)) none H') ∧ (∀ w r, M.word (s.drop i) = some (w, r) → ∀ H', SameB p H H' → RdAt K H' p s (i + w.length) → Q (.str (S w)) H')
theorem o_word_here (W : Wl K mg) : OkD w K mg base (CXN w) 3 d_Reader_word_here ["self"] (spWord K) := by
  refine HL.ok_of W.D_Reader_word_here sc_Reader_word_here (fun vs H Q E ⟨_, _, _, h, _⟩ => by rw [h]; rfl) bi_Reader_word_here fun cdv A outer s H vs Q E hr h => ?_
  have tk := takes_of (X := cxOf (CXN w) P0 w K mg base n_Reader_word_here d_Reader_word_here.qual d_Reader_word_here.scope (fAd K d_Reader_word_here.at_) cdv A outer s H E) rfl rfl rfl rfl
  have nd := sc_Reader_word_here.nd
  obtain ⟨tL, hc_LETTERS⟩ := W.c_LETTERS
  have O_need := o_need (w := w) (base := base) W
  have O_is_name := o_is_name (w := w) (base := base) W
  have O_signs := o_signs (w := w) (base := base) W
  refine ⟨_, (pss_cons (ps_set (i := 1) nd rfl (Or.inl rfl) (pe_cam O_signs W.k_Reader W.m_Reader_signs (hr.mono (by omega)) pass0 (pv 0) (pa_cons (pe_glob (v := .str "abcdefghijklmnopqrstuvwxyz") (by rfl) hc_LETTERS ⟨_, rfl⟩) pa_nil)))
    (pss_cons (ps_expr (pe_cal O_need (hr.mono (by omega)) W.g_need (passes_call tk (fun _ _ _ _ h => h)) (pa_cons (pe_cal O_is_name (hr.mono (by omega)) W.g_is_name pass0 (pa_cons (pv 1) pa_nil)) pa_nil)))
    (pss_one (ps_ret (pv 1))))), ?_⟩
  obtain ⟨p, s, i, rfl, hp, hs, hF, hT⟩ := h
  obtain ⟨dx, hp'⟩ := id hp
  refine ⟨_, rfl, p, dx, _, rfl, hp', rfl, p, s, i, _, rfl, hp, hs, ?_⟩
  intro f hf H1 e1 hp1
  obtain rfl : f = M.isLet := funext fun c => by rw [hf c, isLet_in]
  refine ⟨_, rfl, _, rfl, ?_, fun H2 e2 => ?_⟩
  · have := (List.takeWhile_sublist M.isLet (l := s.drop i)).length_le
    rw [List.length_drop] at this
    omega
  have hall : ((s.drop i).takeWhile M.isLet).all M.isLet = true := List.all_eq_true.mpr (M.span_all _)
  rw [hall, Bool.and_true]
  have e3 : SameB p H H2 := e1.trans (.of e2)
  have hp2 : RdAt K H2 p s (i + ((s.drop i).takeWhile M.isLet).length) := let ⟨dx, q⟩ := hp1; ⟨dx, e2 _ _ q⟩
  refine ⟨_, rfl, fun hk => ?_, fun hk => ?_⟩
  · exact ⟨_, rfl, hT _ _ (by unfold M.word; rw [if_pos (of_decide_eq_true hk)]) _ e3 hp2⟩
  · exact hF (by unfold M.word; rw [if_neg (of_decide_eq_false hk)]) _ e3
abbrev n_number_of : List Str := ["text", "sign"]
theorem sc_number_of : FnScope n_number_of ["text"] (defScope s_number_of) := ⟨rfl, rfl, rfl, by decide +kernel, rfl, by decide +kernel, by decide +kernel⟩
theorem bi_number_of : ∀ (kV doc pm : Value) (an : Option Addr) (cdv ct : Value) (us : List Value), us.length = 1 → bindArgs (PySem.W.fnOf d_number_of.name d_number_of.qual d_number_of.params d_number_of.body d_number_of.scope .none kV doc pm an cdv ct) ⟨us, []⟩ = pure ([("text" : Str)].zip us) := fun kV doc pm an cdv ct us hu => by
  match us, hu with
  | [u0], _ => rfl
def spNumber (K : PySem.W.Frag) : Sp := fun vs H Q E => ∃ s w, vs = [.str (S w)] ∧ w = s.takeWhile M.isDig ∧ s.length ≤ 1000000 ∧
  (M.number s = none → ∀ H', Same H H' → E (.ref (CN K)) none H') ∧ (∀ k r, M.number s = some (k, r) → ∀ H', Same H H' → Q (.int (k : Nat)) H')
theorem o_number_of (W : Wl K mg) : OkD w K mg base (CXN w) 3 d_number_of ["text"] (spNumber K) := by
  refine HL.ok_of W.D_number_of sc_number_of (fun vs H Q E ⟨_, _, h, _⟩ => by rw [h]; rfl) bi_number_of fun cdv A outer s H vs Q E hr h => ?_
  have tk := takes_of (X := cxOf (CXN w) P0 w K mg base n_number_of d_number_of.qual d_number_of.scope (fAd K d_number_of.at_) cdv A outer s H E) rfl rfl rfl rfl
  have nd := sc_number_of.nd
  obtain ⟨tL, hc_DIGITS⟩ := W.c_DIGITS
  obtain ⟨tM, hc_MOST_DIGITS⟩ := W.c_MOST_DIGITS
  have O_need := o_need (w := w) (base := base) W
  refine ⟨_, (pss_cons (ps_expr (pe_cal O_need (hr.mono (by omega)) W.g_need (passes_call tk (fun _ _ _ _ h => h)) (pa_cons (pe_and (pe_chain op_lt op_le pe_int (pe_callB call_len_str (by rfl) W.f_len (by decide +kernel) (pa_cons (pv 0) pa_nil)) (pe_glob (v := .int 9) (by rfl) hc_MOST_DIGITS ⟨_, rfl⟩)) (pe_one (pe_callB (cr_all rfl) (by rfl) W.f_all (by decide +kernel) (pa_cons (pe_lc (own := [("sign", 1)]) (g := gName 1) (tt := tYes) (by rfl) nd (pi_str (pv 0)) (blkOk_by (own := [("sign", 1)]) (N := n_number_of) (sc := defScope s_number_of) (by decide +kernel)) (fun _ _ _ _ _ => pg_name (i := 1) nd rfl (Or.inl rfl)) (fun _ _ _ _ _ => pts_nil) (fun _ _ _ _ _ => (pe_cmpR op_in_sign (pv 1) (pe_glob (v := .str "0123456789") (by rfl) hc_DIGITS ⟨_, rfl⟩) (by rfl)))) pa_nil)))) pa_nil)))
    (pss_cons (ps_expr (pe_cal O_need (hr.mono (by omega)) W.g_need (passes_call tk (fun _ _ _ _ h => h)) (pa_cons (pe_or (pe_cmpR op_eq (pv 0) pe_str (nomark _)) (pe_one (pe_cmpR op_ne (pe_ix ix_str (pv 0) pe_int (fun _ _ => rfl)) pe_str (nomark _)))) pa_nil)))
    (pss_one (ps_ret (pe_callTy call_int_str (by rfl) W.f_int (by decide +kernel) (pa_cons (pv 0) pa_nil)))))), ?_⟩
  obtain ⟨s, w, rfl, hw, hs, hF, hT⟩ := h
  have hwl : w.length ≤ 1000000 := by
    have := (List.takeWhile_sublist M.isDig (l := s)).length_le
    rw [hw]
    omega
  have hall : ∀ c ∈ w, M.isDig c = true := by
    rw [hw]
    exact M.span_all _
  have wl : (S w).length ≤ sizeLine := by rw [S_len]; exact small hwl
  have b1 : decide ((0 : Int) < ((S w).length : Nat)) = decide (0 < w.length) := by
    rw [S_len]
    exact decide_eq_decide.mpr (by omega)
  have b2 : decide ((((S w).length : Nat) : Int) ≤ 9) = decide (w.length ≤ 9) := by
    rw [S_len]
    exact decide_eq_decide.mpr (by omega)
  refine ⟨_, rfl, _, rfl, wl, _, _, rfl, rfl, ?_⟩
  refine ⟨_, rfl, ite2 (fun h1 => ?_) (fun h1 => ?_)⟩
  · rw [b1] at h1
    have h1 := of_decide_eq_true h1
    refine ⟨_, _, rfl, rfl, _, rfl, ite2 (fun h2 => ?_) (fun h2 => ?_)⟩
    · rw [b2] at h2
      have h2 := of_decide_eq_true h2
      refine ⟨_, rfl, _, rfl, fun D hD => HL.lcS (out := w.map fun c => V.bl (M.isDig c)) hD (by simp [S]) (small hwl) (fun k c y H Q hx ho e hl hq => ?_) fun H1 e1 hl => ?_⟩
      · refine ⟨_, rfl, _, _, rfl, rfl, ?_⟩
        have hc : w[k]? = some c := by simpa [S] using hx
        rw [List.getElem?_map, hc] at ho
        have ho : some (V.bl (M.isDig c)) = some y := ho
        cases ho
        rw [isDig_in]
        exact hq _ (Same.refl _)
      · refine ⟨_, w.map M.isDig, rfl, .inl (.inl (by rw [hl, List.map_map] <;> rfl)), ?_⟩
        rw [all_id, List.all_eq_true.mpr hall]
        refine ⟨_, rfl, fun _ => ?_, nofun⟩
        have hne : w ≠ [] := fun z => by rw [z] at h1; simp at h1
        obtain ⟨c, w', ew⟩ := List.exists_cons_of_ne_nil hne
        refine ⟨_, rfl, rfl, _, rfl, ite2 (fun h3 => ?_) (fun h3 => ?_)⟩
        · rw [HL.ofq, dec_S] at h3
          refine ⟨_, rfl, fun _ => ?_, nofun⟩
          refine ⟨_, rfl, _, _, rfl, SX.int_S ?_ hne (by omega), by rw [S_len]; omega, ?_⟩
          · refine List.all_eq_true.mpr fun d hd => ?_
            have := (M.dig_iff d).mp (hall d hd)
            simp [this]
          · exact hT _ _ (by unfold M.number; rw [← hw, if_pos ⟨⟨h1, h2⟩, .inl (of_decide_eq_true h3)⟩]) _ e1
        · rw [HL.ofq, dec_S] at h3
          have h3 := fun z => h3 (decide_eq_true z)
          refine ⟨_, rfl, _, _, c, rfl, rfl, wl, (show atI w ((0 : Nat) : Int) = some c from atI_nat (by rw [ew] <;> rfl)), rfl, ?_⟩
          rw [HL.ofq, show (⟨#[c]⟩ : Str) = S [c] from rfl, dec_S]
          refine ⟨_, rfl, fun hk => ?_, fun hk => ?_⟩
          · have hc : c ≠ 48 := fun z => by
              rw [z] at hk
              revert hk
              decide
            refine ⟨_, rfl, _, _, rfl, SX.int_S ?_ hne (by omega), by rw [S_len]; omega, ?_⟩
            · refine List.all_eq_true.mpr fun d hd => ?_
              have := (M.dig_iff d).mp (hall d hd)
              simp [this]
            · exact hT _ _ (by unfold M.number; rw [← hw, if_pos ⟨⟨h1, h2⟩, .inr (by rw [ew]; simpa using hc)⟩]) _ e1
          · have hc : c = 48 := by
              have h4 : decide ([c] = List.map Char.toNat "0".toList) = true := by simpa using hk
              have h5 := of_decide_eq_true h4
              have h6 : [c] = [48] := h5
              injection h6
            refine hF ?_ _ e1
            unfold M.number
            rw [← hw, if_neg]
            rintro ⟨_, z | z⟩
            · exact h3 z
            · rw [ew, hc] at z
              exact z rfl
    · rw [b2] at h2
      refine ⟨_, rfl, nofun, fun _ => hF ?_ _ (Same.refl _)⟩
      unfold M.number
      rw [← hw, if_neg (fun z => h2 (decide_eq_true z.1.2))]
  · rw [b1] at h1
    refine ⟨_, rfl, iteF ⟨_, rfl, nofun, fun _ => hF ?_ _ (Same.refl _)⟩⟩
    unfold M.number
    rw [← hw, if_neg (fun z => h1 (decide_eq_true z.1.1))]
end
end K91
end

section
set_option Elab.async false
set_option linter.all false
set_option maxRecDepth 100000
set_option maxHeartbeats 4000000
/-! k91: several. -/
namespace K91
open PySem PySem.Spec PyProof.Rows L2 He HL
section
variable {w : World} {K : PySem.W.Frag} {mg : Str → Option Value} {base : Heap}
/-- the reader at p has r still to read -/
def RdR (K : PySem.W.Frag) (H : Hp) (p : Addr) (s r : List Nat) : Prop := ∃ i, RdAt K H p s i ∧ s.drop i = r
theorem RdR.ins {H : Hp} {p : Addr} {s r : List Nat} (h : RdR K H p s r) : ∃ dx fs, H p = some (.ins (RC K) dx fs) := let ⟨_, ⟨dx, e⟩, _⟩ := h; ⟨dx, _, e⟩
/-- what reading may change: the reader, tables of code -/
abbrev XRd (p : Addr) : Addr → HO → Prop := fun b o => b ≠ p ∧ ∀ ps, o ≠ .tbl ps
abbrev Kp (p : Addr) : Hp → Hp → Prop := Fr (XRd p)
theorem kpB {p : Addr} {H H' : Hp} (e : SameB p H H') : Kp p H H' := fun b o h x => e b o h x.1
theorem kpS {p : Addr} {H H' : Hp} (e : Same H H') : Kp p H H' := fun b o h x => e b o h
theorem kpN {p : Addr} {H H' : Hp} {dx : Addr} {fs : List (Str × V)} {C : Addr} (h : H p = some (.ins C dx fs)) (e : LamX.ExtN H H') : Kp p H H' := fun b o z x => e b o z x.2
theorem kpT {p : Addr} {H H' : Hp} {s r : List Nat} (e : Kp p H H') (h : RdR K H p s r) : TupK H H' := e.tup fun b xs z => ⟨fun q => by
  obtain ⟨dx, fs, h⟩ := h.ins
  rw [q, h] at z
  exact (nomatch z), fun ps q => (nomatch q)⟩
theorem tabB {T : List (Addr × Str)} {p : Addr} {H H' : Hp} {s r : List Nat} (t : LamX.Tabs T H) (e : SameB p H H') (h : RdR K H p s r) : LamX.Tabs T H' := fun x hx => by
  obtain ⟨dx, fs, h⟩ := h.ins
  obtain ⟨ps, h1, h2, h3⟩ := t x hx
  refine ⟨ps, e _ _ h1 (fun z => by rw [z, h] at h1; cases h1), h2, fun pos cv hc => ?_⟩
  obtain ⟨c, e1, e2⟩ := h3 pos cv hc
  exact ⟨c, e1, e _ _ e2 (fun z => by rw [z, h] at e2; cases e2)⟩
theorem drop_takes {s w r : List Nat} {i : Nat} (h : M.takes w (s.drop i) = some r) : s.drop (i + w.length) = r := by
  unfold M.takes at h
  split at h
  · rw [← List.drop_drop]
    exact Option.some.inj h
  · cases h
/-- takes, by what is left to read -/
def spTakesR (K : PySem.W.Frag) : Sp := fun vs H Q _ => ∃ p s r w, vs = [.ref p, .str (S w)] ∧ RdR K H p s r ∧ s.length ≤ 1000000 ∧ w.length ≤ 1000 ∧
  (M.takes w r = none → Q (.bl false) H) ∧ (∀ r', M.takes w r = some r' → ∀ H', SameB p H H' → RdR K H' p s r' → Q (.bl true) H')
theorem o_takesR (W : Wl K mg) : OkD w K mg base CX0 1 d_Reader_takes ["self", "sign"] (spTakesR K) := (o_takes W).imp fun vs H Q E ⟨p, s, r, w, e, ⟨i, h1, h2⟩, h3, h4, h5, h6⟩ =>
  ⟨p, s, i, w, e, h1, h3, h4, fun z => h5 (h2 ▸ z), fun r' z H' e' q => h6 r' (h2 ▸ z) H' e' ⟨_, q, drop_takes z⟩⟩
def spNeedsR (K : PySem.W.Frag) : Sp := fun vs H Q E => ∃ p s r w, vs = [.ref p, .str (S w)] ∧ RdR K H p s r ∧ s.length ≤ 1000000 ∧ w.length ≤ 1000 ∧
  (M.takes w r = none → E (.ref (CN K)) none H) ∧ (∀ r', M.takes w r = some r' → ∀ H', SameB p H H' → RdR K H' p s r' → Q .non H')
theorem o_needsR (W : Wl K mg) : OkD w K mg base (CXN w) 3 d_Reader_needs ["self", "sign"] (spNeedsR K) := (o_needs W).imp fun vs H Q E ⟨p, s, r, w, e, ⟨i, h1, h2⟩, h3, h4, h5, h6⟩ =>
  ⟨p, s, i, w, e, h1, h3, h4, fun z => h5 (h2 ▸ z), fun r' z H' e' q => h6 r' (h2 ▸ z) H' e' ⟨_, q, drop_takes z⟩⟩
theorem drop_tw {f : Nat → Bool} {s : List Nat} {i : Nat} : s.drop (i + ((s.drop i).takeWhile f).length) = (s.drop i).dropWhile f := by
  rw [← List.drop_drop]
  generalize s.drop i = l
  induction l with
  | nil => rfl
  | cons c l ih =>
    by_cases h : f c = true
    · rw [List.takeWhile_cons_of_pos h, List.dropWhile_cons_of_pos h, List.length_cons, List.drop_succ_cons, ih]
    · rw [List.takeWhile_cons_of_neg h, List.dropWhile_cons_of_neg h]
      rfl
def spSignsR (K : PySem.W.Frag) : Sp := fun vs H Q _ => ∃ p s r z, vs = [.ref p, .str z] ∧ RdR K H p s r ∧ s.length ≤ 1000000 ∧
  ∀ f, (∀ c, f c = decide (c ∈ z.cps.toList)) → ∀ H', SameB p H H' → RdR K H' p s (r.dropWhile f) → Q (.str (S (r.takeWhile f))) H'
theorem o_signsR (W : Wl K mg) : OkD w K mg base CX0 1 d_Reader_signs ["self", "some"] (spSignsR K) := (o_signs W).imp fun vs H Q E ⟨p, s, r, z, e, ⟨i, h1, h2⟩, h3, h4⟩ =>
  ⟨p, s, i, z, e, h1, h3, fun f hf H' e' q => by
    subst h2
    exact h4 f hf H' e' ⟨_, q, drop_tw⟩⟩
def spWordR (K : PySem.W.Frag) : Sp := fun vs H Q E => ∃ p s r, vs = [.ref p] ∧ RdR K H p s r ∧ s.length ≤ 1000000 ∧
  (M.word r = none → ∀ H', SameB p H H' → E (.ref (CN K)) none H') ∧ (∀ w r', M.word r = some (w, r') → ∀ H', SameB p H H' → RdR K H' p s r' → Q (.str (S w)) H')
theorem o_wordR (W : Wl K mg) : OkD w K mg base (CXN w) 3 d_Reader_word_here ["self"] (spWordR K) := (o_word_here W).imp fun vs H Q E ⟨p, s, r, e, ⟨i, h1, h2⟩, h3, h4, h5⟩ =>
  ⟨p, s, i, e, h1, h3, fun z => h4 (h2 ▸ z), fun w r' z H' e' q => h5 w r' (h2 ▸ z) H' e' ⟨_, q, by
    obtain ⟨e1, _, _⟩ := M.word_some z
    rw [← List.drop_drop, e1, List.drop_left]⟩⟩
abbrev n_Reader_several : List Str := ["self", "end", "between", "read", "found"]
theorem sc_Reader_several : FnScope n_Reader_several ["self", "end", "between", "read"] (defScope s_Reader_several) := ⟨rfl, rfl, rfl, by decide +kernel, rfl, by decide +kernel, by decide +kernel⟩
theorem bi_Reader_several : ∀ (kV doc pm : Value) (an : Option Addr) (cdv ct : Value) (us : List Value), us.length = 4 → bindArgs (PySem.W.fnOf d_Reader_several.name d_Reader_several.qual d_Reader_several.params d_Reader_several.body d_Reader_several.scope .none kV doc pm an cdv ct) ⟨us, []⟩ = pure ([("self" : Str), ("end" : Str), ("between" : Str), ("read" : Str)].zip us) := fun kV doc pm an cdv ct us hu => by
  match us, hu with
  | [u0, u1, u2, u3], _ => rfl
theorem codeO_ins {c : Addr} {q : Str} {C dx : Addr} {fs : List (Str × V)} : LamX.CodeO c q ≠ .ins C dx fs := fun z => by
  unfold LamX.CodeO at z
  cases z
theorem codeO_lst {c : Addr} {q : Str} {xs : List V} : LamX.CodeO c q ≠ .lst xs := fun z => by
  unfold LamX.CodeO at z
  cases z
/-- several, by what its reader reads -/
def TTs (K : PySem.W.Frag) {α : Type} (rd : List Nat → Option (α × List Nat)) (G : α → Prop) (At : Hp → α → V → Prop) (dat : α → PyData) (T : List (Addr × Str)) : List V → XK → (XK → Hp → VK → Prop) → Hp → VK → Prop := fun vs Eg tl H Q =>
  ∃ (p : Addr) (s r e b : List Nat), vs = [.ref p, .str (S e), .str (S b)] ∧ RdR K H p s r ∧ s.length ≤ 1000000 ∧ r.length ≤ s.length ∧ e.length ≤ 1000 ∧ b.length ≤ 1000 ∧ LamX.Tabs T H ∧
  (∀ (E' : XK) (H' : Hp) (Q' : VK) (r' : List Nat), RdR K H' p s r' → Kp p H H' → LamX.Tabs T H' → (∃ a, r = a ++ r') →
    (rd r' = none → ∀ H'', Kp p H' H'' → LamX.Tabs T H'' → E' (.ref (CN K)) none H'') →
    (∀ d r'', rd r' = some (d, r'') → ∀ v H'', Kp p H' H'' → LamX.Tabs T H'' → RdR K H'' p s r'' → At H'' d v → Q' v H'') → tl E' H' Q') ∧
  (M.sev rd e b (r.length + 1) [] r = none → ∀ H', Kp p H H' → LamX.Tabs T H' → Eg (.ref (CN K)) none H') ∧
  (∀ cs r', M.sev rd e b (r.length + 1) [] r = some (cs, r') → ∀ u us H', Kp p H H' → LamX.Tabs T H' → RdR K H' p s r' → H' u = some (.tup us) → All2 (fun v c => At H' c v) us cs → us.length ≤ 1000000 → Q (.ref u) H')
theorem eqv_nil {α : Type} (dat : α → PyData) (l : List α) : PyData.eqv (.list (l.map dat)) (.list []) = l.isEmpty := by
  cases l <;> simp [PyData.eqv, PyData.eqvAll]
theorem dpAll_of {α : Type} {K : PySem.W.Frag} {H : Hp} {At : Hp → α → V → Prop} {dat : α → PyData} (h : ∀ d v, At H d v → Dp K H v (dat d)) : ∀ {us : List V} {cs : List α}, All2 (fun v c => At H c v) us cs → DpAll K H us (cs.map dat)
  | [], [], _ => .nil
  | u :: us, c :: cs, z => .cons (h c u z.1) (dpAll_of h z.2)
  | [], _ :: _, z => False.elim z
  | _ :: _, [], z => False.elim z
theorem lay_of {α : Type} {G : α → Prop} {dat : α → PyData} (h : ∀ d, G d → (dat d).canLay0 = true) : ∀ {cs : List α}, (∀ c ∈ cs, G c) → PyData.canLayAll0 (cs.map dat) = true
  | [], _ => rfl
  | c :: cs, z => by
    show ((dat c).canLay0 && PyData.canLayAll0 (cs.map dat)) = true
    rw [h c (z c (by simp)), lay_of h fun x hx => z x (by simp [hx])]
    rfl
theorem several_gives (W : Wl K mg) {α : Type} {rd : List Nat → Option (α × List Nat)} {G : α → Prop} {At : Hp → α → V → Prop} {dat : α → PyData} {T : List (Addr × Str)} {q0 : Str}
    (hrd : ∀ s d r, rd s = some (d, r) → G d ∧ ∃ a, s = a ++ r ∧ a ≠ []) (hAt : ∀ H H' d v, TupK H H' → At H d v → At H' d v) (hdp : ∀ H d v, At H d v → Dp K H v (dat d)) (hlay : ∀ d, G d → (dat d).canLay0 = true)
    {N : List Str} {qual : Str} {scope : Scope} {f0 : Addr} {cdv0 : Value} {A : Around} {outer : List Env} {s0 : Shared} {H0 : Hp} {E0 : XK} {k : Nat} {g : Addr} :
    XP.GivesM (cxOf (CXN w) P0 w K mg base N qual scope f0 cdv0 A outer s0 H0 E0) (CXN w) (k + 3) n_Reader_several d_Reader_several.qual d_Reader_several.scope g d_Reader_several.body "read" 3 q0 (TTs K rd G At dat T) := by
  intro f c' cdg s1 H vs Q E tl hvs hr hact hc h
  have tk := takes_of (X := cxOf (CXN w) P0 w K mg base n_Reader_several d_Reader_several.qual d_Reader_several.scope g cdg (cxOf (CXN w) P0 w K mg base N qual scope f0 cdv0 A outer s0 H0 E0).A (cxOf (CXN w) P0 w K mg base N qual scope f0 cdv0 A outer s0 H0 E0).stack s1 H E) rfl rfl rfl rfl
  have nd := sc_Reader_several.nd
  have O_takes := o_takesR (w := w) (base := base) W
  have O_needs := o_needsR (w := w) (base := base) W
  have hact2 := fun p1 p2 => hact (fun cls d _ H => E cls d H) _ _ E p1 p2 tk (fun _ _ _ _ h => h)
  refine ⟨_, (pss_cons (ps_set (i := 4) nd rfl (Or.inl rfl) (pe_lst pa_nil))
    (pss_cons (ps_while (passes_of rfl) (pt_not (pt_val (pe_cam O_takes W.k_Reader W.m_Reader_takes (hr.mono (by omega)) pass0 (pv 0) (pa_cons (pv 1) pa_nil)))) (pss_cons (ps_if (pt_cmpR XP.op_neE (pv 4) (pe_lst pa_nil) (nomark _)) (pss_one (ps_expr (pe_cam O_needs W.k_Reader W.m_Reader_needs (hr.mono (by omega)) (passes_call tk (fun _ _ _ _ h => h)) (pv 0) (pa_cons (pv 2) pa_nil)))) pss_nil)
      (pss_one (ps_expr (pe_bm PySem.F.plainAttrs_list PySem.F.slot_list_append PySem.F.type_list_append mt_append (pv 4) (pa_cons (hact2 _ _) pa_nil))))))
    (pss_one (ps_ret (pe_callTy call_tuple_of (by rfl) W.f_tuple (by decide +kernel) (pa_cons (pv 4) pa_nil)))))), ?_⟩
  obtain ⟨p, s, r, e, b, rfl, hR, hs, hrs, he, hb, hT, hact3, hF, hQ⟩ := h
  obtain ⟨dx0, fs0, hp0⟩ := hR.ins
  have hun : ∀ X : PyData, (cxOf (CXN w) P0 w K mg base N qual scope f0 cdv0 A outer s0 H0 E0).A.deeper (envOfC d_Reader_several.qual d_Reader_several.scope s1.heap.objs.size g cdg) |>.units |> fun u => u + min X.depth (PyData.list []).depth < cLine := fun X => by
    have h1 := hr.un
    have h2 : (PyData.list []).depth = 1 := by simp [PyData.depth, PyData.depthAll]
    have h3 := Nat.min_le_right X.depth (PyData.list []).depth
    show _ + _ < _
    omega
  refine ⟨Nat.zero_le _, fun L hL => ?_⟩
  have nLp : L ≠ p := (ne_of_none hp0 hL).symm
  refine HL.while_zz
    (fun m σ H1 => ∃ (acc : List α) (us : List V) (r' : List Nat) (n : Nat), m = r'.length ∧ σ = [some (.ref p), some (.str (S e)), some (.str (S b)), some (.ref f), some (.ref L)] ∧ Kp p H H1 ∧ H1 L = some (.lst us) ∧ All2 (fun v c => At H1 c v) us acc ∧ (∀ c ∈ acc, G c) ∧
      RdR K H1 p s r' ∧ LamX.Tabs T H1 ∧ (∃ a, r = a ++ r') ∧ us.length + r'.length ≤ r.length ∧ r'.length < n ∧ M.sev rd e b n acc r' = M.sev rd e b (r.length + 1) [] r)
    (fun σ H1 => ∃ (acc : List α) (us : List V) (r' : List Nat), σ = [some (.ref p), some (.str (S e)), some (.str (S b)), some (.ref f), some (.ref L)] ∧ Kp p H H1 ∧ H1 L = some (.lst us) ∧ All2 (fun v c => At H1 c v) us acc ∧
      RdR K H1 p s r' ∧ LamX.Tabs T H1 ∧ us.length ≤ r.length ∧ M.sev rd e b (r.length + 1) [] r = some (acc, r'))
    ⟨_, [], [], r, r.length + 1, rfl, rfl, .of (same_new hL), upd_same, trivial, (fun c hc => by simp at hc), ⟨hR.choose, let ⟨dx, z⟩ := hR.choose_spec.1; ⟨dx, by rw [upd_ne nLp.symm]; exact z⟩, hR.choose_spec.2⟩, hT.ext (same_new hL), ⟨[], rfl⟩, by simp, by omega, rfl⟩ ?_ ?_
  · rintro m σ H1 ⟨acc, us, r', n, rfl, rfl, e1, hl, hA, hG, hR1, hT1, ⟨a, ha⟩, hn, hfu, hse⟩ R hYes hNo
    obtain ⟨ix, ⟨dx, hp⟩, _⟩ := id hR1
    have nL : ∀ {H2 : Hp} {o : HO}, H2 p = some o → ∀ {xs}, H2 L = some (HO.lst xs) → True := fun _ _ _ => trivial
    obtain ⟨n, rfl⟩ : ∃ m, n = m + 1 := ⟨n - 1, by omega⟩
    have kpL : ∀ {Ha Hb : Hp} {xs : List V}, Kp p Ha Hb → Ha L = some (.lst xs) → Hb L = some (.lst xs) := fun z h => z _ _ h ⟨nLp, fun ps q => nomatch q⟩
    have kpC : ∀ {Ha : Hp}, Kp p H Ha → Ha c' = some (LamX.CodeO c' q0) := fun z => z _ _ hc ⟨fun q => by rw [q, hp0] at hc; exact codeO_ins (Option.some.inj hc).symm, fun ps => LamX.codeO_ne ps⟩
    refine ⟨_, rfl, p, dx, _, rfl, hp, rfl, _, rfl, p, s, r', e, rfl, hR1, hs, he, fun hno => ⟨_, rfl, ?_⟩, fun r2 hyes H2 e2 hR2 => ⟨_, rfl, ?_⟩⟩
    · -- one more
      have hse' : M.sev rd e b (n + 1) acc r' = (match (if acc.isEmpty = true then some r' else M.takes b r') with
        | none => none
        | some s1 => match rd s1 with
          | none => none
          | some (d, s2) => M.sev rd e b n (acc ++ [d]) s2) := by
        show (match M.takes e r' with | some r => some (acc, r) | none => _) = _
        rw [hno] <;> rfl
      refine hYes _ fun N F hN hZ => ?_
      -- what is read next, from r3
      have step : ∀ (r3 : List Nat) (H3 : Hp), Kp p H1 H3 → RdR K H3 p s r3 → LamX.Tabs T H3 → (∃ a, r' = a ++ r3) → (if acc.isEmpty = true then some r' else M.takes b r') = some r3 → tDrop (tBM K "list" rAppend (tVar 4) (tCons (fun σZ HZ Q => σZ[3]? = some (some (V.ref f)) ∧ HZ c' = some (LamX.CodeO c' q0) ∧ tl E HZ Q) tNil))
          { nx := N, ct := N, bk := F, rt := Q } [some (.ref p), some (.str (S e)), some (.str (S b)), some (.ref f), some (.ref L)] H3 := by
        intro r3 H3 e3 hR3 hT3 ⟨a3, ha3⟩ h3
        have hl3 := kpL e3 hl
        have e03 := e1.trans e3
        refine ⟨_, rfl, .inl ⟨rfl, _, sql hl3⟩, rfl, kpC e03, ?_⟩
        rw [h3] at hse'
        refine hact3 E H3 _ r3 hR3 e03 hT3 ⟨a ++ a3, by rw [ha, ha3, List.append_assoc]⟩ (fun hn4 H4 e4 hT4 => ?_) fun d r4 hd v H4 e4 hT4 hR4 hv => ?_
        · refine hF ?_ H4 (e03.trans e4) hT4
          rw [← hse, hse']
          show (match rd r3 with | none => none | some (d, s2) => _) = _
          rw [hn4] <;> rfl
        · have hl4 := kpL e4 hl3
          obtain ⟨g1, a4, ha4, hne⟩ := hrd _ _ _ hd
          have hlen4 : r4.length < r3.length := by
            have := List.length_pos_iff.mpr hne
            rw [ha4, List.length_append]
            omega
          have hlen3 : r3.length ≤ r'.length := by rw [ha3, List.length_append]; omega
          refine ⟨L, us, v, rfl, rfl, hl4, Nat.lt_of_le_of_lt (show us.length ≤ 1000000 by omega) (by decide), ?_⟩
          have tk4 : TupK H1 H4 := kpT (e3.trans e4) hR1
          refine hN r4.length _ _ (by omega) ⟨acc ++ [d], us ++ [v], r4, n, rfl, rfl, ?_, upd_same, ?_, ?_, ?_, ?_, ⟨a ++ (a3 ++ a4), by rw [ha, ha3, ha4]; simp⟩, by rw [List.length_append]; simp; omega, by omega, ?_⟩
          · exact (e03.trans e4).mutN hL
          · have up : TupK H4 (upd H4 L (.lst (us ++ [v]))) := (TupK.refl H4).mut hl4 (fun xs q => nomatch q)
            exact All2.snoc (R := fun v c => At (upd H4 L (.lst (us ++ [_]))) c v) (hAt _ _ _ _ up hv) (hA.imp fun v c z => hAt _ _ _ _ (tk4.trans up) z)
          · intro c hc
            rcases List.mem_append.mp hc with z | z
            · exact hG c z
            · have : c = d := by simpa using z
              rw [this]
              exact g1
          · obtain ⟨i4, ⟨dx4, z4⟩, z5⟩ := hR4
            exact ⟨i4, ⟨dx4, by rw [upd_ne nLp.symm]; exact z4⟩, z5⟩
          · exact fun x hx => by
              obtain ⟨ps, t1, t2, t3⟩ := hT4 x hx
              refine ⟨ps, by rw [upd_ne (fun z => by rw [z, hl4] at t1; cases t1)]; exact t1, t2, fun pos cv hcv => ?_⟩
              obtain ⟨c0, c1, c2⟩ := t3 pos cv hcv
              exact ⟨c0, c1, by rw [upd_ne (fun z => by rw [z, hl4] at c2; exact codeO_lst (Option.some.inj c2).symm)]; exact c2⟩
          · rw [← hse, hse']
            show _ = (match rd r3 with | none => none | some (d, s2) => _)
            rw [hd] <;> rfl
      refine ⟨_, rfl, Nat.zero_le _, fun l hlN => ?_⟩
      have sN : Same H1 (upd H1 l (.lst [])) := same_new hlN
      have hRN : RdR K (upd H1 l (.lst [])) p s r' := ⟨hR1.choose, let ⟨dx, z⟩ := hR1.choose_spec.1; ⟨dx, sN _ _ z⟩, hR1.choose_spec.2⟩
      have hpN := sN _ _ hp
      refine ⟨.list (acc.map dat), .list [], .lst (sql (sN _ _ hl)) (dpAll_of (hdp _) (hA.imp fun v c z => hAt _ _ _ _ (.of sN) z)), .lst (sql upd_same) .nil, lay_of hlay hG, rfl, hun _, ?_⟩
      rw [eqv_nil]
      refine ⟨_, rfl, ?_⟩
      cases hacc : acc.isEmpty with
      | true => exact iteF (step r' _ (kpS sN) hRN (hT1.ext sN) ⟨[], rfl⟩ (by rw [hacc] <;> rfl))
      | false =>
        refine iteT ⟨_, rfl, p, dx, _, rfl, hpN, rfl, _, rfl, p, s, r', b, rfl, hRN, hs, hb, fun hno3 => ?_, fun r3 hyes3 H3 e3 hR3 => ?_⟩
        · refine hF ?_ _ (e1.trans (kpS sN)) (hT1.ext sN)
          rw [← hse, hse', hacc]
          show (match M.takes b r' with | none => none | some s1 => _) = _
          rw [hno3] <;> rfl
        · exact step r3 _ ((kpS sN).trans (kpB e3)) hR3 (tabB (hT1.ext sN) e3 hRN) ⟨b, M.takes_some.mp hyes3⟩ (by rw [hacc]; exact hyes3)
    · -- the end is met
      have := hNo H2 ⟨acc, us, r2, rfl, e1.trans (kpB e2), kpL (kpB e2) hl, hA.imp fun v c z => hAt _ _ _ _ (kpT (kpB e2) hR1) z, hR2, tabB hT1 e2 hR1, by omega, by
        rw [← hse]
        show (match M.takes e r' with | some r => some (acc, r) | none => _) = _
        rw [hyes] <;> rfl⟩
      exact this
  · rintro σ H1 ⟨acc, us, r', rfl, e1, hl, hA, hR1, hT1, hn, hse⟩
    refine ⟨_, rfl, L, us, rfl, .inl ⟨sql hl, fun u hu => ?_⟩⟩
    have up : TupK H1 (upd H1 u (.tup us)) := .of (same_new hu)
    refine hQ acc r' hse u us _ (e1.new hu) (hT1.ext (same_new hu)) ?_ upd_same (hA.imp fun v c z => hAt _ _ _ _ up z) (by omega)
    obtain ⟨i4, ⟨dx4, z4⟩, z5⟩ := hR1
    exact ⟨i4, ⟨dx4, same_new hu _ _ z4⟩, z5⟩
end
end K91
end

section
set_option Elab.async false
set_option linter.all false
set_option maxRecDepth 100000
set_option maxHeartbeats 4000000
/-! k91: condition_here. -/
namespace K91
open PySem PySem.Spec PyProof.Rows L2 He HL
theorem sq (s : String) : V.str (Str.ofString s) = V.str (S (M.q s)) := by
  rw [HL.ofq]
  rfl
theorem eqV_str (a b : Str) : eqV (.str a) (.str b) = decide (a = b) := by
  show (a == b) = _
  by_cases h : a = b
  · rw [decide_eq_true h, h]
    simp
  · rw [decide_eq_false h]
    simpa using h
theorem S_dec (a b : List Nat) : decide (S a = S b) = decide (a = b) := by
  by_cases h : a = b
  · rw [h]
    simp
  · rw [decide_eq_false h, decide_eq_false fun z => h (S_inj z)]
theorem in_words {K : PySem.W.Frag} {H : Hp} {t : Addr} {w : List Nat} (l : List String) {Q : VK} (ht : H t = some (.tup (l.map fun s => V.str (Str.ofString s)))) (h : Q (.bl (l.any fun s => decide (w = M.q s))) H) : rIn K false (.str (S w)) (.ref t) H Q := by
  refine ⟨t, _, rfl, .inr (sqt ht), rfl, ?_, ?_⟩
  · rw [List.all_map]
    exact List.all_eq_true.mpr fun _ _ => rfl
  · have e : inV (.str (S w)) (l.map fun s => V.str (Str.ofString s)) = l.any fun s => decide (w = M.q s) := by
      unfold inV
      rw [List.any_map]
      congr 1
      funext s
      show eqV (V.str (Str.ofString s)) (.str (S w)) = _
      rw [sq, eqV_str, S_dec]
      exact decide_eq_decide.mpr ⟨Eq.symm, Eq.symm⟩
    show Q (.bl (inV _ _)) H
    rw [e]
    exact h
/-- the tables that the makers of lambdas have -/
structure Tb (K : PySem.W.Frag) (mg : Str → Option Value) (base : Heap) : Prop where
  tab : ∀ p ∈ tf, LamX.TabB base mg (He.cT K p).1 (He.cT K p).2
def qLam (d : DefD) : Str := (d.qual ++ ".<locals>.") ++ "<lambda>"
def TK (K : PySem.W.Frag) : List (Addr × Str) := [((He.cT K ("Reader", some "condition_here")).2, qLam d_Reader_condition_here), ((He.cT K ("Reader", some "part_here")).2, qLam d_Reader_part_here), ((He.cT K ("law", none)).2, qLam d_law)]
theorem Wl.nodT {K : PySem.W.Frag} {mg : Str → Option Value} (W : Wl K mg) : ((TK K).map (·.1)).Nodup := let ⟨_, _, _, _, c⟩ := W.ex; of_decide_eq_true c.nod
theorem tab_uniq {T : List (Addr × Str)} (h : (T.map (·.1)).Nodup) {P : Addr} {q : Str} (hm : (P, q) ∈ T) : ∀ p ∈ T, p.1 = P → p.2 = q := by
  induction T with
  | nil => exact fun p hp => by simp at hp
  | cons a T ih =>
    rw [List.map_cons, List.nodup_cons] at h
    intro p hp e
    rcases List.mem_cons.mp hp with z1 | hp1
    · rcases List.mem_cons.mp hm with z2 | hm1
      · rw [z1, ← z2]
      · exact absurd (List.mem_map.mpr ⟨(P, q), hm1, by rw [← z1, e]⟩) h.1
    · rcases List.mem_cons.mp hm with z2 | hm1
      · exact absurd (List.mem_map.mpr ⟨p, hp1, by rw [← z2, e]⟩) h.1
      · exact ih h.2 hm1 p hp1 e
section
variable {w : World} {K : PySem.W.Frag} {mg : Str → Option Value} {base : Heap}
/-- a def that makes lambdas: its code object is told -/
theorem ok_ofT {CX : CXT} {k : Nat} {d : DefD} {N ps : List Str} {sp : Sp} (D : ∃ fd, FunD K d.name d.qual d.params d.body d.scope [] [] (fAd K d.at_) fd) (Sc : FnScope N ps d.scope) (len : ∀ vs H Q E, sp vs H Q E → vs.length = ps.length)
    (hb : ∀ (kV doc pm : Value) (an : Option Addr) (cdv ct : Value) (us : List Value), us.length = ps.length → bindArgs (PySem.W.fnOf d.name d.qual d.params d.body d.scope .none kV doc pm an cdv ct) ⟨us, []⟩ = pure (ps.zip us))
    (hbody : ∀ (A : Around) (outer : List Env) (s : Shared) (H : Hp) (vs : List V) (Q : VK) (E : XK), Room k (A.deeper (envOfC d.qual d.scope s.heap.objs.size (fAd K d.at_) (.ref (He.cT K d.at_).1))) → sp vs H Q E →
      ∃ t, PSs (cxOf CX P0 w K mg base N d.qual d.scope (fAd K d.at_) (.ref (He.cT K d.at_).1) A outer s H E) d.body t ∧ t { nx := fun _ H' => Q .non H', rt := Q } (L2.start N vs) H) : OkD w K mg base CX (k + 1) d ps sp := by
  obtain ⟨fd, F⟩ := D
  obtain ⟨oc, od, dV, kV, doc, pm, an, cdv, ct, osl, rfl, lk, hcd, h1, h2⟩ := id F.ex
  obtain ⟨c, rfl⟩ := He.codeIn_ref hcd
  have hc : He.codeOf K d.at_ = c := He.codeOf_eq lk rfl
  refine ⟨⟨_, fn_of lk hcd Sc len fun A outer s H vs Q E hr hsp => ?_, F.bindsN hb⟩, F.kp⟩
  subst hc
  exact hbody A outer s H vs Q E hr hsp
theorem o_vac {CX : CXT} {k : Nat} {d : DefD} {N ps : List Str} {sp : Sp} (D : ∃ fd, FunD K d.name d.qual d.params d.body d.scope [] [] (fAd K d.at_) fd) (Sc : FnScope N ps d.scope)
    (hb : ∀ (kV doc pm : Value) (an : Option Addr) (cdv ct : Value) (us : List Value), us.length = ps.length → bindArgs (PySem.W.fnOf d.name d.qual d.params d.body d.scope .none kV doc pm an cdv ct) ⟨us, []⟩ = pure (ps.zip us)) (h : ∀ vs H Q E, ¬ sp vs H Q E) : OkD w K mg base CX (k + 1) d ps sp :=
  HL.ok_of D Sc (fun vs H Q E z => (h vs H Q E z).elim) hb fun cdv A outer s H vs Q E hr z => (h vs H Q E z).elim
theorem RdR.len {H : Hp} {p : Addr} {s r : List Nat} (h : RdR K H p s r) : r.length ≤ s.length := by
  obtain ⟨i, _, e⟩ := h
  rw [← e, List.length_drop]
  omega
theorem RdR.keep {H H' : Hp} {p : Addr} {s r : List Nat} (h : RdR K H p s r) (e : ∀ o, H p = some o → (∀ ps, o ≠ .tbl ps) → H' p = some o) : RdR K H' p s r := let ⟨i, ⟨dx, z⟩, q⟩ := h; ⟨i, ⟨dx, e _ z (fun _ z => nomatch z)⟩, q⟩
abbrev n_Reader_condition_here : List Str := ["self", "word", "some"]
theorem sc_Reader_condition_here : FnScope n_Reader_condition_here ["self"] (defScope s_Reader_condition_here) := ⟨rfl, rfl, rfl, by decide +kernel, rfl, by decide +kernel, by decide +kernel⟩
theorem bi_Reader_condition_here : ∀ (kV doc pm : Value) (an : Option Addr) (cdv ct : Value) (us : List Value), us.length = 1 → bindArgs (PySem.W.fnOf d_Reader_condition_here.name d_Reader_condition_here.qual d_Reader_condition_here.params d_Reader_condition_here.body d_Reader_condition_here.scope .none kV doc pm an cdv ct) ⟨us, []⟩ = pure ([("self" : Str)].zip us) := fun kV doc pm an cdv ct us hu => by
  match us, hu with
  | [u0], _ => rfl
def spCond (K : PySem.W.Frag) (n : Nat) : Sp := fun vs H Q E => ∃ p s r, vs = [.ref p] ∧ RdR K H p s r ∧ s.length ≤ 1000000 ∧ M.om r < n ∧ LamX.Tabs (TK K) H ∧
  (M.cond n r = none → ∀ H', Kp p H H' → LamX.Tabs (TK K) H' → E (.ref (CN K)) none H') ∧
  (∀ c r', M.cond n r = some (c, r') → ∀ v H', Kp p H H' → LamX.Tabs (TK K) H' → RdR K H' p s r' → CAt H' c v → Q v H')
theorem cond_rd {n : Nat} : ∀ s c r, M.cond n s = some (c, r) → c.wf ∧ ∃ a, s = a ++ r ∧ a ≠ [] := fun s c r h => ⟨(M.cond_sound n s c r h).2, _, (M.cond_sound n s c r h).1, M.sh_ne c⟩
theorem o_cond (W : Wl K mg) (B : Tb K mg base) : ∀ (n L : Nat), (n = 0 → 1 ≤ L) → (0 < n → n + 5 ≤ L) → OkD w K mg base (CXN w) L d_Reader_condition_here ["self"] (spCond K n) := by
  intro n
  induction n using Nat.strongRecOn with
  | _ n ih =>
  intro L h0 h1
  by_cases hn : n = 0
  · obtain ⟨k, rfl⟩ : ∃ k, L = k + 1 := ⟨L - 1, by have := h0 hn; omega⟩
    exact o_vac W.D_Reader_condition_here sc_Reader_condition_here bi_Reader_condition_here fun vs H Q E ⟨p, s, r, _, _, _, z, _⟩ => by omega
  obtain ⟨k, rfl⟩ : ∃ k, L = k + 4 + 1 := ⟨L - 5, by have := h1 (by omega); omega⟩
  have hk : n ≤ k := by have := h1 (by omega); omega
  have O_in := ih (n - 3) (by omega) (k + 2) (fun _ => by omega) (fun z => by omega)
  refine ok_ofT W.D_Reader_condition_here sc_Reader_condition_here (fun vs H Q E ⟨_, _, _, h, _⟩ => by rw [h]; rfl) bi_Reader_condition_here fun A outer s H vs Q E hr h => ?_
  have tk := takes_of (X := cxOf (CXN w) P0 w K mg base n_Reader_condition_here d_Reader_condition_here.qual d_Reader_condition_here.scope (fAd K d_Reader_condition_here.at_) (.ref (He.cT K d_Reader_condition_here.at_).1) A outer s H E) rfl rfl rfl rfl
  have nd := sc_Reader_condition_here.nd
  have O_takes := o_takesR (w := w) (base := base) W
  have O_needs := o_needsR (w := w) (base := base) W
  have O_need := o_need (w := w) (base := base) W
  have O_word_here := o_wordR (w := w) (base := base) W
  obtain ⟨fdS, DS⟩ := W.D_Reader_several
  have bS : L2.Binds K fdS ["self", "end", "between", "read"] [] := DS.bindsN bi_Reader_several
  have hG := several_gives (w := w) (base := base) W (rd := M.cond (n - 3)) (G := M.Cond.wf) (At := CAt) (dat := cd) (T := TK K) (q0 := qLam d_Reader_condition_here) cond_rd (fun H H' d v e z => z.keep e) (fun H d v z => z.dp d v) cd_lay
    (N := n_Reader_condition_here) (qual := d_Reader_condition_here.qual) (scope := d_Reader_condition_here.scope) (f0 := fAd K d_Reader_condition_here.at_) (cdv0 := .ref (He.cT K d_Reader_condition_here.at_).1) (A := A) (outer := outer) (s0 := s) (H0 := H) (E0 := E) (k := k) (g := ma K (RC K) "several")
  refine ⟨_, (pss_cons (ps_if (pt_val (pe_cam O_takes W.k_Reader W.m_Reader_takes (hr.mono (by omega)) pass0 (pv 0) (pa_cons pe_str pa_nil))) (pss_one (ps_ret (pe_tup (pa_cons pe_str (pa_cons (pe_cam0 O_word_here W.k_Reader W.m_Reader_word_here (hr.mono (by omega)) (passes_call tk (fun _ _ _ _ h => h)) (pv 0)) pa_nil))))) pss_nil)
    (pss_cons (ps_set (i := 1) nd rfl (Or.inl rfl) (pe_cam0 O_word_here W.k_Reader W.m_Reader_word_here (hr.mono (by omega)) (passes_call tk (fun _ _ _ _ h => h)) (pv 0)))
    (pss_cons (ps_if (pt_cmpR op_in_seq (pv 1) (pe_tup (pa_cons pe_str (pa_cons pe_str pa_nil))) (by rfl)) (pss_one (ps_ret (pe_tup (pa_cons (pv 1) pa_nil)))) pss_nil)
    (pss_cons (ps_expr (pe_cal O_need (hr.mono (by omega)) W.g_need (passes_call tk (fun _ _ _ _ h => h)) (pa_cons (pe_cmpR op_in_seq (pv 1) (pe_tup (pa_cons pe_str (pa_cons pe_str (pa_cons pe_str pa_nil)))) (by rfl)) pa_nil)))
    (pss_cons (ps_expr (pe_cam O_needs W.k_Reader W.m_Reader_needs (hr.mono (by omega)) (passes_call tk (fun _ _ _ _ h => h)) (pv 0) (pa_cons pe_str pa_nil)))
    (pss_cons (ps_set (i := 2) nd rfl (Or.inl rfl) (XP.pe_lammeth (T := TK K) (TT := TTs K (M.cond (n - 3)) M.Cond.wf CAt cd (TK K)) (C := RC K) (c := (He.cT K ("Reader", some "condition_here")).1) (P := (He.cT K ("Reader", some "condition_here")).2) (k := k + 2) (CXg := CXN w) (t := fun E' => tMeth (RC K) "condition_here" (spCond K (n - 3)) [] E' (tVar 0) tNil) (E := E) DS bS rfl W.k_Reader W.m_Reader_several sc_Reader_several rfl (.inl rfl) hG (B.tab _ (by simp [tf])) rfl (by simp [TK]; left; rfl) (tab_uniq W.nodT (by simp [TK]; left; rfl)) hr (passes_call tk (fun _ _ _ _ h => h)) (show LamX.LamS (defScope s_Reader_condition_here) _ from LamX.lamS_by (by decide +kernel)) rfl (fun _ _ _ _ _ => rfl) (fun A' outer' s' H' E' f c' hr2 => pe_cam0 O_in W.k_Reader W.m_Reader_condition_here hr2 (passes_call (takes_of rfl rfl rfl rfl) (fun _ _ _ _ h => h)) (pv 0)) (pv 0) pe_str pe_str))
    (pss_cons (ps_expr (pe_cal O_need (hr.mono (by omega)) W.g_need (passes_call tk (fun _ _ _ _ h => h)) (pa_cons (pe_or (pe_cmpR op_ne (pv 1) pe_str (nomark _)) (pe_one (pe_cmpR op_eq (pe_callB call_len_seq (by rfl) W.f_len (by decide +kernel) (pa_cons (pv 2) pa_nil)) pe_int (nomark _)))) pa_nil)))
    (pss_one (ps_ret (pe_ifExp (pt_cmpR op_eq (pv 1) pe_str (nomark _)) (pe_tup (pa_cons pe_str (pa_cons (pe_ix ix_tup (pv 2) pe_int (fun _ _ => rfl)) pa_nil))) (pe_tup (pa_cons (pv 1) (pa_cons (pv 2) pa_nil))))))))))))), ?_⟩
  obtain ⟨p, s, r, rfl, hR, hs, hom, hT, hF, hQ⟩ := h
  rw [M.cond, dif_neg hn] at hF
  have hQ : ∀ c r', (match M.takes (M.q "?") r with
      | some r => (match M.word r with
        | none => none
        | some (w, r2) => some (M.Cond.ask w, r2))
      | none => (match M.word r with
        | none => none
        | some (w, r) =>
          if w = M.q "yes" then some (M.Cond.word true, r) else if w = M.q "no" then some (M.Cond.word false, r)
          else if w = M.q "not" ∨ w = M.q "all" ∨ w = M.q "any" then
            (match M.takes (M.q "(") r with
            | none => none
            | some r1 => (match M.sev (M.cond (n - 3)) (M.q ")") (M.q ", ") (r1.length + 1) [] r1 with
              | none => none
              | some (cs, r2) => if w = M.q "not" then (match cs with
                  | [c] => some (M.Cond.neg c, r2)
                  | _ => none) else some (M.Cond.many (decide (w = M.q "all")) cs, r2)))
          else none)) = some (c, r') → ∀ v H', Kp p H H' → LamX.Tabs (TK K) H' → RdR K H' p s r' → CAt H' c v → Q v H' := fun c r' z => hQ c r' (by rw [M.cond, dif_neg hn]; exact z)
  obtain ⟨i0, ⟨dx, hp⟩, _⟩ := id hR
  refine ⟨_, rfl, p, dx, _, rfl, hp, rfl, p, s, r, M.q "?", congrArg (fun z => [V.ref p, z]) (sq "?"), hR, hs, by decide, fun h1 => ⟨_, rfl, iteF ?_⟩, fun r1 h1 H1 e1 hR1 => ⟨_, rfl, iteT ?_⟩⟩
  · -- a word
    simp only [h1] at hF hQ
    refine ⟨_, rfl, p, dx, _, rfl, hp, rfl, p, s, r, rfl, hR, hs, fun h2 H2 e2 => ?_, fun x r2 h2 H2 e2 hR2 => ?_⟩
    · simp only [h2] at hF
      exact hF trivial _ (kpB e2) (tabB hT e2 hR)
    · have hx := (M.word_some h2).2.1
      have hr2 := (M.word_some h2).1
      simp only [h2] at hF hQ
      have hT2 := tabB hT e2 hR
      refine ⟨_, rfl, by decide, fun t ht => in_words ["yes", "no"] upd_same ⟨_, rfl, ?_⟩⟩
      simp only [List.any_cons, List.any_nil, Bool.or_false]
      have k3 : Kp p H (upd H2 t (.tup [V.str "yes", V.str "no"])) := (kpB e2).new ht
      have s3 : Same H2 (upd H2 t (.tup [V.str "yes", V.str "no"])) := same_new ht
      generalize upd H2 t (.tup [V.str "yes", V.str "no"]) = H3 at k3 s3 ⊢
      have hT3 := hT2.ext s3
      have hR3 : RdR K H3 p s r2 := hR2.keep fun o h _ => s3 _ _ h
      by_cases hy : x = M.q "yes"
      · rw [decide_eq_true hy, Bool.true_or]
        simp only [if_pos hy] at hQ
        refine iteT ⟨_, rfl, by show 1 ≤ sizeLine; decide, fun t2 ht2 => ?_⟩
        refine hQ _ _ rfl _ _ (k3.new ht2) (hT3.ext (same_new ht2)) (hR3.keep fun o h _ => same_new ht2 _ _ h) ?_
        unfold CAt
        exact ⟨t2, rfl, by rw [upd_same, hy]; rfl⟩
      by_cases hno : x = M.q "no"
      · rw [decide_eq_false hy, decide_eq_true hno, Bool.false_or]
        simp only [if_neg hy, if_pos hno] at hQ
        refine iteT ⟨_, rfl, by show 1 ≤ sizeLine; decide, fun t2 ht2 => ?_⟩
        refine hQ _ _ rfl _ _ (k3.new ht2) (hT3.ext (same_new ht2)) (hR3.keep fun o h _ => same_new ht2 _ _ h) ?_
        unfold CAt
        exact ⟨t2, rfl, by rw [upd_same, hno]; rfl⟩
      rw [decide_eq_false hy, decide_eq_false hno, Bool.false_or]
      simp only [if_neg hy, if_neg hno] at hF hQ
      refine iteF ⟨_, rfl, by show 3 ≤ sizeLine; decide, fun t2 ht2 => in_words ["not", "all", "any"] upd_same ?_⟩
      simp only [List.any_cons, List.any_nil, Bool.or_false]
      have k4 : Kp p H (upd H3 t2 (.tup [V.str "not", V.str "all", V.str "any"])) := k3.new ht2
      have s4 : Same H3 (upd H3 t2 (.tup [V.str "not", V.str "all", V.str "any"])) := same_new ht2
      generalize upd H3 t2 (.tup [V.str "not", V.str "all", V.str "any"]) = H4 at k4 s4 ⊢
      have hT4 := hT3.ext s4
      have hR4 : RdR K H4 p s r2 := hR3.keep fun o h _ => s4 _ _ h
      refine ⟨_, rfl, fun h3 => ?_, fun h3 => ?_⟩
      · have h3 : x = M.q "not" ∨ x = M.q "all" ∨ x = M.q "any" := by simpa using h3
        simp only [if_pos h3] at hF hQ
        obtain ⟨i4, ⟨dx4, hp4⟩, _⟩ := id hR4
        refine ⟨_, rfl, p, dx4, _, rfl, hp4, rfl, p, s, r2, M.q "(", congrArg (fun z => [V.ref p, z]) (sq "("), hR4, hs, by decide, fun h5 => ?_, fun r5 h5 H5 e5 hR5 => ?_⟩
        · simp only [h5] at hF
          exact hF trivial _ k4 hT4
        · simp only [h5] at hF hQ
          have k5 := k4.trans (kpB e5)
          have hT5 := tabB hT4 e5 hR4
          obtain ⟨i5, ⟨dx5, hp5⟩, _⟩ := id hR5
          have om5 : M.om r5 + 3 ≤ M.om r := by
            rw [hr2, M.takes_some.mp h5, M.om_app, M.om_app, show M.om (M.q "(") = 3 from by decide]
            omega
          refine ⟨_, rfl, p, dx5, _, rfl, hp5, rfl, hT5, fun H6 e6 hT6 => ?_⟩
          have k56 : Kp p H5 H6 := kpN hp5 e6
          have k6 := k5.trans k56
          have hR6 : RdR K H6 p s r5 := hR5.keep fun o h n => e6 _ _ h n
          refine ⟨p, s, r5, M.q ")", M.q ", ", by rw [sq ")", sq ", "], hR6, hs, hR6.len, by decide, by decide, hT6, fun E' H' Q' r' hR' k' hT' ⟨a, ha⟩ hno' hyes' => ?_, fun h7 H7 k7 hT7 => ?_, fun cs r7 h7 u us H7 k7 hT7 hR7 hu hA hul => ?_⟩
          · obtain ⟨i7, ⟨dx7, hp7⟩, _⟩ := id hR'
            refine ⟨_, rfl, p, dx7, _, rfl, hp7, rfl, p, s, r', rfl, hR', hs, ?_, hT', hno', fun c r'' hc v H'' z1 z2 z3 z4 => hyes' c r'' hc v H'' z1 z2 z3 z4⟩
            have : M.om r' ≤ M.om r5 := by
              rw [ha, M.om_app]
              omega
            omega
          · simp only [h7] at hF
            exact hF trivial _ (k6.trans k7) hT7
          · simp only [h7] at hF hQ
            have k7' := k6.trans k7
            refine ⟨_, rfl, rfl, ?_⟩
            rw [sq "not", dec_S]
            refine ⟨_, rfl, ?_⟩
            by_cases hx1 : x = M.q "not"
            · rw [decide_eq_true (show x = M.q "not" from hx1)]
              simp only [if_pos hx1] at hF hQ
              refine iteF ⟨_, rfl, u, _, rfl, .inr (sqt hu), rfl, ?_⟩
              have hlen := hA.length
              refine ⟨_, rfl, fun h8 => ?_, fun h8 => ?_⟩
              · have h8 : (us.length : Int) = 1 := by
                  have := of_decide_eq_true h8
                  injection this
                obtain ⟨c, rfl⟩ : ∃ c, cs = [c] := List.length_eq_one_iff.mp (by omega)
                obtain ⟨v1, rfl⟩ : ∃ v, us = [v] := List.length_eq_one_iff.mp (by omega)
                refine ⟨_, rfl, rfl, ?_⟩
                rw [dec_S, decide_eq_true (show x = M.q "not" from hx1)]
                refine ⟨_, rfl, iteT ⟨_, rfl, u, _, _, v1, rfl, rfl, sqt hu, (show atI [v1] ((0 : Nat) : Int) = some v1 from atI_nat rfl), by show 2 ≤ sizeLine; decide, fun t ht => ?_⟩⟩
                refine hQ _ _ rfl _ _ (k7'.new ht) (hT7.ext (same_new ht)) (hR7.keep fun o h _ => same_new ht _ _ h) ?_
                unfold CAt
                exact ⟨t, v1, rfl, upd_same, hA.1.keep (.of (same_new ht))⟩
              · have h8 : cs.length ≠ 1 := fun z => by
                  rw [decide_eq_true (show V.int (us.length : Nat) = V.int 1 by rw [hlen, z] <;> rfl)] at h8
                  cases h8
                refine hF ?_ _ k7' hT7
                match cs, h8 with
                | [], _ => rfl
                | [c], z => exact absurd rfl z
                | _ :: _ :: _, _ => rfl
            · rw [decide_eq_false (show ¬ x = M.q "not" from hx1)]
              simp only [if_neg hx1] at hF hQ
              refine iteT ⟨_, rfl, fun _ => ?_, nofun⟩
              refine ⟨_, rfl, rfl, ?_⟩
              rw [dec_S, decide_eq_false (show ¬ x = M.q "not" from hx1)]
              refine ⟨_, rfl, iteF ⟨_, rfl, _, rfl, by show 2 ≤ sizeLine; decide, fun t ht => ?_⟩⟩
              refine hQ _ _ rfl _ _ (k7'.new ht) (hT7.ext (same_new ht)) (hR7.keep fun o h _ => same_new ht _ _ h) ?_
              unfold CAt
              have e9 : x = M.nq (decide (x = M.q "all")) := by
                rcases h3 with z | z | z
                · exact absurd z hx1
                · rw [z]
                  rfl
                · rw [z]
                  rfl
              refine ⟨t, u, us, rfl, by rw [upd_same, ← e9], same_new ht _ _ hu, CAtL.keep (.of (same_new ht)) _ _ (cAtL_iff.mpr hA)⟩
      · have h3 : ¬ (x = M.q "not" ∨ x = M.q "all" ∨ x = M.q "any") := by simpa using h3
        simp only [if_neg h3] at hF
        exact hF trivial _ k4 hT4
  · -- an asked one
    simp only [h1] at hF hQ
    obtain ⟨i1, ⟨dx1, hp1⟩, _⟩ := id hR1
    have hT1 := tabB hT e1 hR
    refine ⟨_, rfl, p, dx1, _, rfl, hp1, rfl, p, s, r1, rfl, hR1, hs, fun h2 H2 e2 => ?_, fun x r2 h2 H2 e2 hR2 => ⟨by show 2 ≤ sizeLine; decide, fun t ht => ?_⟩⟩
    · simp only [h2] at hF
      exact hF trivial _ (kpB (e1.trans e2)) (tabB hT1 e2 hR1)
    · simp only [h2] at hQ
      refine hQ _ _ rfl _ _ ((kpB (e1.trans e2)).new ht) ((tabB hT1 e2 hR1).ext (same_new ht)) (hR2.keep fun o h _ => same_new ht _ _ h) ?_
      unfold CAt
      exact ⟨t, rfl, by rw [upd_same, sq]⟩
end
end K91
end

section
set_option Elab.async false
set_option linter.all false
set_option maxRecDepth 100000
set_option maxHeartbeats 8000000
/-! k91: part_here. -/
namespace K91
open PySem PySem.Spec PyProof.Rows L2 He HL
section
variable {w : World} {K : PySem.W.Frag} {mg : Str → Option Value} {base : Heap}
abbrev n_Reader_part_here : List Str := ["self", "word", "condition", "first"]
theorem sc_Reader_part_here : FnScope n_Reader_part_here ["self"] (defScope s_Reader_part_here) := ⟨rfl, rfl, rfl, by decide +kernel, rfl, by decide +kernel, by decide +kernel⟩
theorem bi_Reader_part_here : ∀ (kV doc pm : Value) (an : Option Addr) (cdv ct : Value) (us : List Value), us.length = 1 → bindArgs (PySem.W.fnOf d_Reader_part_here.name d_Reader_part_here.qual d_Reader_part_here.params d_Reader_part_here.body d_Reader_part_here.scope .none kV doc pm an cdv ct) ⟨us, []⟩ = pure ([("self" : Str)].zip us) := fun kV doc pm an cdv ct us hu => by
  match us, hu with
  | [u0], _ => rfl
def spPart (K : PySem.W.Frag) (n : Nat) : Sp := fun vs H Q E => ∃ p s r, vs = [.ref p] ∧ RdR K H p s r ∧ s.length ≤ 1000000 ∧ M.om r < n ∧ LamX.Tabs (TK K) H ∧
  (M.part n r = none → ∀ H', Kp p H H' → LamX.Tabs (TK K) H' → E (.ref (CN K)) none H') ∧
  (∀ c r', M.part n r = some (c, r') → ∀ v H', Kp p H H' → LamX.Tabs (TK K) H' → RdR K H' p s r' → PAt H' c v → Q v H')
theorem part_rd {n : Nat} : ∀ s c r, M.part n s = some (c, r) → c.wf ∧ ∃ a, s = a ++ r ∧ a ≠ [] := fun s c r h => ⟨(M.part_sound n s c r h).2, _, (M.part_sound n s c r h).1, M.shp_ne c⟩
theorem om_suf {a b s : List Nat} (h : s = a ++ b) : M.om b ≤ M.om s := by
  rw [h, M.om_app]
  omega
theorem o_part (W : Wl K mg) (B : Tb K mg base) : ∀ (n L : Nat), (n = 0 → 1 ≤ L) → (0 < n → n + 6 ≤ L) → OkD w K mg base (CXN w) L d_Reader_part_here ["self"] (spPart K n) := by
  intro n
  induction n using Nat.strongRecOn with
  | _ n ih =>
  intro L h0 h1
  by_cases hn : n = 0
  · obtain ⟨k, rfl⟩ : ∃ k, L = k + 1 := ⟨L - 1, by have := h0 hn; omega⟩
    exact o_vac W.D_Reader_part_here sc_Reader_part_here bi_Reader_part_here fun vs H Q E ⟨p, s, r, _, _, _, z, _⟩ => by omega
  obtain ⟨k, rfl⟩ : ∃ k, L = k + 4 + 1 := ⟨L - 5, by have := h1 (by omega); omega⟩
  have hk : n + 1 ≤ k := by have := h1 (by omega); omega
  have O_in := ih (n - 3) (by omega) (k + 2) (fun _ => by omega) (fun z => by omega)
  have O_part_here := ih (n - 1) (by omega) (k + 4) (fun _ => by omega) (fun z => by omega)
  have O_condition_here := o_cond (w := w) W B (n - 1) (k + 4) (fun _ => by omega) (fun z => by omega)
  refine ok_ofT W.D_Reader_part_here sc_Reader_part_here (fun vs H Q E ⟨_, _, _, h, _⟩ => by rw [h]; rfl) bi_Reader_part_here fun A outer s H vs Q E hr h => ?_
  have tk := takes_of (X := cxOf (CXN w) P0 w K mg base n_Reader_part_here d_Reader_part_here.qual d_Reader_part_here.scope (fAd K d_Reader_part_here.at_) (.ref (He.cT K d_Reader_part_here.at_).1) A outer s H E) rfl rfl rfl rfl
  have nd := sc_Reader_part_here.nd
  have O_takes := o_takesR (w := w) (base := base) W
  have O_needs := o_needsR (w := w) (base := base) W
  have O_need := o_need (w := w) (base := base) W
  have O_signs := o_signsR (w := w) (base := base) W
  have O_number_of := o_number_of (w := w) (base := base) W
  have O_word_here := o_wordR (w := w) (base := base) W
  obtain ⟨tD, hc_DIGITS⟩ := W.c_DIGITS
  obtain ⟨fdS, DS⟩ := W.D_Reader_several
  have bS : L2.Binds K fdS ["self", "end", "between", "read"] [] := DS.bindsN bi_Reader_several
  have hG := several_gives (w := w) (base := base) W (rd := M.part (n - 3)) (G := M.Part.wf) (At := PAt) (dat := pd) (T := TK K) (q0 := qLam d_Reader_part_here) part_rd (fun H H' d v e z => z.keep e) (fun H d v z => z.dp d v) pd_lay
    (N := n_Reader_part_here) (qual := d_Reader_part_here.qual) (scope := d_Reader_part_here.scope) (f0 := fAd K d_Reader_part_here.at_) (cdv0 := .ref (He.cT K d_Reader_part_here.at_).1) (A := A) (outer := outer) (s0 := s) (H0 := H) (E0 := E) (k := k) (g := ma K (RC K) "several")
  refine ⟨_, (pss_cons (ps_if (pt_val (pe_cam O_takes W.k_Reader W.m_Reader_takes (hr.mono (by omega)) pass0 (pv 0) (pa_cons pe_str pa_nil))) (pss_one (ps_ret (pe_tup (pa_cons pe_str (pa_cons (XP.pe_lammeth (T := TK K) (TT := TTs K (M.part (n - 3)) M.Part.wf PAt pd (TK K)) (C := RC K) (c := (He.cT K ("Reader", some "part_here")).1) (P := (He.cT K ("Reader", some "part_here")).2) (k := k + 2) (CXg := CXN w) (t := fun E' => tMeth (RC K) "part_here" (spPart K (n - 3)) [] E' (tVar 0) tNil) (E := E) DS bS rfl W.k_Reader W.m_Reader_several sc_Reader_several rfl (.inl rfl) hG (B.tab _ (by simp [tf])) rfl (by simp [TK]; right; left; rfl) (tab_uniq W.nodT (by simp [TK]; right; left; rfl)) hr (passes_call tk (fun _ _ _ _ h => h)) (show LamX.LamS (defScope s_Reader_part_here) _ from LamX.lamS_by (by decide +kernel)) rfl (fun _ _ _ _ _ => rfl) (fun A' outer' s' H' E' f c' hr2 => pe_cam0 O_in W.k_Reader W.m_Reader_part_here hr2 (passes_call (takes_of rfl rfl rfl rfl) (fun _ _ _ _ h => h)) (pv 0)) (pv 0) pe_str pe_str) pa_nil))))) pss_nil)
    (pss_cons (ps_set (i := 1) nd rfl (Or.inl rfl) (pe_cam0 O_word_here W.k_Reader W.m_Reader_word_here (hr.mono (by omega)) (passes_call tk (fun _ _ _ _ h => h)) (pv 0)))
    (pss_cons (ps_if (pt_cmpR op_eq (pv 1) pe_str (nomark _)) (pss_one (ps_ret (pe_tup (pa_cons pe_str pa_nil)))) pss_nil)
    (pss_cons (ps_expr (pe_cam O_needs W.k_Reader W.m_Reader_needs (hr.mono (by omega)) (passes_call tk (fun _ _ _ _ h => h)) (pv 0) (pa_cons pe_str pa_nil)))
    (pss_cons (ps_if (pt_cmpR op_eq (pv 1) pe_str (nomark _)) (pss_one (ps_ret (pe_tup (pa_cons pe_str (pa_cons (pe_cal O_number_of (hr.mono (by omega)) W.g_number_of (passes_call tk (fun _ _ _ _ h => h)) (pa_cons (pe_cam O_signs W.k_Reader W.m_Reader_signs (hr.mono (by omega)) pass0 (pv 0) (pa_cons (pe_glob (v := .str "0123456789") (by rfl) hc_DIGITS ⟨_, rfl⟩) pa_nil)) pa_nil)) pa_nil))))) pss_nil)
    (pss_cons (ps_if (pt_cmpR op_in_seq (pv 1) (pe_tup (pa_cons pe_str (pa_cons pe_str pa_nil))) (by rfl)) (pss_one (ps_ret (pe_tup (pa_cons (pe_ifExp (pt_cmpR op_eq (pv 1) pe_str (nomark _)) pe_str (pv 1)) (pa_cons (pe_cam0 O_word_here W.k_Reader W.m_Reader_word_here (hr.mono (by omega)) (passes_call tk (fun _ _ _ _ h => h)) (pv 0)) pa_nil))))) pss_nil)
    (pss_cons (ps_expr (pe_cal O_need (hr.mono (by omega)) W.g_need (passes_call tk (fun _ _ _ _ h => h)) (pa_cons (pe_cmpR op_in_seq (pv 1) (pe_tup (pa_cons pe_str (pa_cons pe_str pa_nil))) (by rfl)) pa_nil)))
    (pss_cons (ps_set (i := 2) nd rfl (Or.inl rfl) (pe_cam0 O_condition_here W.k_Reader W.m_Reader_condition_here (hr.mono (by omega)) (passes_call tk (fun _ _ _ _ h => h)) (pv 0)))
    (pss_cons (ps_if (pt_cmpR op_eq (pv 1) pe_str (nomark _)) (pss_cons (ps_expr (pe_cam O_needs W.k_Reader W.m_Reader_needs (hr.mono (by omega)) (passes_call tk (fun _ _ _ _ h => h)) (pv 0) (pa_cons pe_str pa_nil)))
      (pss_one (ps_ret (pe_tup (pa_cons pe_str (pa_cons (pv 2) (pa_cons (pe_cam0 O_part_here W.k_Reader W.m_Reader_part_here (hr.mono (by omega)) (passes_call tk (fun _ _ _ _ h => h)) (pv 0)) pa_nil))))))) pss_nil)
    (pss_cons (ps_expr (pe_cam O_needs W.k_Reader W.m_Reader_needs (hr.mono (by omega)) (passes_call tk (fun _ _ _ _ h => h)) (pv 0) (pa_cons pe_str pa_nil)))
    (pss_cons (ps_set (i := 3) nd rfl (Or.inl rfl) (pe_cam0 O_part_here W.k_Reader W.m_Reader_part_here (hr.mono (by omega)) (passes_call tk (fun _ _ _ _ h => h)) (pv 0)))
    (pss_cons (ps_expr (pe_cam O_needs W.k_Reader W.m_Reader_needs (hr.mono (by omega)) (passes_call tk (fun _ _ _ _ h => h)) (pv 0) (pa_cons pe_str pa_nil)))
    (pss_one (ps_ret (pe_tup (pa_cons pe_str (pa_cons (pv 2) (pa_cons (pv 3) (pa_cons (pe_cam0 O_part_here W.k_Reader W.m_Reader_part_here (hr.mono (by omega)) (passes_call tk (fun _ _ _ _ h => h)) (pv 0)) pa_nil))))))))))))))))))), ?_⟩
  obtain ⟨p, s, r, rfl, hR, hs, hom, hT, hF, hQ⟩ := h
  rw [M.part, dif_neg hn] at hF
  have hQ := fun c r' => hQ c r'
  rw [M.part, dif_neg hn] at hQ
  obtain ⟨i0, ⟨dx, hp⟩, _⟩ := id hR
  refine ⟨_, rfl, p, dx, _, rfl, hp, rfl, p, s, r, M.q "[", congrArg (fun z => [V.ref p, z]) (sq "["), hR, hs, by decide, fun h1 => ⟨_, rfl, iteF ?_⟩, fun r1 h1 H1 e1 hR1 => ⟨_, rfl, iteT ?_⟩⟩
  · -- a word
    simp only [h1] at hF hQ
    refine ⟨_, rfl, p, dx, _, rfl, hp, rfl, p, s, r, rfl, hR, hs, fun h2 H2 e2 => ?_, fun x r2 h2 H2 e2 hR2 => ?_⟩
    · simp only [h2] at hF
      exact hF trivial _ (kpB e2) (tabB hT e2 hR)
    have hr2 := (M.word_some h2).1
    simp only [h2] at hF hQ
    have hT2 := tabB hT e2 hR
    have k2 := kpB (H := H) e2
    refine ⟨_, rfl, rfl, ?_⟩
    rw [sq "back", dec_S]
    refine ⟨_, rfl, ?_⟩
    by_cases x1 : x = M.q "back"
    · simp only [if_pos x1] at hQ
      rw [decide_eq_true (show x = M.q "back" from x1)]
      refine iteT ⟨by show 1 ≤ sizeLine; decide, fun t ht => ?_⟩
      refine hQ _ _ rfl _ _ (k2.new ht) (hT2.ext (same_new ht)) (hR2.keep fun o h _ => same_new ht _ _ h) ?_
      unfold PAt
      exact ⟨t, rfl, upd_same⟩
    simp only [if_neg x1] at hF hQ
    rw [decide_eq_false (show ¬ x = M.q "back" from x1)]
    obtain ⟨i2, ⟨dx2, hp2⟩, _⟩ := id hR2
    refine iteF ⟨_, rfl, p, dx2, _, rfl, hp2, rfl, p, s, r2, M.q " ", congrArg (fun z => [V.ref p, z]) (sq " "), hR2, hs, by decide, fun h3 => ?_, fun r3 h3 H3 e3 hR3 => ?_⟩
    · simp only [h3] at hF
      exact hF trivial _ k2 hT2
    simp only [h3] at hF hQ
    have k3 := k2.trans (kpB e3)
    have hT3 := tabB hT2 e3 hR2
    have om3 : M.om r3 + 1 ≤ M.om r := by
      rw [hr2, M.takes_some.mp h3, M.om_app, M.om_app, show M.om (M.q " ") = 1 from by decide]
      omega
    obtain ⟨i3, ⟨dx3, hp3⟩, _⟩ := id hR3
    refine ⟨_, rfl, rfl, ?_⟩
    rw [sq "leave", dec_S]
    refine ⟨_, rfl, ?_⟩
    by_cases x2 : x = M.q "leave"
    · simp only [if_pos x2] at hF hQ
      rw [decide_eq_true (show x = M.q "leave" from x2)]
      refine iteT ⟨_, rfl, p, dx3, _, rfl, hp3, rfl, p, s, r3, _, rfl, hR3, hs, fun f hf H4 e4 hR4 => ?_⟩
      obtain rfl : f = M.isDig := funext fun c => by rw [hf c, isDig_in]
      have k4 := k3.trans (kpB e4)
      have hT4 := tabB hT3 e4 hR3
      refine ⟨r3, _, rfl, rfl, by have := hR3.len; omega, fun h5 H5 e5 => ?_, fun m r5 h5 H5 e5 => ⟨by show 2 ≤ sizeLine; decide, fun t ht => ?_⟩⟩
      · simp only [h5] at hF
        exact hF trivial _ (k4.trans (kpS e5)) (hT4.ext e5)
      · simp only [h5] at hQ
        have hr5 : r5 = r3.dropWhile M.isDig := by
          unfold M.number at h5
          split at h5
          · injection h5 with h5
            injection h5 with _ h5
            exact h5.symm
          · cases h5
        refine hQ _ _ rfl _ _ ((k4.trans (kpS e5)).new ht) ((hT4.ext e5).ext (same_new ht)) ?_ ?_
        · rw [hr5]
          exact (hR4.keep fun o h _ => e5 _ _ h).keep fun o h _ => same_new ht _ _ h
        · unfold PAt
          exact ⟨t, rfl, by rw [upd_same]⟩
    simp only [if_neg x2] at hF hQ
    rw [decide_eq_false (show ¬ x = M.q "leave" from x2)]
    refine iteF ⟨_, rfl, by show 2 ≤ sizeLine; decide, fun t ht => in_words ["do", "call"] upd_same ⟨_, rfl, ?_⟩⟩
    simp only [List.any_cons, List.any_nil, Bool.or_false]
    have k4 : Kp p H (upd H3 t (.tup [V.str "do", V.str "call"])) := k3.new ht
    have s4 : Same H3 (upd H3 t (.tup [V.str "do", V.str "call"])) := same_new ht
    generalize upd H3 t (.tup [V.str "do", V.str "call"]) = H4 at k4 s4 ⊢
    have hT4 := hT3.ext s4
    have hR4 : RdR K H4 p s r3 := hR3.keep fun o h _ => s4 _ _ h
    have hp4 := s4 _ _ hp3
    by_cases x3 : x = M.q "do"
    · simp only [if_pos x3] at hF hQ
      rw [decide_eq_true (show x = M.q "do" from x3), Bool.true_or]
      refine iteT ⟨_, rfl, rfl, ?_⟩
      rw [sq "do", dec_S, decide_eq_true (show x = M.q "do" from x3)]
      refine ⟨_, rfl, iteT ⟨_, rfl, p, dx3, _, rfl, hp4, rfl, p, s, r3, rfl, hR4, hs, fun h5 H5 e5 => ?_, fun y r5 h5 H5 e5 hR5 => ⟨by show 2 ≤ sizeLine; decide, fun t ht => ?_⟩⟩⟩
      · simp only [h5] at hF
        exact hF trivial _ (k4.trans (kpB e5)) (tabB hT4 e5 hR4)
      · simp only [h5] at hQ
        refine hQ _ _ rfl _ _ ((k4.trans (kpB e5)).new ht) ((tabB hT4 e5 hR4).ext (same_new ht)) (hR5.keep fun o h _ => same_new ht _ _ h) ?_
        unfold PAt
        exact ⟨t, rfl, by rw [upd_same, sq "step"]⟩
    simp only [if_neg x3] at hF hQ
    rw [decide_eq_false (show ¬ x = M.q "do" from x3), Bool.false_or]
    by_cases x4 : x = M.q "call"
    · simp only [if_pos x4] at hF hQ
      rw [decide_eq_true (show x = M.q "call" from x4)]
      refine iteT ⟨_, rfl, rfl, ?_⟩
      rw [sq "do", dec_S, decide_eq_false (show ¬ x = M.q "do" from x3)]
      refine ⟨_, rfl, iteF ⟨_, rfl, _, rfl, p, dx3, _, rfl, hp4, rfl, p, s, r3, rfl, hR4, hs, fun h5 H5 e5 => ?_, fun y r5 h5 H5 e5 hR5 => ⟨by show 2 ≤ sizeLine; decide, fun t ht => ?_⟩⟩⟩
      · simp only [h5] at hF
        exact hF trivial _ (k4.trans (kpB e5)) (tabB hT4 e5 hR4)
      · simp only [h5] at hQ
        refine hQ _ _ rfl _ _ ((k4.trans (kpB e5)).new ht) ((tabB hT4 e5 hR4).ext (same_new ht)) (hR5.keep fun o h _ => same_new ht _ _ h) ?_
        unfold PAt
        exact ⟨t, rfl, by rw [upd_same, x4]⟩
    simp only [if_neg x4] at hF hQ
    rw [decide_eq_false (show ¬ x = M.q "call" from x4)]
    refine iteF ⟨_, rfl, by show 2 ≤ sizeLine; decide, fun t2 ht2 => in_words ["if", "while"] upd_same ?_⟩
    simp only [List.any_cons, List.any_nil, Bool.or_false]
    have k5 : Kp p H (upd H4 t2 (.tup [V.str "if", V.str "while"])) := k4.new ht2
    have s5 : Same H4 (upd H4 t2 (.tup [V.str "if", V.str "while"])) := same_new ht2
    generalize upd H4 t2 (.tup [V.str "if", V.str "while"]) = H5 at k5 s5 ⊢
    have hT5 := hT4.ext s5
    have hR5 : RdR K H5 p s r3 := hR4.keep fun o h _ => s5 _ _ h
    have hp5 := s5 _ _ hp4
    refine ⟨_, rfl, fun h6 => ?_, fun h6 => ?_⟩
    · have h6 : x = M.q "if" ∨ x = M.q "while" := by simpa using h6
      simp only [if_pos h6] at hF hQ
      refine ⟨_, rfl, p, dx3, _, rfl, hp5, rfl, p, s, r3, rfl, hR5, hs, by omega, hT5, fun h7 H7 k7 hT7 => ?_, fun c r7 h7 v H7 k7 hT7 hR7 hc => ?_⟩
      · simp only [h7] at hF
        exact hF trivial _ (k5.trans k7) hT7
      simp only [h7] at hF hQ
      have om7 := om_suf (M.cond_sound _ _ _ _ h7).1
      have k7' := k5.trans k7
      obtain ⟨i7, ⟨dx7, hp7⟩, _⟩ := id hR7
      refine ⟨_, rfl, rfl, ?_⟩
      rw [sq "while", dec_S]
      refine ⟨_, rfl, ?_⟩
      by_cases x5 : x = M.q "while"
      · simp only [if_pos x5] at hF hQ
        rw [decide_eq_true (show x = M.q "while" from x5)]
        refine iteT ⟨_, rfl, p, dx7, _, rfl, hp7, rfl, p, s, r7, M.q ": ", congrArg (fun z => [V.ref p, z]) (sq ": "), hR7, hs, by decide, fun h8 => ?_, fun r8 h8 H8 e8 hR8 => ?_⟩
        · simp only [h8] at hF
          exact hF trivial _ k7' hT7
        simp only [h8] at hF hQ
        have om8 := om_suf (M.takes_some.mp h8)
        have k8 := k7'.trans (kpB e8)
        have hT8 := tabB hT7 e8 hR7
        obtain ⟨i8, ⟨dx8, hp8⟩, _⟩ := id hR8
        have hc8 := hc.keep (kpT (kpB e8) hR7)
        refine ⟨_, rfl, _, rfl, p, dx8, _, rfl, hp8, rfl, p, s, r8, rfl, hR8, hs, by omega, hT8, fun h9 H9 k9 hT9 => ?_, fun c9 r9 h9 v9 H9 k9 hT9 hR9 hc9 => ⟨by show 3 ≤ sizeLine; decide, fun t ht => ?_⟩⟩
        · simp only [h9] at hF
          exact hF trivial _ (k8.trans k9) hT9
        · simp only [h9] at hQ
          refine hQ _ _ rfl _ _ ((k8.trans k9).new ht) (hT9.ext (same_new ht)) (hR9.keep fun o h _ => same_new ht _ _ h) ?_
          unfold PAt
          exact ⟨t, v, v9, rfl, by rw [upd_same], (hc8.keep (kpT k9 hR8)).keep (.of (same_new ht)), hc9.keep (.of (same_new ht))⟩
      · simp only [if_neg x5] at hF hQ
        rw [decide_eq_false (show ¬ x = M.q "while" from x5)]
        refine iteF ⟨_, rfl, p, dx7, _, rfl, hp7, rfl, p, s, r7, M.q " then ", congrArg (fun z => [V.ref p, z]) (sq " then "), hR7, hs, by decide, fun h8 => ?_, fun r8 h8 H8 e8 hR8 => ?_⟩
        · simp only [h8] at hF
          exact hF trivial _ k7' hT7
        simp only [h8] at hF hQ
        have om8 := om_suf (M.takes_some.mp h8)
        have k8 := k7'.trans (kpB e8)
        have hT8 := tabB hT7 e8 hR7
        obtain ⟨i8, ⟨dx8, hp8⟩, _⟩ := id hR8
        have hc8 := hc.keep (kpT (kpB e8) hR7)
        refine ⟨_, rfl, p, dx8, _, rfl, hp8, rfl, p, s, r8, rfl, hR8, hs, by omega, hT8, fun h9 H9 k9 hT9 => ?_, fun c9 r9 h9 v9 H9 k9 hT9 hR9 hc9 => ?_⟩
        · simp only [h9] at hF
          exact hF trivial _ (k8.trans k9) hT9
        simp only [h9] at hF hQ
        have om9 := om_suf (M.part_sound _ _ _ _ h9).1
        have k9' := k8.trans k9
        obtain ⟨i9, ⟨dx9, hp9⟩, _⟩ := id hR9
        have hc8' := hc8.keep (kpT k9 hR8)
        refine ⟨_, rfl, p, dx9, _, rfl, hp9, rfl, p, s, r9, M.q " else ", congrArg (fun z => [V.ref p, z]) (sq " else "), hR9, hs, by decide, fun ha => ?_, fun ra ha Ha ea hRa => ?_⟩
        · simp only [ha] at hF
          exact hF trivial _ k9' hT9
        simp only [ha] at hF hQ
        have oma := om_suf (M.takes_some.mp ha)
        have ka := k9'.trans (kpB ea)
        have hTa := tabB hT9 ea hR9
        obtain ⟨ia, ⟨dxa, hpa⟩, _⟩ := id hRa
        have hca := hc8'.keep (kpT (kpB ea) hR9)
        have hc9a := hc9.keep (kpT (kpB ea) hR9)
        refine ⟨_, rfl, _, rfl, _, rfl, p, dxa, _, rfl, hpa, rfl, p, s, ra, rfl, hRa, hs, by omega, hTa, fun hb Hb kb hTb => ?_, fun cb rb hb vb Hb kb hTb hRb hcb => ⟨by show 4 ≤ sizeLine; decide, fun t ht => ?_⟩⟩
        · simp only [hb] at hF
          exact hF trivial _ (ka.trans kb) hTb
        · simp only [hb] at hQ
          have tb := kpT kb hRa
          refine hQ _ _ rfl _ _ ((ka.trans kb).new ht) (hTb.ext (same_new ht)) (hRb.keep fun o h _ => same_new ht _ _ h) ?_
          unfold PAt
          exact ⟨t, v, v9, vb, rfl, by rw [upd_same, sq "if"], (hca.keep tb).keep (.of (same_new ht)), (hc9a.keep tb).keep (.of (same_new ht)), hcb.keep (.of (same_new ht))⟩
    · have h6 : ¬ (x = M.q "if" ∨ x = M.q "while") := by simpa using h6
      simp only [if_neg h6] at hF
      exact hF trivial _ k5 hT5
  · -- a row
    simp only [h1] at hF hQ
    have om1 : M.om r1 + 3 ≤ M.om r := by
      rw [M.takes_some.mp h1, M.om_app, show M.om (M.q "[") = 3 from by decide]
      omega
    obtain ⟨i1, ⟨dx1, hp1⟩, _⟩ := id hR1
    have hT1 := tabB hT e1 hR
    have k1 := kpB (H := H) e1
    refine ⟨_, rfl, p, dx1, _, rfl, hp1, rfl, hT1, fun H6 e6 hT6 => ?_⟩
    have k6 := k1.trans (kpN hp1 e6)
    have hR6 : RdR K H6 p s r1 := hR1.keep fun o h n => e6 _ _ h n
    refine ⟨p, s, r1, M.q "]", M.q "; ", by rw [sq "]", sq "; "], hR6, hs, hR6.len, by decide, by decide, hT6, fun E' H' Q' r' hR' k' hT' ⟨a, ha⟩ hno' hyes' => ?_, fun h7 H7 k7 hT7 => ?_, fun cs r7 h7 u us H7 k7 hT7 hR7 hu hA hul => ⟨by show 2 ≤ sizeLine; decide, fun t ht => ?_⟩⟩
    · obtain ⟨i7, ⟨dx7, hp7⟩, _⟩ := id hR'
      refine ⟨_, rfl, p, dx7, _, rfl, hp7, rfl, p, s, r', rfl, hR', hs, ?_, hT', hno', fun c r'' hc v H'' z1 z2 z3 z4 => hyes' c r'' hc v H'' z1 z2 z3 z4⟩
      have := om_suf ha
      omega
    · simp only [h7] at hF
      exact hF trivial _ (k6.trans k7) hT7
    · simp only [h7] at hQ
      refine hQ _ _ rfl _ _ ((k6.trans k7).new ht) (hT7.ext (same_new ht)) (hR7.keep fun o h _ => same_new ht _ _ h) ?_
      unfold PAt
      exact ⟨t, u, us, rfl, by rw [upd_same, sq "row"], same_new ht _ _ hu, PAtL.keep (.of (same_new ht)) _ _ (pAtL_iff.mpr hA)⟩
end
end K91
end

section
set_option Elab.async false
set_option linter.all false
set_option maxRecDepth 100000
set_option maxHeartbeats 4000000
/-! k91: the shown texts. -/
namespace K91
open PySem PySem.Spec PyProof.Rows L2 He HL
theorem sasg_cont {te : TE} {g : TG} {b : TS} {D : Ends} {σ : L2.St} {H : Hp} (R : VK) (h : ∀ Q' : VK, (∀ v H', R v H' → Q' v H') → te σ H Q') (hQ : ∀ v H', R v H' → g v σ H' (b D)) : tSeq (tAsg te g) b D σ H := h _ hQ
/-! ### what stands in the heap, read -/
theorem at0 {x : V} {l : List V} : atI (x :: l) ((0 : Nat) : Int) = some x := atI_nat rfl
theorem at1 {x y : V} {l : List V} : atI (x :: y :: l) ((1 : Nat) : Int) = some y := atI_nat rfl
theorem at2 {x y z : V} {l : List V} : atI (x :: y :: z :: l) ((2 : Nat) : Int) = some z := atI_nat rfl
theorem at3 {x y z u : V} {l : List V} : atI (x :: y :: z :: u :: l) ((3 : Nat) : Int) = some u := atI_nat rfl
theorem yq_in (b : Bool) : (["yes", "no"].any fun s => decide (M.yq b = M.q s)) = true := by cases b <;> decide
theorem len_j {b : List Nat} {ys : List (List Nat)} {y : List Nat} (h : y ∈ ys) : y.length ≤ (TL.joinL b ys).length := by
  induction ys with
  | nil => simp at h
  | cons x r ih =>
    cases r with
    | nil =>
      have : y = x := by simpa using h
      rw [this]
      simp [TL.joinL]
    | cons z r =>
      have e : TL.joinL b (x :: z :: r) = x ++ (b ++ TL.joinL b (z :: r)) := rfl
      rw [e, List.length_append, List.length_append]
      rcases List.mem_cons.mp h with rfl | h
      · omega
      · have := ih h
        omega
theorem om_j {b : List Nat} {ys : List (List Nat)} {y : List Nat} (h : y ∈ ys) : M.om y ≤ M.om (TL.joinL b ys) := by
  induction ys with
  | nil => simp at h
  | cons x r ih =>
    cases r with
    | nil =>
      have : y = x := by simpa using h
      rw [this]
      simp [TL.joinL]
    | cons z r =>
      have e : TL.joinL b (x :: z :: r) = x ++ (b ++ TL.joinL b (z :: r)) := rfl
      rw [e, M.om_app, M.om_app]
      rcases List.mem_cons.mp h with rfl | h
      · omega
      · have := ih h
        omega
section
variable {w : World} {K : PySem.W.Frag} {mg : Str → Option Value} {base : Heap}
abbrev n_show_condition : List Str := ["condition", "word", "some", "one"]
theorem sc_show_condition : FnScope n_show_condition ["condition"] (defScope s_show_condition) := ⟨rfl, rfl, rfl, by decide +kernel, rfl, by decide +kernel, by decide +kernel⟩
theorem bi_show_condition : ∀ (kV doc pm : Value) (an : Option Addr) (cdv ct : Value) (us : List Value), us.length = 1 → bindArgs (PySem.W.fnOf d_show_condition.name d_show_condition.qual d_show_condition.params d_show_condition.body d_show_condition.scope .none kV doc pm an cdv ct) ⟨us, []⟩ = pure ([("condition" : Str)].zip us) := fun kV doc pm an cdv ct us hu => by
  match us, hu with
  | [u0], _ => rfl
def spShowC (n : Nat) : Sp := fun vs H Q _ => ∃ v c, vs = [v] ∧ CAt H c v ∧ M.om c.sh < n ∧ c.sh.length ≤ 1000000 ∧ ∀ H', Same H H' → Q (.str (S c.sh)) H'
theorem o_show_cond (W : Wl K mg) : ∀ (n L : Nat), (n = 0 → 1 ≤ L) → (0 < n → n + 1 ≤ L) → OkD w K mg base CX0 L d_show_condition ["condition"] (spShowC n) := by
  intro n
  induction n with
  | zero =>
    intro L h0 h1
    obtain ⟨k, rfl⟩ : ∃ k, L = k + 1 := ⟨L - 1, by have := h0 rfl; omega⟩
    exact o_vac W.D_show_condition sc_show_condition bi_show_condition fun vs H Q E ⟨v, c, _, _, z, _⟩ => by omega
  | succ n ih =>
  intro L h0 h1
  obtain ⟨k, rfl⟩ : ∃ k, L = k + 1 := ⟨L - 1, by have := h1 (by omega); omega⟩
  have hk : n + 1 ≤ k := by have := h1 (by omega); omega
  have O_show_condition := ih k (fun _ => by omega) (fun _ => by omega)
  refine HL.ok_of0 W.D_show_condition sc_show_condition (fun vs H Q E ⟨_, _, h, _⟩ => by rw [h]; rfl) bi_show_condition fun cdv A outer s H vs Q E hr h => ?_
  have nd := sc_show_condition.nd
  refine ⟨_, (pss_cons (ps_set (i := 1) nd rfl (Or.inl rfl) (pe_ix ix_tup (pv 0) pe_int (fun _ _ => rfl)))
    (pss_cons (ps_if (pt_cmpR op_in_seq (pv 1) (pe_tup (pa_cons pe_str (pa_cons pe_str pa_nil))) (by rfl)) (pss_one (ps_ret (pv 1))) pss_nil)
    (pss_cons (ps_if (pt_cmpR op_eq (pv 1) pe_str (nomark _)) (pss_one (ps_ret (pe_op op_add_str pe_str (pe_ix ix_tup (pv 0) pe_int (fun _ _ => rfl))))) pss_nil)
    (pss_cons (ps_set (i := 2) nd rfl (Or.inl rfl) (pe_ifExp (pt_cmpR op_eq (pv 1) pe_str (nomark _)) (pe_lst (pa_cons (pe_ix ix_tup (pv 0) pe_int (fun _ _ => rfl)) pa_nil)) (pe_callTy call_list_of (by rfl) W.f_list (by decide +kernel) (pa_cons (pe_ix ix_tup (pv 0) pe_int (fun _ _ => rfl)) pa_nil))))
    (pss_one (ps_ret (pe_op op_add_str (pe_op op_add_str (pe_op op_add_str (pv 1) pe_str) (pe_join pe_str (pe_lc (own := [("one", 3)]) (g := gName 3) (tt := tYes) (by rfl) nd (pi_list (pv 2)) (blkOk_by (own := [("one", 3)]) (N := n_show_condition) (sc := defScope s_show_condition) (by decide +kernel)) (fun _ _ _ _ _ => pg_name (i := 3) nd rfl (Or.inl rfl)) (fun _ _ _ _ _ => pts_nil) (fun _ _ _ _ _ => (pe_cal O_show_condition (hr.mono (by omega)) W.g_show_condition pass0 (pa_cons (pv 3) pa_nil)))))) pe_str))))))), ?_⟩
  obtain ⟨v, c, rfl, hc, hom, hlen, hq⟩ := h
  have step : (∃ b, c = .word b) ∨ (∃ x, c = .ask x) ∨ ∃ a w0 x, v = .ref a ∧ H a = some (.tup [.str (S w0), x]) ∧ (["yes", "no"].any fun s => decide (w0 = M.q s)) = false ∧ w0 ≠ M.q "ask" ∧
      ((w0 = M.q "not" ∧ ∃ c1, CAt H c1 x ∧ c.sh = w0 ++ (M.q "(" ++ (TL.joinL (M.q ", ") (M.shC [c1]) ++ M.q ")"))) ∨ (w0 ≠ M.q "not" ∧ ∃ t us cs, x = .ref t ∧ H t = some (.tup us) ∧ All2 (fun v c => CAt H c v) us cs ∧ c.sh = w0 ++ (M.q "(" ++ (TL.joinL (M.q ", ") (M.shC cs) ++ M.q ")")))) := by
    cases c with
    | word b => exact .inl ⟨b, rfl⟩
    | ask x => exact .inr (.inl ⟨x, rfl⟩)
    | neg c1 =>
      unfold CAt at hc
      obtain ⟨a, u, rfl, ha, hu⟩ := hc
      exact .inr (.inr ⟨a, _, u, rfl, ha, by decide, by decide, .inl ⟨rfl, c1, hu, rfl⟩⟩)
    | many b cs =>
      unfold CAt at hc
      obtain ⟨a, t, us, rfl, ha, ht, hu⟩ := hc
      exact .inr (.inr ⟨a, _, _, rfl, ha, by cases b <;> decide, by cases b <;> decide, .inr ⟨by cases b <;> decide, t, us, cs, rfl, ht, cAtL_iff.mp hu, rfl⟩⟩)
  rcases step with ⟨b, rfl⟩ | ⟨x, rfl⟩ | ⟨a, w0, x, rfl, ha, hyn, hask, hx⟩
  · unfold CAt at hc
    obtain ⟨a, rfl, ha⟩ := hc
    refine ⟨_, rfl, a, _, _, _, rfl, rfl, sqt ha, at0, _, rfl, by show 2 ≤ sizeLine; decide, fun t ht => in_words ["yes", "no"] upd_same ⟨_, rfl, ?_⟩⟩
    rw [yq_in]
    exact iteT ⟨_, rfl, hq _ (same_new ht)⟩
  · unfold CAt at hc
    obtain ⟨a, rfl, ha⟩ := hc
    refine ⟨_, rfl, a, _, _, _, rfl, rfl, sqt ha, at0, _, rfl, by show 2 ≤ sizeLine; decide, fun t ht => in_words ["yes", "no"] upd_same ⟨_, rfl, ?_⟩⟩
    have ha1 := same_new (o := .tup [V.str "yes", V.str "no"]) ht _ _ ha
    rw [show (["yes", "no"].any fun s => decide (M.q "ask" = M.q s)) = false by decide]
    refine iteF ⟨_, rfl, rfl, ?_⟩
    rw [sq "ask", dec_S, decide_eq_true (show M.q "ask" = M.q "ask" from rfl)]
    refine ⟨_, rfl, iteT ⟨_, rfl, a, _, _, _, rfl, rfl, sqt ha1, at1, _, _, rfl, rfl, ?_, ?_⟩⟩
    · rw [ofq, S_len, S_len]
      refine small ?_
      simp only [M.Cond.sh, List.length_append] at hlen
      exact hlen
    · rw [cat_q]
      exact hq _ (same_new ht)
  · refine ⟨_, rfl, a, _, _, _, rfl, rfl, sqt ha, at0, _, rfl, by show 2 ≤ sizeLine; decide, fun t ht => in_words ["yes", "no"] upd_same ⟨_, rfl, ?_⟩⟩
    have s1 : Same H (upd H t (.tup [V.str "yes", V.str "no"])) := same_new ht
    generalize upd H t (.tup [V.str "yes", V.str "no"]) = H1 at s1 ⊢
    have ha1 := s1 _ _ ha
    rw [hyn]
    refine iteF ⟨_, rfl, rfl, ?_⟩
    rw [sq "ask", dec_S, decide_eq_false hask]
    refine ⟨_, rfl, iteF ?_⟩
    delta tNext
    dsimp only
    refine sasg_cont (R := fun v1 H2 => ∃ l us cs, v1 = .ref l ∧ Same H1 H2 ∧ H2 l = some (.lst us) ∧ All2 (fun v c => CAt H2 c v) us cs ∧ c.sh = w0 ++ (M.q "(" ++ (TL.joinL (M.q ", ") (M.shC cs) ++ M.q ")"))) ?_ ?_
    · intro Q' hQ'
      refine ⟨_, rfl, rfl, ?_⟩
      rw [sq "not", dec_S]
      refine ⟨_, rfl, ?_⟩
      rcases hx with ⟨hw, c1, hc1, hsh⟩ | ⟨hw, t1, us, cs, rfl, ht1, hA, hsh⟩
      · rw [decide_eq_true hw]
        refine iteT ⟨_, rfl, a, _, _, _, rfl, rfl, sqt ha1, at1, by show 1 ≤ sizeLine; decide, fun l hl => hQ' _ _ ⟨l, [x], [c1], rfl, same_new hl, upd_same, ⟨(hc1.keep (.of s1)).keep (.of (same_new hl)), trivial⟩, hsh⟩⟩
      · rw [decide_eq_false hw]
        refine iteF ⟨_, rfl, a, _, _, _, rfl, rfl, sqt ha1, at1, t1, us, rfl, .inr (sqt (s1 _ _ ht1)), fun l hl => hQ' _ _ ⟨l, us, cs, rfl, same_new hl, upd_same, hA.imp fun v c z => (z.keep (.of s1)).keep (.of (same_new hl)), hsh⟩⟩
    · rintro v1 H2 ⟨l, us, cs, rfl, s2, hl, hA, hsh⟩
      have hsz : w0.length + (1 + ((TL.joinL (M.q ", ") (M.shC cs)).length + 1)) ≤ 1000000 := by
        rw [hsh] at hlen
        simpa [show (M.q "(").length = 1 from by decide, show (M.q ")").length = 1 from by decide] using hlen
      have hL := hA.length
      have hus : us.length ≤ 1000000 := by
        have := joinL_len (M.q ", ") (M.shC cs)
        rw [M.shC_map, List.length_map, show (M.q ", ").length = 2 from by decide, ← M.shC_map] at this
        omega
      refine ⟨_, rfl, _, _, rfl, rfl, ?_, ⟨_, rfl⟩, _, rfl, l, rfl, ⟨us, sql hl⟩, fun D hD => ?_⟩
      · rw [ofq, S_len, S_len]
        refine small ?_
        show w0.length + 1 ≤ _
        omega
      · refine HL.lcL (xs := us) (out := (M.shC cs).map fun y => V.str (S y)) hD (sql hl) (by rw [M.shC_map, List.length_map, List.length_map, hL]) (small hus) (fun k1 x1 y H3 Q3 hx1 hy e3 _ hq3 => ?_) fun H3 e3 hD3 => ?_
        · obtain ⟨c1, hc1, hAt1⟩ := hA.get hx1
          have hmem : c1 ∈ cs := List.mem_of_getElem? hc1
          have hsm : c1.sh ∈ M.shC cs := by
            rw [M.shC_map]
            exact List.mem_map.mpr ⟨c1, hmem, rfl⟩
          have hy : y = V.str (S c1.sh) := by
            rw [M.shC_map, List.getElem?_map, List.getElem?_map, hc1] at hy
            exact (Option.some.inj hy).symm
          subst hy
          refine ⟨_, rfl, x1, c1, rfl, hAt1.keep (.of e3), ?_, ?_, hq3⟩
          · have h5 := om_j (b := M.q ", ") hsm
            have h6 : M.om (TL.joinL (M.q ", ") (M.shC cs)) + 3 ≤ M.om c.sh := by
              rw [hsh, M.om_app, M.om_app, M.om_app, show M.om (M.q "(") = 3 from by decide]
              omega
            omega
          · have h5 := len_j (b := M.q ", ") hsm
            omega
        · have hj : Txt.join (Str.ofString ", ") ((M.shC cs).map S) = S (TL.joinL (M.q ", ") (M.shC cs)) := by
            rw [ofq]
            exact SX.join_S _ _
          refine ⟨_, D, (M.shC cs).map S, rfl, rfl, .inl (sql (by rw [hD3, List.map_map] <;> rfl)), ?_, ?_⟩
          · have h5 := joinL_len (M.q ", ") (M.shC cs)
            have h6 : (Str.ofString ", ").length = 2 := by rw [ofq, S_len]; rfl
            have h7 : (M.q ", ").length = 2 := by decide
            rw [List.map_map, List.length_map, h6, show (((fun x : Str => x.length) ∘ S) : List Nat → Nat) = fun x => x.length from funext fun x => S_len x]
            rw [h7] at h5
            omega
          · rw [hj]
            refine ⟨_, _, rfl, rfl, ?_, ?_⟩
            · rw [ofq, S_cat, S_len, S_len]
              refine small ?_
              rw [List.length_append]
              show w0.length + 1 + _ ≤ _
              omega
            · refine ⟨_, _, rfl, rfl, ?_, ?_⟩
              · rw [ofq, ofq, S_cat, S_cat, S_len, S_len]
                refine small ?_
                rw [List.length_append, List.length_append]
                show w0.length + 1 + _ + 1 ≤ _
                omega
              · rw [ofq, ofq, S_cat, S_cat, S_cat]
                have := hq H3 ((s1.trans s2).trans e3)
                rw [hsh] at this
                simpa [M.q, List.append_assoc] using this
end
end K91
end

section
set_option Elab.async false
set_option linter.all false
set_option maxRecDepth 100000
set_option maxHeartbeats 4000000
set_option exponentiation.threshold 3000
/-! k91: the shown parts. -/
namespace K91
open PySem PySem.Spec PyProof.Rows L2 He HL
section
variable {w : World} {K : PySem.W.Frag} {mg : Str → Option Value} {base : Heap}
theorem num_log {k : Nat} (h : k < 1000000000) : (k : Int).natAbs.log2 < 1920 := by
  show k.log2 < 1920
  by_cases h0 : k = 0
  · rw [h0]
    decide
  · rw [Nat.log2_lt h0]
    exact Nat.lt_of_lt_of_le h (Nat.le_trans (show 1000000000 ≤ 2 ^ 30 by decide) (Nat.pow_le_pow_right (by decide) (by decide)))
theorem num_str (k : Nat) : Str.ofString (toString ((k : Nat) : Int)) = S (TL.numL k) := SX.num_S k
theorem oq (s : String) : Str.ofString s = S (M.q s) := ofq s
abbrev n_show_part : List Str := ["part", "word", "one"]
theorem sc_show_part : FnScope n_show_part ["part"] (defScope s_show_part) := ⟨rfl, rfl, rfl, by decide +kernel, rfl, by decide +kernel, by decide +kernel⟩
theorem bi_show_part : ∀ (kV doc pm : Value) (an : Option Addr) (cdv ct : Value) (us : List Value), us.length = 1 → bindArgs (PySem.W.fnOf d_show_part.name d_show_part.qual d_show_part.params d_show_part.body d_show_part.scope .none kV doc pm an cdv ct) ⟨us, []⟩ = pure ([("part" : Str)].zip us) := fun kV doc pm an cdv ct us hu => by
  match us, hu with
  | [u0], _ => rfl
def spShowP (n : Nat) : Sp := fun vs H Q _ => ∃ v c, vs = [v] ∧ PAt H c v ∧ c.wf ∧ M.om c.sh < n ∧ c.sh.length ≤ 1000000 ∧ ∀ H', Same H H' → Q (.str (S c.sh)) H'
theorem o_show_part (W : Wl K mg) : ∀ (n L : Nat), (n = 0 → 1 ≤ L) → (0 < n → n + 2 ≤ L) → OkD w K mg base CX0 L d_show_part ["part"] (spShowP n) := by
  intro n
  induction n with
  | zero =>
    intro L h0 h1
    obtain ⟨k, rfl⟩ : ∃ k, L = k + 1 := ⟨L - 1, by have := h0 rfl; omega⟩
    exact o_vac W.D_show_part sc_show_part bi_show_part fun vs H Q E ⟨v, c, _, _, _, z, _⟩ => by omega
  | succ n ih =>
  intro L h0 h1
  obtain ⟨k, rfl⟩ : ∃ k, L = k + 1 := ⟨L - 1, by have := h1 (by omega); omega⟩
  have hk : n + 2 ≤ k := by have := h1 (by omega); omega
  have O_show_part := ih k (fun _ => by omega) (fun _ => by omega)
  have O_show_condition := o_show_cond (w := w) (base := base) W (n + 1) k (fun _ => by omega) (fun _ => by omega)
  refine HL.ok_of0 W.D_show_part sc_show_part (fun vs H Q E ⟨_, _, h, _⟩ => by rw [h]; rfl) bi_show_part fun cdv A outer s H vs Q E hr h => ?_
  have nd := sc_show_part.nd
  refine ⟨_, (pss_cons (ps_set (i := 1) nd rfl (Or.inl rfl) (pe_ix ix_tup (pv 0) pe_int (fun _ _ => rfl)))
    (pss_cons (ps_if (pt_cmpR op_eq (pv 1) pe_str (nomark _)) (pss_one (ps_ret pe_str)) pss_nil)
    (pss_cons (ps_if (pt_cmpR op_eq (pv 1) pe_str (nomark _)) (pss_one (ps_ret (pe_op op_add_str (pe_op op_add_str pe_str (pe_join pe_str (pe_lc (own := [("one", 2)]) (g := gName 2) (tt := tYes) (by rfl) nd (pi_tup (pe_ix ix_tup (pv 0) pe_int (fun _ _ => rfl))) (blkOk_by (own := [("one", 2)]) (N := n_show_part) (sc := defScope s_show_part) (by decide +kernel)) (fun _ _ _ _ _ => pg_name (i := 2) nd rfl (Or.inl rfl)) (fun _ _ _ _ _ => pts_nil) (fun _ _ _ _ _ => (pe_cal O_show_part (hr.mono (by omega)) W.g_show_part pass0 (pa_cons (pv 2) pa_nil)))))) pe_str))) pss_nil)
    (pss_cons (ps_if (pt_cmpR op_eq (pv 1) pe_str (nomark _)) (pss_one (ps_ret (pe_op op_add_str (pe_op op_add_str (pe_op op_add_str pe_str (pe_cal O_show_condition (hr.mono (by omega)) W.g_show_condition pass0 (pa_cons (pe_ix ix_tup (pv 0) pe_int (fun _ _ => rfl)) pa_nil))) pe_str) (pe_cal O_show_part (hr.mono (by omega)) W.g_show_part pass0 (pa_cons (pe_ix ix_tup (pv 0) pe_int (fun _ _ => rfl)) pa_nil))))) pss_nil)
    (pss_cons (ps_if (pt_cmpR op_eq (pv 1) pe_str (nomark _)) (pss_one (ps_ret (pe_op op_add_str (pe_op op_add_str (pe_op op_add_str (pe_op op_add_str (pe_op op_add_str pe_str (pe_cal O_show_condition (hr.mono (by omega)) W.g_show_condition pass0 (pa_cons (pe_ix ix_tup (pv 0) pe_int (fun _ _ => rfl)) pa_nil))) pe_str) (pe_cal O_show_part (hr.mono (by omega)) W.g_show_part pass0 (pa_cons (pe_ix ix_tup (pv 0) pe_int (fun _ _ => rfl)) pa_nil))) pe_str) (pe_cal O_show_part (hr.mono (by omega)) W.g_show_part pass0 (pa_cons (pe_ix ix_tup (pv 0) pe_int (fun _ _ => rfl)) pa_nil))))) pss_nil)
    (pss_one (ps_ret (pe_op op_add_str (pe_op op_add_str (pe_ifExp (pt_cmpR op_eq (pv 1) pe_str (nomark _)) pe_str (pv 1)) pe_str) (pe_callTy (CallR.or call_str_int SkE.call_str_str) (by rfl) W.f_str (by decide +kernel) (pa_cons (pe_ix ix_tup (pv 0) pe_int (fun _ _ => rfl)) pa_nil)))))))))), ?_⟩
  obtain ⟨v, c, rfl, hc, hwf, hom, hlen, hq⟩ := h
  cases c with
  | back =>
    unfold PAt at hc
    obtain ⟨a, rfl, ha⟩ := hc
    refine ⟨_, rfl, a, _, _, _, rfl, rfl, sqt ha, at0, _, rfl, rfl, ?_⟩
    rw [sq "back", dec_S, decide_eq_true rfl]
    exact ⟨_, rfl, iteT (hq _ (Same.refl _))⟩
  | row ps =>
    unfold PAt at hc
    obtain ⟨a, t, us, rfl, ha, ht, hA⟩ := hc
    have hA := pAtL_iff.mp hA
    have hL := hA.length
    have hwf : ∀ p ∈ ps, p.wf := (M.wfP_iff ps).mp (by simpa [M.Part.wf] using hwf)
    have hsz : 1 + ((TL.joinL (M.q "; ") (M.shP ps)).length + 1) ≤ 1000000 := by
      have h2 : (M.q "[" ++ (TL.joinL (M.q "; ") (M.shP ps) ++ M.q "]")).length ≤ 1000000 := hlen
      simpa [show (M.q "[").length = 1 from by decide, show (M.q "]").length = 1 from by decide] using h2
    have hus : us.length ≤ 1000000 := by
      have := joinL_len (M.q "; ") (M.shP ps)
      rw [M.shP_map, List.length_map, show (M.q "; ").length = 2 from by decide, ← M.shP_map] at this
      omega
    refine ⟨_, rfl, a, _, _, _, rfl, rfl, sqt ha, at0, _, rfl, rfl, ?_⟩
    rw [sq "back", dec_S, decide_eq_false (by decide)]
    refine ⟨_, rfl, iteF ⟨_, rfl, rfl, ?_⟩⟩
    rw [sq "row", dec_S, decide_eq_true rfl]
    refine ⟨_, rfl, iteT ⟨⟨_, rfl⟩, _, rfl, a, _, _, _, rfl, rfl, sqt ha, at1, t, rfl, ⟨us, sqt ht⟩, fun D hD => ?_⟩⟩
    refine HL.lcT (xs := us) (out := (M.shP ps).map fun y => V.str (S y)) hD (sqt ht) (by rw [M.shP_map, List.length_map, List.length_map, hL]) (small hus) (fun k1 x1 y H3 Q3 hx1 hy e3 _ hq3 => ?_) fun H3 e3 hD3 => ?_
    · obtain ⟨c1, hc1, hAt1⟩ := hA.get hx1
      have hmem : c1 ∈ ps := List.mem_of_getElem? hc1
      have hsm : c1.sh ∈ M.shP ps := by
        rw [M.shP_map]
        exact List.mem_map.mpr ⟨c1, hmem, rfl⟩
      have hy : y = V.str (S c1.sh) := by
        rw [M.shP_map, List.getElem?_map, List.getElem?_map, hc1] at hy
        exact (Option.some.inj hy).symm
      subst hy
      refine ⟨_, rfl, x1, c1, rfl, hAt1.keep (.of e3), hwf c1 hmem, ?_, ?_, hq3⟩
      · have h5 := om_j (b := M.q "; ") hsm
        have h6 : M.om (TL.joinL (M.q "; ") (M.shP ps)) + 3 ≤ M.om (M.Part.row ps).sh := by
          show _ ≤ M.om (M.q "[" ++ (TL.joinL (M.q "; ") (M.shP ps) ++ M.q "]"))
          rw [M.om_app, M.om_app, show M.om (M.q "[") = 3 from by decide]
          omega
        omega
      · have h5 := len_j (b := M.q "; ") hsm
        omega
    · have hj : Txt.join (Str.ofString "; ") ((M.shP ps).map S) = S (TL.joinL (M.q "; ") (M.shP ps)) := by
        rw [ofq]
        exact SX.join_S _ _
      refine ⟨_, D, (M.shP ps).map S, rfl, rfl, .inl (sql (by rw [hD3, List.map_map] <;> rfl)), ?_, ?_⟩
      · have h5 := joinL_len (M.q "; ") (M.shP ps)
        have h6 : (Str.ofString "; ").length = 2 := by rw [ofq, S_len]; rfl
        have h7 : (M.q "; ").length = 2 := by decide
        rw [List.map_map, List.length_map, h6, show (((fun x : Str => x.length) ∘ S) : List Nat → Nat) = fun x => x.length from funext fun x => S_len x]
        rw [h7] at h5
        omega
      · rw [hj]
        refine ⟨_, _, rfl, rfl, ?_, ?_⟩
        · rw [ofq, S_len, S_len]
          refine small ?_
          show 1 + _ ≤ _
          omega
        · refine ⟨_, _, rfl, rfl, ?_, ?_⟩
          · rw [ofq, ofq, S_cat, S_len, S_len]
            refine small ?_
            rw [List.length_append]
            show 1 + _ + 1 ≤ _
            omega
          · show Q _ _
            simp only [oq, S_cat, List.append_assoc]
            exact hq H3 e3
  | whil c1 p =>
    unfold PAt at hc
    obtain ⟨a, u, x, rfl, ha, hu, hx⟩ := hc
    have hwf : c1.wf ∧ p.wf := by simpa [M.Part.wf] using hwf
    have l1 : (M.q "while ").length = 6 := by decide
    have l2 : (M.q ": ").length = 2 := by decide
    have hsz : 6 + (c1.sh.length + (2 + p.sh.length)) ≤ 1000000 := by
      have h2 : (M.q "while " ++ (c1.sh ++ (M.q ": " ++ p.sh))).length ≤ 1000000 := hlen
      simpa only [List.length_append, l1, l2] using h2
    have ho : M.om c1.sh + M.om p.sh + 2 ≤ M.om (M.Part.whil c1 p).sh := by
      show _ ≤ M.om (M.q "while " ++ (c1.sh ++ (M.q ": " ++ p.sh)))
      rw [M.om_app, M.om_app, M.om_app, show M.om (M.q "while ") = 1 from by decide, show M.om (M.q ": ") = 1 from by decide]
      omega
    refine ⟨_, rfl, a, _, _, _, rfl, rfl, sqt ha, at0, _, rfl, rfl, ?_⟩
    rw [sq "back", dec_S, decide_eq_false (by decide)]
    refine ⟨_, rfl, iteF ⟨_, rfl, rfl, ?_⟩⟩
    rw [sq "row", dec_S, decide_eq_false (by decide)]
    refine ⟨_, rfl, iteF ⟨_, rfl, rfl, ?_⟩⟩
    rw [sq "while", dec_S, decide_eq_true rfl]
    refine ⟨_, rfl, iteT ⟨_, rfl, a, _, _, _, rfl, rfl, sqt ha, at1, u, c1, rfl, hu, by omega, by omega, fun H1 e1 => ⟨_, _, rfl, rfl, ?_, _, _, rfl, rfl, ?_, ?_⟩⟩⟩
    · simp only [oq, S_len, l1]
      exact small (by omega)
    · simp only [oq, S_cat, S_len, List.length_append, l1, l2]
      exact small (by omega)
    have ha1 := e1 _ _ ha
    refine ⟨_, rfl, a, _, _, _, rfl, rfl, sqt ha1, at2, x, p, rfl, hx.keep (.of e1), hwf.2, by omega, by omega, fun H2 e2 => ⟨_, _, rfl, rfl, ?_, ?_⟩⟩
    · simp only [oq, S_cat, S_len, List.length_append, l1, l2]
      exact small (by omega)
    · show Q _ _
      simp only [oq, S_cat, List.append_assoc]
      exact hq H2 (e1.trans e2)
  | ite c1 p r =>
    unfold PAt at hc
    obtain ⟨a, u, x, y, rfl, ha, hu, hx, hy⟩ := hc
    have hwf : c1.wf ∧ p.wf ∧ r.wf := by simpa [M.Part.wf] using hwf
    have l1 : (M.q "if ").length = 3 := by decide
    have l2 : (M.q " then ").length = 6 := by decide
    have l3 : (M.q " else ").length = 6 := by decide
    have hsz : 3 + (c1.sh.length + (6 + (p.sh.length + (6 + r.sh.length)))) ≤ 1000000 := by
      have h2 : (M.q "if " ++ (c1.sh ++ (M.q " then " ++ (p.sh ++ (M.q " else " ++ r.sh))))).length ≤ 1000000 := hlen
      simpa only [List.length_append, l1, l2, l3] using h2
    have ho : M.om c1.sh + M.om p.sh + M.om r.sh + 5 ≤ M.om (M.Part.ite c1 p r).sh := by
      show _ ≤ M.om (M.q "if " ++ (c1.sh ++ (M.q " then " ++ (p.sh ++ (M.q " else " ++ r.sh)))))
      rw [M.om_app, M.om_app, M.om_app, M.om_app, M.om_app, show M.om (M.q "if ") = 1 from by decide, show M.om (M.q " then ") = 2 from by decide, show M.om (M.q " else ") = 2 from by decide]
      omega
    refine ⟨_, rfl, a, _, _, _, rfl, rfl, sqt ha, at0, _, rfl, rfl, ?_⟩
    rw [sq "back", dec_S, decide_eq_false (by decide)]
    refine ⟨_, rfl, iteF ⟨_, rfl, rfl, ?_⟩⟩
    rw [sq "row", dec_S, decide_eq_false (by decide)]
    refine ⟨_, rfl, iteF ⟨_, rfl, rfl, ?_⟩⟩
    rw [sq "while", dec_S, decide_eq_false (by decide)]
    refine ⟨_, rfl, iteF ⟨_, rfl, rfl, ?_⟩⟩
    rw [sq "if", dec_S, decide_eq_true rfl]
    refine ⟨_, rfl, iteT ⟨_, rfl, a, _, _, _, rfl, rfl, sqt ha, at1, u, c1, rfl, hu, by omega, by omega, fun H1 e1 => ⟨_, _, rfl, rfl, ?_, _, _, rfl, rfl, ?_, ?_⟩⟩⟩
    · simp only [oq, S_len, l1]
      exact small (by omega)
    · simp only [oq, S_cat, S_len, List.length_append, l1, l2]
      exact small (by omega)
    have ha1 := e1 _ _ ha
    refine ⟨_, rfl, a, _, _, _, rfl, rfl, sqt ha1, at2, x, p, rfl, hx.keep (.of e1), hwf.2.1, by omega, by omega, fun H2 e2 => ⟨_, _, rfl, rfl, ?_, _, _, rfl, rfl, ?_, ?_⟩⟩
    · simp only [oq, S_cat, S_len, List.length_append, l1, l2]
      exact small (by omega)
    · simp only [oq, S_cat, S_len, List.length_append, l1, l2, l3]
      exact small (by omega)
    have ha2 := e2 _ _ ha1
    refine ⟨_, rfl, a, _, _, _, rfl, rfl, sqt ha2, at3, y, r, rfl, hy.keep (.of (e1.trans e2)), hwf.2.2, by omega, by omega, fun H3 e3 => ⟨_, _, rfl, rfl, ?_, ?_⟩⟩
    · simp only [oq, S_cat, S_len, List.length_append, l1, l2, l3]
      exact small (by omega)
    · show Q _ _
      simp only [oq, S_cat, List.append_assoc]
      exact hq H3 ((e1.trans e2).trans e3)
  | leave k1 =>
    unfold PAt at hc
    obtain ⟨a, rfl, ha⟩ := hc
    have hwf : k1 < 1000000000 := by simpa [M.Part.wf] using hwf
    have l1 : (M.q "leave").length = 5 := by decide
    have l2 : (M.q " ").length = 1 := by decide
    have hsz : 5 + (1 + (TL.numL k1).length) ≤ 1000000 := by
      have h2 : (M.q "leave" ++ (M.q " " ++ TL.numL k1)).length ≤ 1000000 := hlen
      simpa only [List.length_append, l1, l2] using h2
    refine ⟨_, rfl, a, _, _, _, rfl, rfl, sqt ha, at0, _, rfl, rfl, ?_⟩
    rw [sq "back", dec_S, decide_eq_false (by decide)]
    refine ⟨_, rfl, iteF ⟨_, rfl, rfl, ?_⟩⟩
    rw [sq "row", dec_S, decide_eq_false (by decide)]
    refine ⟨_, rfl, iteF ⟨_, rfl, rfl, ?_⟩⟩
    rw [sq "while", dec_S, decide_eq_false (by decide)]
    refine ⟨_, rfl, iteF ⟨_, rfl, rfl, ?_⟩⟩
    rw [sq "if", dec_S, decide_eq_false (by decide)]
    refine ⟨_, rfl, iteF ⟨_, rfl, rfl, ?_⟩⟩
    rw [sq "step", dec_S, decide_eq_false (by decide)]
    refine ⟨_, rfl, iteF ⟨_, rfl, _, _, rfl, rfl, ?_, _, rfl, a, _, _, _, rfl, rfl, sqt ha, at1, .inl ⟨_, rfl, num_log hwf, _, _, rfl, rfl, ?_, ?_⟩⟩⟩
    · simp only [oq, S_len, l1, l2]
      exact small (by omega)
    · rw [num_str]
      simp only [oq, S_cat, S_len, List.length_append, l1, l2]
      exact small (by omega)
    · show Q _ _
      rw [num_str]
      simp only [oq, S_cat, List.append_assoc]
      exact hq H (Same.refl _)
  | step x =>
    unfold PAt at hc
    obtain ⟨a, rfl, ha⟩ := hc
    have l1 : (M.q "do").length = 2 := by decide
    have l2 : (M.q " ").length = 1 := by decide
    have hsz : 2 + (1 + x.length) ≤ 1000000 := by
      have h2 : (M.q "do" ++ (M.q " " ++ x)).length ≤ 1000000 := hlen
      simpa only [List.length_append, l1, l2] using h2
    refine ⟨_, rfl, a, _, _, _, rfl, rfl, sqt ha, at0, _, rfl, rfl, ?_⟩
    rw [sq "back", dec_S, decide_eq_false (by decide)]
    refine ⟨_, rfl, iteF ⟨_, rfl, rfl, ?_⟩⟩
    rw [sq "row", dec_S, decide_eq_false (by decide)]
    refine ⟨_, rfl, iteF ⟨_, rfl, rfl, ?_⟩⟩
    rw [sq "while", dec_S, decide_eq_false (by decide)]
    refine ⟨_, rfl, iteF ⟨_, rfl, rfl, ?_⟩⟩
    rw [sq "if", dec_S, decide_eq_false (by decide)]
    refine ⟨_, rfl, iteF ⟨_, rfl, rfl, ?_⟩⟩
    rw [sq "step", dec_S, decide_eq_true rfl]
    refine ⟨_, rfl, iteT ⟨_, _, rfl, rfl, ?_, _, rfl, a, _, _, _, rfl, rfl, sqt ha, at1, .inr ⟨_, rfl, _, _, rfl, rfl, ?_, ?_⟩⟩⟩
    · simp only [oq, S_len, l1, l2]
      exact small (by omega)
    · simp only [oq, S_cat, S_len, List.length_append, l1, l2]
      exact small (by omega)
    · show Q _ _
      simp only [oq, S_cat, List.append_assoc]
      exact hq H (Same.refl _)
  | call x =>
    unfold PAt at hc
    obtain ⟨a, rfl, ha⟩ := hc
    have l1 : (M.q "call").length = 4 := by decide
    have l2 : (M.q " ").length = 1 := by decide
    have hsz : 4 + (1 + x.length) ≤ 1000000 := by
      have h2 : (M.q "call" ++ (M.q " " ++ x)).length ≤ 1000000 := hlen
      simpa only [List.length_append, l1, l2] using h2
    refine ⟨_, rfl, a, _, _, _, rfl, rfl, sqt ha, at0, _, rfl, rfl, ?_⟩
    rw [sq "back", dec_S, decide_eq_false (by decide)]
    refine ⟨_, rfl, iteF ⟨_, rfl, rfl, ?_⟩⟩
    rw [sq "row", dec_S, decide_eq_false (by decide)]
    refine ⟨_, rfl, iteF ⟨_, rfl, rfl, ?_⟩⟩
    rw [sq "while", dec_S, decide_eq_false (by decide)]
    refine ⟨_, rfl, iteF ⟨_, rfl, rfl, ?_⟩⟩
    rw [sq "if", dec_S, decide_eq_false (by decide)]
    refine ⟨_, rfl, iteF ⟨_, rfl, rfl, ?_⟩⟩
    rw [sq "step", dec_S, decide_eq_false (by decide)]
    refine ⟨_, rfl, iteF ⟨_, rfl, _, _, rfl, rfl, ?_, _, rfl, a, _, _, _, rfl, rfl, sqt ha, at1, .inr ⟨_, rfl, _, _, rfl, rfl, ?_, ?_⟩⟩⟩
    · simp only [oq, S_len, l1, l2]
      exact small (by omega)
    · simp only [oq, S_cat, S_len, List.length_append, l1, l2]
      exact small (by omega)
    · show Q _ _
      simp only [oq, S_cat, List.append_assoc]
      exact hq H (Same.refl _)
end
end K91
end

section
set_option Elab.async false
set_option linter.all false
set_option maxRecDepth 100000
set_option maxHeartbeats 4000000
/-! k91: is_condition, is_part. -/
namespace K91
open PySem PySem.Spec PyProof.Rows L2 He HL
theorem iteE {b : Bool} {A B : Prop} (v : Bool) (h : b = v) (h2 : if v = true then A else B) : if b = true then A else B := by
  rw [h]
  exact h2
section
variable {w : World} {K : PySem.W.Frag} {mg : Str → Option Value} {base : Heap}
theorem ty_tup {H : Hp} {a : Addr} {xs : List V} (h : H a = some (.tup xs)) : TyX K H (.ref a) (.type "tuple") := tyx_tup (sqt h)
abbrev n_is_condition : List Str := ["thing", "word", "rest", "one"]
theorem sc_is_condition : FnScope n_is_condition ["thing"] (defScope s_is_condition) := ⟨rfl, rfl, rfl, by decide +kernel, rfl, by decide +kernel, by decide +kernel⟩
theorem bi_is_condition : ∀ (kV doc pm : Value) (an : Option Addr) (cdv ct : Value) (us : List Value), us.length = 1 → bindArgs (PySem.W.fnOf d_is_condition.name d_is_condition.qual d_is_condition.params d_is_condition.body d_is_condition.scope .none kV doc pm an cdv ct) ⟨us, []⟩ = pure ([("thing" : Str)].zip us) := fun kV doc pm an cdv ct us hu => by
  match us, hu with
  | [u0], _ => rfl
def spIsC (n : Nat) : Sp := fun vs H Q _ => ∃ v c, vs = [v] ∧ CAt H c v ∧ c.wf ∧ M.om c.sh < n ∧ c.sh.length ≤ 1000000 ∧ ∀ H', Same H H' → Q (.bl true) H'
theorem o_is_cond (W : Wl K mg) : ∀ (n L : Nat), (n = 0 → 1 ≤ L) → (0 < n → n + 1 ≤ L) → OkD w K mg base CX0 L d_is_condition ["thing"] (spIsC n) := by
  intro n
  induction n with
  | zero =>
    intro L h0 h1
    obtain ⟨k, rfl⟩ : ∃ k, L = k + 1 := ⟨L - 1, by have := h0 rfl; omega⟩
    exact o_vac W.D_is_condition sc_is_condition bi_is_condition fun vs H Q E ⟨v, c, _, _, _, z, _⟩ => by omega
  | succ n ih =>
  intro L h0 h1
  obtain ⟨k, rfl⟩ : ∃ k, L = k + 1 := ⟨L - 1, by have := h1 (by omega); omega⟩
  have hk : n + 1 ≤ k := by have := h1 (by omega); omega
  have O_is_condition := ih k (fun _ => by omega) (fun _ => by omega)
  have O_is_name := o_is_name (w := w) (base := base) W
  refine HL.ok_of0 W.D_is_condition sc_is_condition (fun vs H Q E ⟨_, _, h, _⟩ => by rw [h]; rfl) bi_is_condition fun cdv A outer s H vs Q E hr h => ?_
  have nd := sc_is_condition.nd
  refine ⟨_, (pss_cons (ps_if (PW.pt (pw_or (pt_not (pt_val (pe_callB call_isi (by rfl) W.f_isinstance (by decide +kernel) (pa_cons (pv 0) (pa_cons (pe_bltn (v := .ty "tuple") (by rfl) W.f_tuple (by decide +kernel) rfl) pa_nil))))) (pw_or1 (pt_cmpR op_notIn_seq (pe_callB call_len_seq (by rfl) W.f_len (by decide +kernel) (pa_cons (pv 0) pa_nil)) (pe_tup (pa_cons pe_int (pa_cons pe_int pa_nil))) (by rfl))))) (pss_one (ps_ret pe_bl)) pss_nil)
    (pss_cons (ps_if (pt_cmpR op_eq (pe_callB call_len_seq (by rfl) W.f_len (by decide +kernel) (pa_cons (pv 0) pa_nil)) pe_int (nomark _)) (pss_one (ps_ret (pe_cmpR XP.op_inT (pv 0) (pe_tup (pa_cons (pe_tup (pa_cons pe_str pa_nil)) (pa_cons (pe_tup (pa_cons pe_str pa_nil)) pa_nil))) (by rfl)))) pss_nil)
    (pss_cons (ps_asg (pv 0) (pg_tup (by rfl) (pgs_cons (pg_name (i := 1) nd rfl (Or.inl rfl)) (pgs_cons (pg_name (i := 2) nd rfl (Or.inl rfl)) pgs_nil))))
    (pss_cons (ps_if (pt_cmpR op_eq (pv 1) pe_str (nomark _)) (pss_one (ps_ret (pe_cal O_is_name (hr.mono (by omega)) W.g_is_name pass0 (pa_cons (pv 2) pa_nil)))) pss_nil)
    (pss_cons (ps_if (pt_cmpR op_eq (pv 1) pe_str (nomark _)) (pss_one (ps_ret (pe_cal O_is_condition (hr.mono (by omega)) W.g_is_condition pass0 (pa_cons (pv 2) pa_nil)))) pss_nil)
    (pss_one (ps_ret (pe_and (pe_cmpR op_in_seq (pv 1) (pe_tup (pa_cons pe_str (pa_cons pe_str pa_nil))) (by rfl)) (pe_and (pe_callB call_isi (by rfl) W.f_isinstance (by decide +kernel) (pa_cons (pv 2) (pa_cons (pe_bltn (v := .ty "tuple") (by rfl) W.f_tuple (by decide +kernel) rfl) pa_nil))) (pe_one (pe_callB (cr_all rfl) (by rfl) W.f_all (by decide +kernel) (pa_cons (pe_lc (own := [("one", 3)]) (g := gName 3) (tt := tYes) (by rfl) nd (pi_tup (pv 2)) (blkOk_by (own := [("one", 3)]) (N := n_is_condition) (sc := defScope s_is_condition) (by decide +kernel)) (fun _ _ _ _ _ => pg_name (i := 3) nd rfl (Or.inl rfl)) (fun _ _ _ _ _ => pts_nil) (fun _ _ _ _ _ => (pe_cal O_is_condition (hr.mono (by omega)) W.g_is_condition pass0 (pa_cons (pv 3) pa_nil)))) pa_nil)))))))))))), ?_⟩
  obtain ⟨v, c, rfl, hc, hwf, hom, hlen, hq⟩ := h
  have hun := hr.un
  cases c with
  | word b =>
    unfold CAt at hc
    obtain ⟨a, rfl, ha⟩ := hc
    refine ⟨_, rfl, _, _, _, _, true, rfl, .ty _, ty_tup ha, kit_ty (by decide +kernel), true, rfl, ?_⟩
    refine iteF ⟨_, rfl, a, _, rfl, .inr (sqt ha), by show 2 ≤ sizeLine; decide, fun t ht => ⟨t, _, rfl, .inr (sqt upd_same), rfl, rfl, _, rfl, ?_⟩⟩
    refine iteE false rfl (iteF ?_)
    have s1 : Same H (upd H t (.tup [V.int 1, V.int 2])) := same_new ht
    generalize upd H t (.tup [V.int 1, V.int 2]) = H1 at s1 ⊢
    have ha1 := s1 _ _ ha
    refine ⟨_, rfl, a, _, rfl, .inr (sqt ha1), rfl, _, rfl, ?_⟩
    refine iteE true rfl (iteT ⟨_, rfl, by show 1 ≤ sizeLine; decide, fun t1 ht1 => ⟨by show 1 ≤ sizeLine; decide, fun t2 ht2 => ⟨by show 2 ≤ sizeLine; decide, fun t3 ht3 => ?_⟩⟩⟩)
    have s2 := same_new (o := .tup [V.str "yes"]) ht1
    have s3 := same_new (o := .tup [V.str "no"]) ht2
    have s4 := same_new (o := .tup [V.ref t1, V.ref t2]) ht3
    have q1 := s4 _ _ (s3 _ _ (upd_same (H := H1) (a := t1) (o := .tup [V.str "yes"])))
    have q2 := s4 _ _ (upd_same (H := upd H1 t1 (.tup [V.str "yes"])) (a := t2) (o := .tup [V.str "no"]))
    have ha2 := s4 _ _ (s3 _ _ (s2 _ _ ha1))
    refine ⟨cd (.word b), [.tuple [.str (Str.ofString "yes")], .tuple [.str (Str.ofString "no")]], CAt.dp (.word b) _ ?_, .tup (sqt upd_same) (.cons (.tup (sqt q1) (.cons (.str _) .nil)) (.cons (.tup (sqt q2) (.cons (.str _) .nil)) .nil)), cd_lay _ trivial, ?_, ?_, ?_⟩
    · unfold CAt
      exact ⟨a, rfl, ha2⟩
    · rw [oq, oq]
      simp only [PyData.canLay0, PyData.canLayAll0, okS (M.q "yes") (by decide), okS (M.q "no") (by decide), Bool.and_true]
    · have : (cd (M.Cond.word b)).depth = 1 := by simp [cd, PyData.depth, PyData.depthAll]
      have := Nat.min_le_right (PyData.depthAll [.tuple [.str (Str.ofString "yes")], .tuple [.str (Str.ofString "no")]]) (cd (M.Cond.word b)).depth
      show A.units + 3 + 1 + _ < _
      have h9 : A.units + 3 + 16 * k + 200 < cLine := hun
      omega
    · have e : ([PyData.tuple [.str (Str.ofString "yes")], .tuple [.str (Str.ofString "no")]].any fun z => PyData.eqv z (cd (.word b))) = true := by
        rw [oq, oq]
        cases b <;> simp [cd, PyData.eqv, PyData.eqvAll, M.yq]
      rw [e]
      exact hq _ ((((s1.trans s2).trans s3)).trans s4)
  | ask x =>
    unfold CAt at hc
    obtain ⟨a, rfl, ha⟩ := hc
    have hwf : M.Nm x := by simpa [M.Cond.wf] using hwf
    refine ⟨_, rfl, _, _, _, _, true, rfl, .ty _, ty_tup ha, kit_ty (by decide +kernel), true, rfl, ?_⟩
    refine iteF ⟨_, rfl, a, _, rfl, .inr (sqt ha), by show 2 ≤ sizeLine; decide, fun t ht => ⟨t, _, rfl, .inr (sqt upd_same), rfl, rfl, _, rfl, ?_⟩⟩
    refine iteE false rfl (iteF ?_)
    have s1 : Same H (upd H t (.tup [V.int 1, V.int 2])) := same_new ht
    generalize upd H t (.tup [V.int 1, V.int 2]) = H1 at s1 ⊢
    have ha1 := s1 _ _ ha
    refine ⟨_, rfl, a, _, rfl, .inr (sqt ha1), rfl, _, rfl, ?_⟩
    refine iteE false rfl (iteF ⟨_, rfl, a, _, rfl, sqt ha1, rfl, _, _, rfl, _, _, rfl, rfl, _, rfl, rfl, ?_⟩)
    rw [sq "ask", dec_S, decide_eq_true rfl]
    refine ⟨_, rfl, iteT ⟨_, rfl, x, rfl, by have := hwf.most; omega, fun H2 e2 => ?_⟩⟩
    have e : (decide (0 < x.length ∧ x.length ≤ 8) && x.all M.isLet) = true := by
      rw [decide_eq_true ⟨hwf.pos, hwf.most⟩, List.all_eq_true.mpr hwf.all]
      rfl
    rw [e]
    exact hq _ (s1.trans e2)
  | neg c1 =>
    unfold CAt at hc
    obtain ⟨a, u, rfl, ha, hu⟩ := hc
    have hwf : c1.wf := by simpa [M.Cond.wf] using hwf
    have ho : M.om c1.sh + 3 ≤ M.om (M.Cond.neg c1).sh := by
      show _ ≤ M.om (M.q "not" ++ (M.q "(" ++ (c1.sh ++ M.q ")")))
      rw [M.om_app, M.om_app, M.om_app, show M.om (M.q "(") = 3 from by decide]
      omega
    have hl : c1.sh.length ≤ 1000000 := by
      have h2 : (M.q "not" ++ (M.q "(" ++ (c1.sh ++ M.q ")"))).length ≤ 1000000 := hlen
      simp only [List.length_append] at h2
      omega
    refine ⟨_, rfl, _, _, _, _, true, rfl, .ty _, ty_tup ha, kit_ty (by decide +kernel), true, rfl, ?_⟩
    refine iteF ⟨_, rfl, a, _, rfl, .inr (sqt ha), by show 2 ≤ sizeLine; decide, fun t ht => ⟨t, _, rfl, .inr (sqt upd_same), rfl, rfl, _, rfl, ?_⟩⟩
    refine iteE false rfl (iteF ?_)
    have s1 : Same H (upd H t (.tup [V.int 1, V.int 2])) := same_new ht
    generalize upd H t (.tup [V.int 1, V.int 2]) = H1 at s1 ⊢
    have ha1 := s1 _ _ ha
    refine ⟨_, rfl, a, _, rfl, .inr (sqt ha1), rfl, _, rfl, ?_⟩
    refine iteE false rfl (iteF ⟨_, rfl, a, _, rfl, sqt ha1, rfl, _, _, rfl, _, _, rfl, rfl, _, rfl, rfl, ?_⟩)
    rw [sq "ask", dec_S, decide_eq_false (by decide)]
    refine ⟨_, rfl, iteF ⟨_, rfl, rfl, ?_⟩⟩
    rw [sq "not", dec_S, decide_eq_true rfl]
    refine ⟨_, rfl, iteT ⟨_, rfl, u, c1, rfl, hu.keep (.of s1), hwf, by omega, hl, fun H2 e2 => hq _ (s1.trans e2)⟩⟩
  | many b cs =>
    unfold CAt at hc
    obtain ⟨a, t0, us, rfl, ha, ht0, hA⟩ := hc
    have hA := cAtL_iff.mp hA
    have hL := hA.length
    have hwf : ∀ c ∈ cs, c.wf := (M.wfC_iff cs).mp (by simpa [M.Cond.wf] using hwf)
    have hsz : (M.nq b).length + (1 + ((TL.joinL (M.q ", ") (M.shC cs)).length + 1)) ≤ 1000000 := by
      have h2 : (M.nq b ++ (M.q "(" ++ (TL.joinL (M.q ", ") (M.shC cs) ++ M.q ")"))).length ≤ 1000000 := hlen
      simpa [show (M.q "(").length = 1 from by decide, show (M.q ")").length = 1 from by decide] using h2
    have hus : us.length ≤ 1000000 := by
      have := joinL_len (M.q ", ") (M.shC cs)
      rw [M.shC_map, List.length_map, show (M.q ", ").length = 2 from by decide, ← M.shC_map] at this
      omega
    have ho : M.om (TL.joinL (M.q ", ") (M.shC cs)) + 3 ≤ M.om (M.Cond.many b cs).sh := by
      show _ ≤ M.om (M.nq b ++ (M.q "(" ++ (TL.joinL (M.q ", ") (M.shC cs) ++ M.q ")")))
      rw [M.om_app, M.om_app, M.om_app, show M.om (M.q "(") = 3 from by decide]
      omega
    refine ⟨_, rfl, _, _, _, _, true, rfl, .ty _, ty_tup ha, kit_ty (by decide +kernel), true, rfl, ?_⟩
    refine iteF ⟨_, rfl, a, _, rfl, .inr (sqt ha), by show 2 ≤ sizeLine; decide, fun t ht => ⟨t, _, rfl, .inr (sqt upd_same), rfl, rfl, _, rfl, ?_⟩⟩
    refine iteE false rfl (iteF ?_)
    have s1 : Same H (upd H t (.tup [V.int 1, V.int 2])) := same_new ht
    generalize upd H t (.tup [V.int 1, V.int 2]) = H1 at s1 ⊢
    have ha1 := s1 _ _ ha
    refine ⟨_, rfl, a, _, rfl, .inr (sqt ha1), rfl, _, rfl, ?_⟩
    refine iteE false rfl (iteF ⟨_, rfl, a, _, rfl, sqt ha1, rfl, _, _, rfl, _, _, rfl, rfl, _, rfl, rfl, ?_⟩)
    rw [sq "ask", dec_S, decide_eq_false (by cases b <;> decide)]
    refine ⟨_, rfl, iteF ⟨_, rfl, rfl, ?_⟩⟩
    rw [sq "not", dec_S, decide_eq_false (by cases b <;> decide)]
    refine ⟨_, rfl, iteF ⟨_, rfl, by show 2 ≤ sizeLine; decide, fun t2 ht2 => in_words ["all", "any"] upd_same ⟨_, rfl, ?_⟩⟩⟩
    rw [show (["all", "any"].any fun s => decide (M.nq b = M.q s)) = true by cases b <;> decide]
    have s2 : Same H1 (upd H1 t2 (.tup [V.str "all", V.str "any"])) := same_new ht2
    generalize upd H1 t2 (.tup [V.str "all", V.str "any"]) = H2 at s2 ⊢
    have s12 := s1.trans s2
    have ht02 := s12 _ _ ht0
    refine iteT ⟨_, rfl, _, _, _, _, true, rfl, .ty _, ty_tup ht02, kit_ty (by decide +kernel), true, rfl, ?_⟩
    refine iteT ⟨_, rfl, t0, rfl, ⟨us, sqt ht02⟩, fun D hD => ?_⟩
    refine HL.lcT (xs := us) (out := us.map fun _ => V.bl true) hD (sqt ht02) (by rw [List.length_map]) (small hus) (fun k1 x1 y H3 Q3 hx1 hy e3 _ hq3 => ?_) fun H3 e3 hD3 => ?_
    · obtain ⟨c1, hc1, hAt1⟩ := hA.get hx1
      have hmem : c1 ∈ cs := List.mem_of_getElem? hc1
      have hsm : c1.sh ∈ M.shC cs := by
        rw [M.shC_map]
        exact List.mem_map.mpr ⟨c1, hmem, rfl⟩
      have hy : y = V.bl true := by
        rw [List.getElem?_map, hx1] at hy
        exact (Option.some.inj hy).symm
      subst hy
      refine ⟨_, rfl, x1, c1, rfl, hAt1.keep (.of (s12.trans e3)), hwf c1 hmem, ?_, ?_, hq3⟩
      · have h5 := om_j (b := M.q ", ") hsm
        omega
      · have h5 := len_j (b := M.q ", ") hsm
        omega
    · refine ⟨_, us.map fun _ => true, rfl, .inl (.inl (by rw [hD3, List.map_map] <;> rfl)), ?_⟩
      rw [all_id, List.all_eq_true.mpr (fun _ _ => rfl)]
      exact hq _ (s12.trans e3)
end
end K91
end

section
set_option Elab.async false
set_option linter.all false
set_option maxRecDepth 100000
set_option maxHeartbeats 4000000
/-! k91: is_part. -/
namespace K91
open PySem PySem.Spec PyProof.Rows L2 He HL
section
variable {w : World} {K : PySem.W.Frag} {mg : Str → Option Value} {base : Heap}
theorem no_whole {xs : List V} {x : V} : ¬ (HT.sIx (x :: xs).length 0 (some 1) = 0 ∧ HT.sIx (x :: xs).length (x :: xs).length none = (x :: xs).length) := fun z => by
  have := z.1
  rw [show (1 : Int) = ((1 : Nat) : Int) from rfl, HT.sIx_nat] at this
  simp only [List.length_cons] at this
  omega
theorem cut1 {xs : List V} {x : V} : cutV (x :: xs) (some 1) none = xs := by
  unfold cutV
  rw [show (1 : Int) = ((1 : Nat) : Int) from rfl, HT.sIx_nat, HT.sIx_none]
  simp only [List.length_cons, show min 1 (xs.length + 1) = 1 by omega, List.drop_succ_cons, List.drop_zero, Nat.add_sub_cancel, List.take_length]
abbrev n_is_part : List Str := ["thing", "word", "rest", "one"]
theorem sc_is_part : FnScope n_is_part ["thing"] (defScope s_is_part) := ⟨rfl, rfl, rfl, by decide +kernel, rfl, by decide +kernel, by decide +kernel⟩
theorem bi_is_part : ∀ (kV doc pm : Value) (an : Option Addr) (cdv ct : Value) (us : List Value), us.length = 1 → bindArgs (PySem.W.fnOf d_is_part.name d_is_part.qual d_is_part.params d_is_part.body d_is_part.scope .none kV doc pm an cdv ct) ⟨us, []⟩ = pure ([("thing" : Str)].zip us) := fun kV doc pm an cdv ct us hu => by
  match us, hu with
  | [u0], _ => rfl
def spIsP (n : Nat) : Sp := fun vs H Q _ => ∃ v c, vs = [v] ∧ PAt H c v ∧ c.wf ∧ M.om c.sh < n ∧ c.sh.length ≤ 1000000 ∧ ∀ H', Same H H' → Q (.bl c.pos) H'
theorem o_is_part (W : Wl K mg) : ∀ (n L : Nat), (n = 0 → 1 ≤ L) → (0 < n → n + 2 ≤ L) → OkD w K mg base CX0 L d_is_part ["thing"] (spIsP n) := by
  intro n
  induction n with
  | zero =>
    intro L h0 h1
    obtain ⟨k, rfl⟩ : ∃ k, L = k + 1 := ⟨L - 1, by have := h0 rfl; omega⟩
    exact o_vac W.D_is_part sc_is_part bi_is_part fun vs H Q E ⟨v, c, _, _, _, z, _⟩ => by omega
  | succ n ih =>
  intro L h0 h1
  obtain ⟨k, rfl⟩ : ∃ k, L = k + 1 := ⟨L - 1, by have := h1 (by omega); omega⟩
  have hk : n + 2 ≤ k := by have := h1 (by omega); omega
  have O_is_part := ih k (fun _ => by omega) (fun _ => by omega)
  have O_is_condition := o_is_cond (w := w) (base := base) W (n + 1) k (fun _ => by omega) (fun _ => by omega)
  have O_is_name := o_is_name (w := w) (base := base) W
  have O_is_integer := o_is_integer (w := w) (base := base) W
  refine HL.ok_of0 W.D_is_part sc_is_part (fun vs H Q E ⟨_, _, h, _⟩ => by rw [h]; rfl) bi_is_part fun cdv A outer s H vs Q E hr h => ?_
  have nd := sc_is_part.nd
  refine ⟨_, (pss_cons (ps_if (PW.pt (pw_or (pt_not (pt_val (pe_callB call_isi (by rfl) W.f_isinstance (by decide +kernel) (pa_cons (pv 0) (pa_cons (pe_bltn (v := .ty "tuple") (by rfl) W.f_tuple (by decide +kernel) rfl) pa_nil))))) (pw_or (pt_cmpR op_eq (pe_callB call_len_seq (by rfl) W.f_len (by decide +kernel) (pa_cons (pv 0) pa_nil)) pe_int (nomark _)) (pw_or1 (pt_not (pt_val (pe_callB call_isi (by rfl) W.f_isinstance (by decide +kernel) (pa_cons (pe_ix ix_tup (pv 0) pe_int (fun _ _ => rfl)) (pa_cons (pe_bltn (v := .ty "str") (by rfl) W.f_str (by decide +kernel) rfl) pa_nil))))))))) (pss_one (ps_ret pe_bl)) pss_nil)
    (pss_cons (ps_par (i := 1) (j := 2) (by rfl) nd rfl rfl (by decide) rfl rfl (pa_cons (pe_ix ix_tup (pv 0) pe_int (fun _ _ => rfl)) (pa_cons (pe_slice sl_tup (pv 0) (po_some pe_int) po_none) pa_nil)) (by rfl))
    (pss_cons (ps_if (pt_cmpR op_eq (pe_callB call_len_seq (by rfl) W.f_len (by decide +kernel) (pa_cons (pv 2) pa_nil)) pe_int (nomark _)) (pss_one (ps_ret (pe_cmpR op_eq (pv 1) pe_str (nomark _)))) pss_nil)
    (pss_cons (ps_if (PW.pt (pw_and (pt_cmpR op_eq (pe_callB call_len_seq (by rfl) W.f_len (by decide +kernel) (pa_cons (pv 2) pa_nil)) pe_int (nomark _)) (pw_and1 (pt_cmpR op_eq (pv 1) pe_str (nomark _))))) (pss_one (ps_ret (pe_and (pe_cal O_is_integer (hr.mono (by omega)) W.g_is_integer pass0 (pa_cons (pe_ix ix_tup (pv 2) pe_int (fun _ _ => rfl)) pa_nil)) (pe_one (pe_cmpR op_ge (pe_ix ix_tup (pv 2) pe_int (fun _ _ => rfl)) pe_int (nomark _)))))) pss_nil)
    (pss_cons (ps_if (PW.pt (pw_and (pt_cmpR op_eq (pe_callB call_len_seq (by rfl) W.f_len (by decide +kernel) (pa_cons (pv 2) pa_nil)) pe_int (nomark _)) (pw_and1 (pt_cmpR op_eq (pv 1) pe_str (nomark _))))) (pss_one (ps_ret (pe_and (pe_callB call_isi (by rfl) W.f_isinstance (by decide +kernel) (pa_cons (pe_ix ix_tup (pv 2) pe_int (fun _ _ => rfl)) (pa_cons (pe_bltn (v := .ty "tuple") (by rfl) W.f_tuple (by decide +kernel) rfl) pa_nil))) (pe_one (pe_callB (cr_all rfl) (by rfl) W.f_all (by decide +kernel) (pa_cons (pe_lc (own := [("one", 3)]) (g := gName 3) (tt := tYes) (by rfl) nd (pi_tup (pe_ix ix_tup (pv 2) pe_int (fun _ _ => rfl))) (blkOk_by (own := [("one", 3)]) (N := n_is_part) (sc := defScope s_is_part) (by decide +kernel)) (fun _ _ _ _ _ => pg_name (i := 3) nd rfl (Or.inl rfl)) (fun _ _ _ _ _ => pts_nil) (fun _ _ _ _ _ => (pe_cal O_is_part (hr.mono (by omega)) W.g_is_part pass0 (pa_cons (pv 3) pa_nil)))) pa_nil)))))) pss_nil)
    (pss_cons (ps_if (pt_cmpR op_eq (pe_callB call_len_seq (by rfl) W.f_len (by decide +kernel) (pa_cons (pv 2) pa_nil)) pe_int (nomark _)) (pss_one (ps_ret (pe_and (pe_cmpR op_in_seq (pv 1) (pe_tup (pa_cons pe_str (pa_cons pe_str pa_nil))) (by rfl)) (pe_one (pe_cal O_is_name (hr.mono (by omega)) W.g_is_name pass0 (pa_cons (pe_ix ix_tup (pv 2) pe_int (fun _ _ => rfl)) pa_nil)))))) pss_nil)
    (pss_cons (ps_if (pt_cmpR op_eq (pe_callB call_len_seq (by rfl) W.f_len (by decide +kernel) (pa_cons (pv 2) pa_nil)) pe_int (nomark _)) (pss_one (ps_ret (pe_and (pe_cmpR op_eq (pv 1) pe_str (nomark _)) (pe_and (pe_cal O_is_condition (hr.mono (by omega)) W.g_is_condition pass0 (pa_cons (pe_ix ix_tup (pv 2) pe_int (fun _ _ => rfl)) pa_nil)) (pe_one (pe_cal O_is_part (hr.mono (by omega)) W.g_is_part pass0 (pa_cons (pe_ix ix_tup (pv 2) pe_int (fun _ _ => rfl)) pa_nil))))))) pss_nil)
    (pss_one (ps_ret (pe_and (pe_cmpR op_eq (pe_callB call_len_seq (by rfl) W.f_len (by decide +kernel) (pa_cons (pv 2) pa_nil)) pe_int (nomark _)) (pe_and (pe_cmpR op_eq (pv 1) pe_str (nomark _)) (pe_and (pe_cal O_is_condition (hr.mono (by omega)) W.g_is_condition pass0 (pa_cons (pe_ix ix_tup (pv 2) pe_int (fun _ _ => rfl)) pa_nil)) (pe_and (pe_cal O_is_part (hr.mono (by omega)) W.g_is_part pass0 (pa_cons (pe_ix ix_tup (pv 2) pe_int (fun _ _ => rfl)) pa_nil)) (pe_one (pe_cal O_is_part (hr.mono (by omega)) W.g_is_part pass0 (pa_cons (pe_ix ix_tup (pv 2) pe_int (fun _ _ => rfl)) pa_nil)))))))))))))))), ?_⟩
  obtain ⟨v, c, rfl, hc, hwf, hom, hlen, hq⟩ := h
  cases c with
  | back =>
    unfold PAt at hc
    obtain ⟨a, rfl, ha⟩ := hc
    refine ⟨_, rfl, _, _, _, _, true, rfl, .ty _, ty_tup ha, kit_ty (by decide +kernel), true, rfl, ?_⟩
    refine iteF ⟨_, rfl, a, _, rfl, .inr (sqt ha), rfl, _, rfl, ?_⟩
    refine iteE false rfl (iteF ⟨_, rfl, a, _, _, _, rfl, rfl, sqt ha, at0, _, _, _, _, true, rfl, .ty _, .base (.str _), kit_ty (by decide +kernel), true, rfl, ?_⟩)
    refine iteF ⟨_, rfl, a, _, _, _, rfl, rfl, sqt ha, at0, _, rfl, _, rfl, a, _, rfl, sqt ha, no_whole, fun b hb => ⟨_, _, rfl, ?_⟩⟩
    rw [cut1]
    have hb1 : upd H b (.tup []) b = some (.tup []) := upd_same
    have s1 : Same H (upd H b (.tup [])) := same_new hb
    generalize upd H b (.tup []) = H1 at hb1 s1 ⊢
    refine ⟨_, rfl, b, _, rfl, .inr (sqt hb1), rfl, _, rfl, ?_⟩
    refine iteE true rfl (iteT ?_)
    refine ⟨_, rfl, rfl, ?_⟩
    rw [sq "back", dec_S, decide_eq_true rfl]
    exact hq _ s1
  | leave k1 =>
    unfold PAt at hc
    obtain ⟨a, rfl, ha⟩ := hc
    refine ⟨_, rfl, _, _, _, _, true, rfl, .ty _, ty_tup ha, kit_ty (by decide +kernel), true, rfl, ?_⟩
    refine iteF ⟨_, rfl, a, _, rfl, .inr (sqt ha), rfl, _, rfl, ?_⟩
    refine iteE false rfl (iteF ⟨_, rfl, a, _, _, _, rfl, rfl, sqt ha, at0, _, _, _, _, true, rfl, .ty _, .base (.str _), kit_ty (by decide +kernel), true, rfl, ?_⟩)
    refine iteF ⟨_, rfl, a, _, _, _, rfl, rfl, sqt ha, at0, _, rfl, _, rfl, a, _, rfl, sqt ha, no_whole, fun b hb => ⟨_, _, rfl, ?_⟩⟩
    rw [cut1]
    have hb1 : upd H b (.tup [V.int (k1 : Nat)]) b = some (.tup [V.int (k1 : Nat)]) := upd_same
    have s1 : Same H (upd H b (.tup [V.int (k1 : Nat)])) := same_new hb
    generalize upd H b (.tup [V.int (k1 : Nat)]) = H1 at hb1 s1 ⊢
    refine ⟨_, rfl, b, _, rfl, .inr (sqt hb1), rfl, _, rfl, ?_⟩
    refine iteE false rfl (iteF ?_)
    refine ⟨_, rfl, b, _, rfl, .inr (sqt hb1), rfl, _, rfl, ?_⟩
    refine iteE true rfl (iteT ?_)
    refine ⟨_, rfl, rfl, ?_⟩
    rw [sq "leave", dec_S, decide_eq_true rfl]
    refine ⟨_, rfl, iteT ?_⟩
    refine ⟨_, rfl, b, _, _, _, rfl, rfl, sqt hb1, at0, _, rfl, ?_⟩
    refine ⟨_, rfl, iteT ⟨_, rfl, b, _, _, _, rfl, rfl, sqt hb1, at0, _, _, rfl, rfl, ?_⟩⟩
    have e : decide (((k1 : Nat) : Int) ≥ 1) = (M.Part.leave k1).pos := by
      show _ = decide (0 < k1)
      exact decide_eq_decide.mpr (by omega)
    show Q (.bl (decide (((k1 : Nat) : Int) ≥ 1))) _
    rw [e]
    exact hq _ s1
  | row ps =>
    unfold PAt at hc
    obtain ⟨a, t, us, rfl, ha, ht, hA⟩ := hc
    have hA := pAtL_iff.mp hA
    have hL := hA.length
    have hwf : ∀ p ∈ ps, p.wf := (M.wfP_iff ps).mp (by simpa [M.Part.wf] using hwf)
    have hsz : 1 + ((TL.joinL (M.q "; ") (M.shP ps)).length + 1) ≤ 1000000 := by
      have h2 : (M.q "[" ++ (TL.joinL (M.q "; ") (M.shP ps) ++ M.q "]")).length ≤ 1000000 := hlen
      simpa [show (M.q "[").length = 1 from by decide, show (M.q "]").length = 1 from by decide] using h2
    have hus : us.length ≤ 1000000 := by
      have := joinL_len (M.q "; ") (M.shP ps)
      rw [M.shP_map, List.length_map, show (M.q "; ").length = 2 from by decide, ← M.shP_map] at this
      omega
    have ho : M.om (TL.joinL (M.q "; ") (M.shP ps)) + 3 ≤ M.om (M.Part.row ps).sh := by
      show _ ≤ M.om (M.q "[" ++ (TL.joinL (M.q "; ") (M.shP ps) ++ M.q "]"))
      rw [M.om_app, M.om_app, show M.om (M.q "[") = 3 from by decide]
      omega
    refine ⟨_, rfl, _, _, _, _, true, rfl, .ty _, ty_tup ha, kit_ty (by decide +kernel), true, rfl, ?_⟩
    refine iteF ⟨_, rfl, a, _, rfl, .inr (sqt ha), rfl, _, rfl, ?_⟩
    refine iteE false rfl (iteF ⟨_, rfl, a, _, _, _, rfl, rfl, sqt ha, at0, _, _, _, _, true, rfl, .ty _, .base (.str _), kit_ty (by decide +kernel), true, rfl, ?_⟩)
    refine iteF ⟨_, rfl, a, _, _, _, rfl, rfl, sqt ha, at0, _, rfl, _, rfl, a, _, rfl, sqt ha, no_whole, fun b hb => ⟨_, _, rfl, ?_⟩⟩
    rw [cut1]
    have hb1 : upd H b (.tup [V.ref t]) b = some (.tup [V.ref t]) := upd_same
    have s1 : Same H (upd H b (.tup [V.ref t])) := same_new hb
    generalize upd H b (.tup [V.ref t]) = H1 at hb1 s1 ⊢
    refine ⟨_, rfl, b, _, rfl, .inr (sqt hb1), rfl, _, rfl, ?_⟩
    refine iteE false rfl (iteF ?_)
    refine ⟨_, rfl, b, _, rfl, .inr (sqt hb1), rfl, _, rfl, ?_⟩
    refine iteE true rfl (iteT ?_)
    refine ⟨_, rfl, rfl, ?_⟩
    rw [sq "leave", dec_S, decide_eq_false (by decide)]
    refine ⟨_, rfl, iteF ?_⟩
    refine ⟨_, rfl, b, _, rfl, .inr (sqt hb1), rfl, _, rfl, ?_⟩
    refine iteE true rfl (iteT ?_)
    refine ⟨_, rfl, rfl, ?_⟩
    rw [sq "row", dec_S, decide_eq_true rfl]
    refine ⟨_, rfl, iteT ?_⟩
    have ht1 := s1 _ _ ht
    refine ⟨_, rfl, b, _, _, _, rfl, rfl, sqt hb1, at0, _, _, _, _, true, rfl, .ty _, ty_tup ht1, kit_ty (by decide +kernel), true, rfl, ?_⟩
    refine iteT ⟨_, rfl, b, _, _, _, rfl, rfl, sqt hb1, at0, t, rfl, ⟨us, sqt ht1⟩, fun D hD => ?_⟩
    refine HL.lcT (xs := us) (out := ps.map fun p => V.bl p.pos) hD (sqt ht1) (by rw [List.length_map, hL]) (small hus) (fun k1 x1 y H3 Q3 hx1 hy e3 _ hq3 => ?_) fun H3 e3 hD3 => ?_
    · obtain ⟨c1, hc1, hAt1⟩ := hA.get hx1
      have hmem : c1 ∈ ps := List.mem_of_getElem? hc1
      have hsm : c1.sh ∈ M.shP ps := by
        rw [M.shP_map]
        exact List.mem_map.mpr ⟨c1, hmem, rfl⟩
      have hy : y = V.bl c1.pos := by
        rw [List.getElem?_map, hc1] at hy
        exact (Option.some.inj hy).symm
      subst hy
      refine ⟨_, rfl, x1, c1, rfl, hAt1.keep (.of (s1.trans e3)), hwf c1 hmem, ?_, ?_, hq3⟩
      · have h5 := om_j (b := M.q "; ") hsm
        omega
      · have h5 := len_j (b := M.q "; ") hsm
        omega
    · refine ⟨_, ps.map fun p => p.pos, rfl, .inl (.inl (by rw [hD3, List.map_map] <;> rfl)), ?_⟩
      have e : (ps.map fun p => p.pos).all id = (M.Part.row ps).pos := by
        rw [all_id]
        show _ = M.posP ps
        apply Bool.eq_iff_iff.mpr
        rw [M.posP_iff, List.all_eq_true]
      rw [e]
      exact hq _ (s1.trans e3)
  | step x =>
    unfold PAt at hc
    obtain ⟨a, rfl, ha⟩ := hc
    have hwf : M.Nm x := by simpa [M.Part.wf] using hwf
    refine ⟨_, rfl, _, _, _, _, true, rfl, .ty _, ty_tup ha, kit_ty (by decide +kernel), true, rfl, ?_⟩
    refine iteF ⟨_, rfl, a, _, rfl, .inr (sqt ha), rfl, _, rfl, ?_⟩
    refine iteE false rfl (iteF ⟨_, rfl, a, _, _, _, rfl, rfl, sqt ha, at0, _, _, _, _, true, rfl, .ty _, .base (.str _), kit_ty (by decide +kernel), true, rfl, ?_⟩)
    refine iteF ⟨_, rfl, a, _, _, _, rfl, rfl, sqt ha, at0, _, rfl, _, rfl, a, _, rfl, sqt ha, no_whole, fun b hb => ⟨_, _, rfl, ?_⟩⟩
    rw [cut1]
    have hb1 : upd H b (.tup [V.str (S x)]) b = some (.tup [V.str (S x)]) := upd_same
    have s1 : Same H (upd H b (.tup [V.str (S x)])) := same_new hb
    generalize upd H b (.tup [V.str (S x)]) = H1 at hb1 s1 ⊢
    refine ⟨_, rfl, b, _, rfl, .inr (sqt hb1), rfl, _, rfl, ?_⟩
    refine iteE false rfl (iteF ?_)
    refine ⟨_, rfl, b, _, rfl, .inr (sqt hb1), rfl, _, rfl, ?_⟩
    refine iteE true rfl (iteT ?_)
    refine ⟨_, rfl, rfl, ?_⟩
    rw [sq "leave", dec_S, decide_eq_false (by decide)]
    refine ⟨_, rfl, iteF ?_⟩
    refine ⟨_, rfl, b, _, rfl, .inr (sqt hb1), rfl, _, rfl, ?_⟩
    refine iteE true rfl (iteT ?_)
    refine ⟨_, rfl, rfl, ?_⟩
    rw [sq "row", dec_S, decide_eq_false (by decide)]
    refine ⟨_, rfl, iteF ?_⟩
    refine ⟨_, rfl, b, _, rfl, .inr (sqt hb1), rfl, _, rfl, ?_⟩
    refine iteE true rfl (iteT ?_)
    refine ⟨_, rfl, by show 2 ≤ sizeLine; decide, fun t2 ht2 => in_words ["step", "call"] upd_same ⟨_, rfl, ?_⟩⟩
    rw [show (["step", "call"].any fun s => decide (M.q "step" = M.q s)) = true by decide]
    have s2 : Same H1 (upd H1 t2 (.tup [V.str "step", V.str "call"])) := same_new ht2
    generalize upd H1 t2 (.tup [V.str "step", V.str "call"]) = H2 at s2 ⊢
    have hb2 := s2 _ _ hb1
    refine iteT ⟨_, rfl, b, _, _, _, rfl, rfl, sqt hb2, at0, x, rfl, by have := hwf.most; omega, fun H3 e3 => ?_⟩
    have e : (decide (0 < x.length ∧ x.length ≤ 8) && x.all M.isLet) = true := by
      rw [decide_eq_true ⟨hwf.pos, hwf.most⟩, List.all_eq_true.mpr hwf.all]
      rfl
    rw [e]
    exact hq _ ((s1.trans s2).trans e3)
  | call x =>
    unfold PAt at hc
    obtain ⟨a, rfl, ha⟩ := hc
    have hwf : M.Nm x := by simpa [M.Part.wf] using hwf
    refine ⟨_, rfl, _, _, _, _, true, rfl, .ty _, ty_tup ha, kit_ty (by decide +kernel), true, rfl, ?_⟩
    refine iteF ⟨_, rfl, a, _, rfl, .inr (sqt ha), rfl, _, rfl, ?_⟩
    refine iteE false rfl (iteF ⟨_, rfl, a, _, _, _, rfl, rfl, sqt ha, at0, _, _, _, _, true, rfl, .ty _, .base (.str _), kit_ty (by decide +kernel), true, rfl, ?_⟩)
    refine iteF ⟨_, rfl, a, _, _, _, rfl, rfl, sqt ha, at0, _, rfl, _, rfl, a, _, rfl, sqt ha, no_whole, fun b hb => ⟨_, _, rfl, ?_⟩⟩
    rw [cut1]
    have hb1 : upd H b (.tup [V.str (S x)]) b = some (.tup [V.str (S x)]) := upd_same
    have s1 : Same H (upd H b (.tup [V.str (S x)])) := same_new hb
    generalize upd H b (.tup [V.str (S x)]) = H1 at hb1 s1 ⊢
    refine ⟨_, rfl, b, _, rfl, .inr (sqt hb1), rfl, _, rfl, ?_⟩
    refine iteE false rfl (iteF ?_)
    refine ⟨_, rfl, b, _, rfl, .inr (sqt hb1), rfl, _, rfl, ?_⟩
    refine iteE true rfl (iteT ?_)
    refine ⟨_, rfl, rfl, ?_⟩
    rw [sq "leave", dec_S, decide_eq_false (by decide)]
    refine ⟨_, rfl, iteF ?_⟩
    refine ⟨_, rfl, b, _, rfl, .inr (sqt hb1), rfl, _, rfl, ?_⟩
    refine iteE true rfl (iteT ?_)
    refine ⟨_, rfl, rfl, ?_⟩
    rw [sq "row", dec_S, decide_eq_false (by decide)]
    refine ⟨_, rfl, iteF ?_⟩
    refine ⟨_, rfl, b, _, rfl, .inr (sqt hb1), rfl, _, rfl, ?_⟩
    refine iteE true rfl (iteT ?_)
    refine ⟨_, rfl, by show 2 ≤ sizeLine; decide, fun t2 ht2 => in_words ["step", "call"] upd_same ⟨_, rfl, ?_⟩⟩
    rw [show (["step", "call"].any fun s => decide (M.q "call" = M.q s)) = true by decide]
    have s2 : Same H1 (upd H1 t2 (.tup [V.str "step", V.str "call"])) := same_new ht2
    generalize upd H1 t2 (.tup [V.str "step", V.str "call"]) = H2 at s2 ⊢
    have hb2 := s2 _ _ hb1
    refine iteT ⟨_, rfl, b, _, _, _, rfl, rfl, sqt hb2, at0, x, rfl, by have := hwf.most; omega, fun H3 e3 => ?_⟩
    have e : (decide (0 < x.length ∧ x.length ≤ 8) && x.all M.isLet) = true := by
      rw [decide_eq_true ⟨hwf.pos, hwf.most⟩, List.all_eq_true.mpr hwf.all]
      rfl
    rw [e]
    exact hq _ ((s1.trans s2).trans e3)
  | whil c1 p =>
    unfold PAt at hc
    obtain ⟨a, u, x, rfl, ha, hu, hx⟩ := hc
    have hwf : c1.wf ∧ p.wf := by simpa [M.Part.wf] using hwf
    have hsz : c1.sh.length + p.sh.length ≤ 1000000 := by
      have h2 : (M.q "while " ++ (c1.sh ++ (M.q ": " ++ p.sh))).length ≤ 1000000 := hlen
      simp only [List.length_append] at h2
      omega
    have ho : M.om c1.sh + M.om p.sh + 2 ≤ M.om (M.Part.whil c1 p).sh := by
      show _ ≤ M.om (M.q "while " ++ (c1.sh ++ (M.q ": " ++ p.sh)))
      rw [M.om_app, M.om_app, M.om_app, show M.om (M.q "while ") = 1 from by decide, show M.om (M.q ": ") = 1 from by decide]
      omega
    refine ⟨_, rfl, _, _, _, _, true, rfl, .ty _, ty_tup ha, kit_ty (by decide +kernel), true, rfl, ?_⟩
    refine iteF ⟨_, rfl, a, _, rfl, .inr (sqt ha), rfl, _, rfl, ?_⟩
    refine iteE false rfl (iteF ⟨_, rfl, a, _, _, _, rfl, rfl, sqt ha, at0, _, _, _, _, true, rfl, .ty _, .base (.str _), kit_ty (by decide +kernel), true, rfl, ?_⟩)
    refine iteF ⟨_, rfl, a, _, _, _, rfl, rfl, sqt ha, at0, _, rfl, _, rfl, a, _, rfl, sqt ha, no_whole, fun b hb => ⟨_, _, rfl, ?_⟩⟩
    rw [cut1]
    have hb1 : upd H b (.tup [u, x]) b = some (.tup [u, x]) := upd_same
    have s1 : Same H (upd H b (.tup [u, x])) := same_new hb
    generalize upd H b (.tup [u, x]) = H1 at hb1 s1 ⊢
    refine ⟨_, rfl, b, _, rfl, .inr (sqt hb1), rfl, _, rfl, ?_⟩
    refine iteE false rfl (iteF ?_)
    refine ⟨_, rfl, b, _, rfl, .inr (sqt hb1), rfl, _, rfl, ?_⟩
    refine iteE false rfl (iteF ?_)
    refine ⟨_, rfl, b, _, rfl, .inr (sqt hb1), rfl, _, rfl, ?_⟩
    refine iteE false rfl (iteF ?_)
    refine ⟨_, rfl, b, _, rfl, .inr (sqt hb1), rfl, _, rfl, ?_⟩
    refine iteE false rfl (iteF ?_)
    refine ⟨_, rfl, b, _, rfl, .inr (sqt hb1), rfl, _, rfl, ?_⟩
    refine iteE true rfl (iteT ?_)
    refine ⟨_, rfl, rfl, ?_⟩
    rw [sq "while", dec_S, decide_eq_true rfl]
    refine ⟨_, rfl, iteT ⟨_, rfl, b, _, _, _, rfl, rfl, sqt hb1, at0, u, c1, rfl, hu.keep (.of s1), hwf.1, by omega, by omega, fun H2 e2 => ?_⟩⟩
    have hb2 := e2 _ _ hb1
    refine ⟨_, rfl, iteT ⟨_, rfl, b, _, _, _, rfl, rfl, sqt hb2, at1, x, p, rfl, hx.keep (.of (s1.trans e2)), hwf.2, by omega, by omega, fun H3 e3 => ?_⟩⟩
    exact hq _ ((s1.trans e2).trans e3)
  | ite c1 p r =>
    unfold PAt at hc
    obtain ⟨a, u, x, y, rfl, ha, hu, hx, hy⟩ := hc
    have hwf : c1.wf ∧ p.wf ∧ r.wf := by simpa [M.Part.wf] using hwf
    have hsz : c1.sh.length + p.sh.length + r.sh.length ≤ 1000000 := by
      have h2 : (M.q "if " ++ (c1.sh ++ (M.q " then " ++ (p.sh ++ (M.q " else " ++ r.sh))))).length ≤ 1000000 := hlen
      simp only [List.length_append] at h2
      omega
    have ho : M.om c1.sh + M.om p.sh + M.om r.sh + 5 ≤ M.om (M.Part.ite c1 p r).sh := by
      show _ ≤ M.om (M.q "if " ++ (c1.sh ++ (M.q " then " ++ (p.sh ++ (M.q " else " ++ r.sh)))))
      rw [M.om_app, M.om_app, M.om_app, M.om_app, M.om_app, show M.om (M.q "if ") = 1 from by decide, show M.om (M.q " then ") = 2 from by decide, show M.om (M.q " else ") = 2 from by decide]
      omega
    refine ⟨_, rfl, _, _, _, _, true, rfl, .ty _, ty_tup ha, kit_ty (by decide +kernel), true, rfl, ?_⟩
    refine iteF ⟨_, rfl, a, _, rfl, .inr (sqt ha), rfl, _, rfl, ?_⟩
    refine iteE false rfl (iteF ⟨_, rfl, a, _, _, _, rfl, rfl, sqt ha, at0, _, _, _, _, true, rfl, .ty _, .base (.str _), kit_ty (by decide +kernel), true, rfl, ?_⟩)
    refine iteF ⟨_, rfl, a, _, _, _, rfl, rfl, sqt ha, at0, _, rfl, _, rfl, a, _, rfl, sqt ha, no_whole, fun b hb => ⟨_, _, rfl, ?_⟩⟩
    rw [cut1]
    have hb1 : upd H b (.tup [u, x, y]) b = some (.tup [u, x, y]) := upd_same
    have s1 : Same H (upd H b (.tup [u, x, y])) := same_new hb
    generalize upd H b (.tup [u, x, y]) = H1 at hb1 s1 ⊢
    refine ⟨_, rfl, b, _, rfl, .inr (sqt hb1), rfl, _, rfl, ?_⟩
    refine iteE false rfl (iteF ?_)
    refine ⟨_, rfl, b, _, rfl, .inr (sqt hb1), rfl, _, rfl, ?_⟩
    refine iteE false rfl (iteF ?_)
    refine ⟨_, rfl, b, _, rfl, .inr (sqt hb1), rfl, _, rfl, ?_⟩
    refine iteE false rfl (iteF ?_)
    refine ⟨_, rfl, b, _, rfl, .inr (sqt hb1), rfl, _, rfl, ?_⟩
    refine iteE false rfl (iteF ?_)
    refine ⟨_, rfl, b, _, rfl, .inr (sqt hb1), rfl, _, rfl, ?_⟩
    refine iteE false rfl (iteF ?_)
    refine ⟨_, rfl, b, _, rfl, .inr (sqt hb1), rfl, _, rfl, iteE true rfl (iteT ?_)⟩
    refine ⟨_, rfl, rfl, ?_⟩
    rw [sq "if", dec_S, decide_eq_true rfl]
    refine ⟨_, rfl, iteT ⟨_, rfl, b, _, _, _, rfl, rfl, sqt hb1, at0, u, c1, rfl, hu.keep (.of s1), hwf.1, by omega, by omega, fun H2 e2 => ?_⟩⟩
    have hb2 := e2 _ _ hb1
    refine ⟨_, rfl, iteT ⟨_, rfl, b, _, _, _, rfl, rfl, sqt hb2, at1, x, p, rfl, hx.keep (.of (s1.trans e2)), hwf.2.1, by omega, by omega, fun H3 e3 => ?_⟩⟩
    have hb3 := e3 _ _ hb2
    refine ⟨_, rfl, ?_⟩
    have e9 : (M.Part.ite c1 p r).pos = (p.pos && r.pos) := rfl
    rw [e9] at hq
    cases hp : p.pos with
    | true =>
      refine iteT ⟨_, rfl, b, _, _, _, rfl, rfl, sqt hb3, at2, y, r, rfl, hy.keep (.of ((s1.trans e2).trans e3)), hwf.2.2, by omega, by omega, fun H4 e4 => ?_⟩
      rw [hp, Bool.true_and] at hq
      exact hq _ (((s1.trans e2).trans e3).trans e4)
    | false =>
      rw [hp, Bool.false_and] at hq
      exact iteF (hq _ ((s1.trans e2).trans e3))
end
end K91
end

section
set_option Elab.async false
set_option linter.all false
set_option maxRecDepth 100000
set_option maxHeartbeats 4000000
/-! k91: read_condition, read_part. -/
namespace K91
open PySem PySem.Spec PyProof.Rows L2 He HL
section
variable {w : World} {K : PySem.W.Frag} {mg : Str → Option Value} {base : Heap}
/-- a new reader, until it has read -/
theorem reader_ext {H H2 H3 : Hp} {p dx : Addr} (h1 : H p = none) (h2 : H dx = none) (h3 : dx ≠ p) {C : Addr} (e1 : SameB p (upd (upd H dx (.own p)) p (.ins C dx [])) H2) (e2 : Kp p H2 H3) : LamX.ExtN H H3 := fun b o z n => by
  have nb : b ≠ p := ne_of_none z h1
  have nd : b ≠ dx := ne_of_none z h2
  exact e2 _ _ (e1 _ _ (by rw [upd_ne nb, upd_ne nd]; exact z) nb) ⟨nb, n⟩
theorem tab_new2 {T : List (Addr × Str)} {H : Hp} {p dx : Addr} (t : LamX.Tabs T H) (h1 : H p = none) (h2 : H dx = none) (h3 : dx ≠ p) {C : Addr} : LamX.Tabs T (upd (upd H dx (.own p)) p (.ins C dx [])) :=
  (t.ext (same_new h2)).ext (same_new (by rw [upd_ne h3.symm]; exact h1))
theorem tabI {T : List (Addr × Str)} {p : Addr} {H H' : Hp} {C dx : Addr} {fs : List (Str × V)} (t : LamX.Tabs T H) (e : SameB p H H') (h : H p = some (.ins C dx fs)) : LamX.Tabs T H' := fun x hx => by
  obtain ⟨ps, h1, h2, h3⟩ := t x hx
  refine ⟨ps, e _ _ h1 (fun z => by rw [z, h] at h1; cases h1), h2, fun pos cv hc => ?_⟩
  obtain ⟨c, e1, e2⟩ := h3 pos cv hc
  exact ⟨c, e1, e _ _ e2 (fun z => by rw [z, h] at e2; exact codeO_ins (Option.some.inj e2).symm)⟩
abbrev n_read_condition : List Str := ["text", "found"]
theorem sc_read_condition : FnScope n_read_condition ["text"] (defScope s_read_condition) := ⟨rfl, rfl, rfl, by decide +kernel, rfl, by decide +kernel, by decide +kernel⟩
theorem bi_read_condition : ∀ (kV doc pm : Value) (an : Option Addr) (cdv ct : Value) (us : List Value), us.length = 1 → bindArgs (PySem.W.fnOf d_read_condition.name d_read_condition.qual d_read_condition.params d_read_condition.body d_read_condition.scope .none kV doc pm an cdv ct) ⟨us, []⟩ = pure ([("text" : Str)].zip us) := fun kV doc pm an cdv ct us hu => by
  match us, hu with
  | [u0], _ => rfl
def spReadC (K : PySem.W.Frag) (n : Nat) : Sp := fun vs H Q E => ∃ v, vs = [v] ∧ LamX.Tabs (TK K) H ∧
  ((∃ s, v = .str (S s) ∧ s.length ≤ 1000000 ∧ M.om s < n ∧ (M.readC n s = none → ∀ H', LamX.ExtN H H' → LamX.Tabs (TK K) H' → E (.ref (CN K)) none H') ∧
    (∀ c, M.readC n s = some c → ∀ u H', LamX.ExtN H H' → LamX.Tabs (TK K) H' → CAt H' c u → Q u H')) ∨ (NoStr K H v ∧ E (.ref (CN K)) none H))
theorem o_readC (W : Wl K mg) (B : Tb K mg base) (n : Nat) (hn : 0 < n) : OkD w K mg base (CXN w) (n + 6) d_read_condition ["text"] (spReadC K n) := by
  refine HL.ok_of W.D_read_condition sc_read_condition (fun vs H Q E ⟨_, h, _⟩ => by rw [h]; rfl) bi_read_condition fun cdv A outer s H vs Q E hr h => ?_
  have tk := takes_of (X := cxOf (CXN w) P0 w K mg base n_read_condition d_read_condition.qual d_read_condition.scope (fAd K d_read_condition.at_) cdv A outer s H E) rfl rfl rfl rfl
  have nd := sc_read_condition.nd
  have O_need := o_need (w := w) (base := base) W
  have O_need_text := o_need_text (w := w) (base := base) W
  have O_Reader_init := o_init (w := w) (base := base) W
  have O_condition_here := o_cond (w := w) W B n (n + 5) (fun _ => by omega) (fun z => by omega)
  have O_show_condition := o_show_cond (w := w) (base := base) W n (n + 1) (fun _ => by omega) (fun _ => by omega)
  refine ⟨_, (pss_cons (ps_expr (pe_cal O_need_text (hr.mono (by omega)) W.g_need_text (passes_call tk (fun _ _ _ _ h => h)) (pa_cons (pv 0) pa_nil)))
    (pss_cons (ps_set (i := 1) nd rfl (Or.inl rfl) (pe_cam0 O_condition_here W.k_Reader W.m_Reader_condition_here (hr.mono (by omega)) (passes_call tk (fun _ _ _ _ h => h)) (pe_cak O_Reader_init W.mk_Reader (hr.mono (by omega)) W.g_Reader pass0 (pa_cons (pv 0) pa_nil))))
    (pss_cons (ps_expr (pe_cal O_need (hr.mono (by omega)) W.g_need (passes_call tk (fun _ _ _ _ h => h)) (pa_cons (pe_cmpR op_eq (pe_cal O_show_condition (hr.mono (by omega)) W.g_show_condition pass0 (pa_cons (pv 1) pa_nil)) (pv 0) (nomark _)) pa_nil)))
    (pss_one (ps_ret (pv 1)))))), ?_⟩
  obtain ⟨v, rfl, hT, ⟨s, rfl, hs, hom, hF, hQ⟩ | ⟨hno, hE⟩⟩ := h
  · refine ⟨_, rfl, _, rfl, .inl ⟨_, rfl, ?_⟩⟩
    refine ⟨_, rfl, fun p dx h1 h2 h3 => ⟨p, dx, s, rfl, upd_same, fun H1 e1 hR => ⟨rfl, ?_⟩⟩⟩
    have hT1 := tabI (tab_new2 (C := ga K "Reader") hT h1 h2 h3) e1 upd_same
    have hRR : RdR K H1 p s s := ⟨0, hR, rfl⟩
    obtain ⟨dx1, hp1⟩ := id hR
    refine ⟨p, dx1, _, rfl, hp1, rfl, p, s, s, rfl, hRR, hs, hom, hT1, fun hc H2 k2 hT2 => ?_, fun c r hc u H2 k2 hT2 hR2 hAt => ?_⟩
    · refine hF ?_ H2 (reader_ext h1 h2 h3 e1 k2) hT2
      unfold M.readC
      rw [hc]
    · obtain ⟨e5, hwf⟩ := M.cond_sound n s c r hc
      have hl : c.sh.length ≤ 1000000 := by
        have := congrArg List.length e5
        rw [List.length_append] at this
        omega
      have ho : M.om c.sh < n := by
        have := congrArg M.om e5
        rw [M.om_app] at this
        omega
      refine ⟨_, rfl, u, c, rfl, hAt, ho, hl, fun H3 e3 => ?_⟩
      refine ⟨_, rfl, rfl, ?_⟩
      rw [dec_S]
      have ext3 : LamX.ExtN H H3 := (reader_ext h1 h2 h3 e1 k2).trans (.of e3)
      have hrc : M.readC n s = if c.sh = s then some c else none := by
        unfold M.readC
        rw [hc]
      refine ⟨_, rfl, fun hk => ?_, fun hk => ?_⟩
      · refine ⟨_, rfl, hQ c (by rw [hrc, if_pos (of_decide_eq_true hk)]) u H3 ext3 (hT2.ext e3) (hAt.keep (.of e3))⟩
      · exact hF (by rw [hrc, if_neg (of_decide_eq_false hk)]) H3 ext3 (hT2.ext e3)
  · exact ⟨_, rfl, _, rfl, .inr ⟨hno, hE⟩⟩
abbrev n_read_part : List Str := ["text", "found"]
theorem sc_read_part : FnScope n_read_part ["text"] (defScope s_read_part) := ⟨rfl, rfl, rfl, by decide +kernel, rfl, by decide +kernel, by decide +kernel⟩
theorem bi_read_part : ∀ (kV doc pm : Value) (an : Option Addr) (cdv ct : Value) (us : List Value), us.length = 1 → bindArgs (PySem.W.fnOf d_read_part.name d_read_part.qual d_read_part.params d_read_part.body d_read_part.scope .none kV doc pm an cdv ct) ⟨us, []⟩ = pure ([("text" : Str)].zip us) := fun kV doc pm an cdv ct us hu => by
  match us, hu with
  | [u0], _ => rfl
def spReadP (K : PySem.W.Frag) (n : Nat) : Sp := fun vs H Q E => ∃ v, vs = [v] ∧ LamX.Tabs (TK K) H ∧
  ((∃ s, v = .str (S s) ∧ s.length ≤ 1000000 ∧ M.om s < n ∧ (M.readP n s = none → ∀ H', LamX.ExtN H H' → LamX.Tabs (TK K) H' → E (.ref (CN K)) none H') ∧
    (∀ c, M.readP n s = some c → ∀ u H', LamX.ExtN H H' → LamX.Tabs (TK K) H' → PAt H' c u → Q u H')) ∨ (NoStr K H v ∧ E (.ref (CN K)) none H))
theorem o_readP (W : Wl K mg) (B : Tb K mg base) (n : Nat) (hn : 0 < n) : OkD w K mg base (CXN w) (n + 7) d_read_part ["text"] (spReadP K n) := by
  refine HL.ok_of W.D_read_part sc_read_part (fun vs H Q E ⟨_, h, _⟩ => by rw [h]; rfl) bi_read_part fun cdv A outer s H vs Q E hr h => ?_
  have tk := takes_of (X := cxOf (CXN w) P0 w K mg base n_read_part d_read_part.qual d_read_part.scope (fAd K d_read_part.at_) cdv A outer s H E) rfl rfl rfl rfl
  have nd := sc_read_part.nd
  have O_need := o_need (w := w) (base := base) W
  have O_need_text := o_need_text (w := w) (base := base) W
  have O_Reader_init := o_init (w := w) (base := base) W
  have O_part_here := o_part (w := w) W B n (n + 6) (fun _ => by omega) (fun z => by omega)
  have O_show_part := o_show_part (w := w) (base := base) W n (n + 2) (fun _ => by omega) (fun _ => by omega)
  have O_is_part := o_is_part (w := w) (base := base) W n (n + 2) (fun _ => by omega) (fun _ => by omega)
  refine ⟨_, (pss_cons (ps_expr (pe_cal O_need_text (hr.mono (by omega)) W.g_need_text (passes_call tk (fun _ _ _ _ h => h)) (pa_cons (pv 0) pa_nil)))
    (pss_cons (ps_set (i := 1) nd rfl (Or.inl rfl) (pe_cam0 O_part_here W.k_Reader W.m_Reader_part_here (hr.mono (by omega)) (passes_call tk (fun _ _ _ _ h => h)) (pe_cak O_Reader_init W.mk_Reader (hr.mono (by omega)) W.g_Reader pass0 (pa_cons (pv 0) pa_nil))))
    (pss_cons (ps_expr (pe_cal O_need (hr.mono (by omega)) W.g_need (passes_call tk (fun _ _ _ _ h => h)) (pa_cons (pe_and (pe_cmpR op_eq (pe_cal O_show_part (hr.mono (by omega)) W.g_show_part pass0 (pa_cons (pv 1) pa_nil)) (pv 0) (nomark _)) (pe_one (pe_cal O_is_part (hr.mono (by omega)) W.g_is_part pass0 (pa_cons (pv 1) pa_nil)))) pa_nil)))
    (pss_one (ps_ret (pv 1)))))), ?_⟩
  obtain ⟨v, rfl, hT, ⟨s, rfl, hs, hom, hF, hQ⟩ | ⟨hno, hE⟩⟩ := h
  · refine ⟨_, rfl, _, rfl, .inl ⟨_, rfl, ?_⟩⟩
    refine ⟨_, rfl, fun p dx h1 h2 h3 => ⟨p, dx, s, rfl, upd_same, fun H1 e1 hR => ⟨rfl, ?_⟩⟩⟩
    have hT1 := tabI (tab_new2 (C := ga K "Reader") hT h1 h2 h3) e1 upd_same
    have hRR : RdR K H1 p s s := ⟨0, hR, rfl⟩
    obtain ⟨dx1, hp1⟩ := id hR
    refine ⟨p, dx1, _, rfl, hp1, rfl, p, s, s, rfl, hRR, hs, hom, hT1, fun hc H2 k2 hT2 => ?_, fun c r hc u H2 k2 hT2 hR2 hAt => ?_⟩
    · refine hF ?_ H2 (reader_ext h1 h2 h3 e1 k2) hT2
      unfold M.readP
      rw [hc]
    · obtain ⟨e5, hwf⟩ := M.part_sound n s c r hc
      have hl : c.sh.length ≤ 1000000 := by
        have := congrArg List.length e5
        rw [List.length_append] at this
        omega
      have ho : M.om c.sh < n := by
        have := congrArg M.om e5
        rw [M.om_app] at this
        omega
      refine ⟨_, rfl, u, c, rfl, hAt, hwf, ho, hl, fun H3 e3 => ?_⟩
      refine ⟨_, rfl, rfl, ?_⟩
      rw [dec_S]
      have ext3 : LamX.ExtN H H3 := (reader_ext h1 h2 h3 e1 k2).trans (.of e3)
      have hrc : M.readP n s = if c.sh = s ∧ c.pos = true then some c else none := by
        unfold M.readP
        rw [hc]
      refine ⟨_, rfl, ?_⟩
      by_cases hk : c.sh = s
      · rw [decide_eq_true hk]
        refine iteT ⟨_, rfl, u, c, rfl, hAt.keep (.of e3), hwf, ho, hl, fun H4 e4 => ?_⟩
        have ext4 := ext3.trans (.of e4)
        refine ⟨_, rfl, fun hk2 => ?_, fun hk2 => ?_⟩
        · refine ⟨_, rfl, hQ c (by rw [hrc, if_pos ⟨hk, hk2⟩]) u H4 ext4 ((hT2.ext e3).ext e4) ((hAt.keep (.of e3)).keep (.of e4))⟩
        · exact hF (by rw [hrc, if_neg (fun z => by rw [z.2] at hk2; cases hk2)]) H4 ext4 ((hT2.ext e3).ext e4)
      · rw [decide_eq_false hk]
        refine iteF ⟨_, rfl, nofun, fun _ => ?_⟩
        exact hF (by rw [hrc, if_neg (fun z => hk z.1)]) H3 ext3 (hT2.ext e3)
  · exact ⟨_, rfl, _, rfl, .inr ⟨hno, hE⟩⟩
end
end K91
end

section
set_option Elab.async false
set_option linter.all false
set_option maxRecDepth 100000
set_option maxHeartbeats 4000000
/-! k91: the law's reader, its smallest defs. -/
namespace K91
open PySem PySem.Spec PyProof.Rows L2 He HL
/-- r stands in t from i on -/
def Ps (t : List Nat) (i : Nat) (r : List Nat) : Prop := i ≤ t.length ∧ t.drop i = r
theorem Ps.takes {t w r r' : List Nat} {i : Nat} (h : Ps t i r) (z : M.takes w r = some r') : Ps t (i + w.length) r' := by
  obtain ⟨h1, h2⟩ := h
  have h3 := M.takes_some.mp z
  refine ⟨?_, drop_takes (h2 ▸ z)⟩
  have := congrArg List.length (h2.trans h3)
  rw [List.length_drop, List.length_append] at this
  omega
theorem Ps.drop {t r : List Nat} {i k : Nat} (h : Ps t i r) (hk : k ≤ r.length) : Ps t (i + k) (r.drop k) := by
  obtain ⟨h1, rfl⟩ := h
  rw [List.length_drop] at hk
  exact ⟨by omega, by rw [List.drop_drop]⟩
theorem Ps.all {t r : List Nat} {i : Nat} (h : Ps t i r) : (i = t.length ↔ r = []) := by
  obtain ⟨h1, rfl⟩ := h
  constructor
  · rintro rfl
    simp
  · intro z
    have := congrArg List.length z
    rw [List.length_drop] at this
    simp at this
    omega
theorem Ps.cut {t r : List Nat} {i k : Nat} (h : Ps t i r) : cutS (S t) (some (i : Int)) (some ((i + k : Nat) : Int)) = S (r.take k) := by
  rw [cut_ij, h.2, Nat.add_sub_cancel_left]
section
variable {w : World} {K : PySem.W.Frag} {mg : Str → Option Value} {base : Heap}
abbrev n_law_name_at : List Str := ["_law_text_here", "_law_at", "_law_end"]
theorem sc_law_name_at : FnScope n_law_name_at ["_law_text_here", "_law_at"] (defScope s_law_name_at) := ⟨rfl, rfl, rfl, by decide +kernel, rfl, by decide +kernel, by decide +kernel⟩
theorem bi_law_name_at : ∀ (kV doc pm : Value) (an : Option Addr) (cdv ct : Value) (us : List Value), us.length = 2 → bindArgs (PySem.W.fnOf d_law_name_at.name d_law_name_at.qual d_law_name_at.params d_law_name_at.body d_law_name_at.scope .none kV doc pm an cdv ct) ⟨us, []⟩ = pure ([("_law_text_here" : Str), ("_law_at" : Str)].zip us) := fun kV doc pm an cdv ct us hu => by
  match us, hu with
  | [u0, u1], _ => rfl
def spLName : Sp := fun vs H Q _ => ∃ t i r, vs = [.str (S t), .int (i : Nat)] ∧ Ps t i r ∧ t.length ≤ 1000000 ∧
  (M.word r = none → Q .non H) ∧ (∀ x r', M.word r = some (x, r') → ∀ u j H', Same H H' → Ps t j r' → H' u = some (.tup [.str (S x), .int (j : Nat)]) → Q (.ref u) H')
theorem o_lname (W : Wl K mg) : OkD w K mg base CX0 1 d_law_name_at ["_law_text_here", "_law_at"] spLName := by
  refine HL.ok_of0 W.D_law_name_at sc_law_name_at (fun vs H Q E ⟨_, _, _, h, _⟩ => by rw [h]; rfl) bi_law_name_at fun cdv A outer s H vs Q E hr h => ?_
  have nd := sc_law_name_at.nd
  refine ⟨_, (pss_cons (ps_set (i := 2) nd rfl (Or.inl rfl) (pv 1))
    (pss_cons (ps_while PassesOwn.never (PW.pt (pw_and (pt_cmpR op_lt (pv 2) (pe_callB call_len_str (by rfl) W.f_len (by decide +kernel) (pa_cons (pv 0) pa_nil)) (nomark _)) (pw_and1 (pt_cmpR op_in_sign (pe_ix ix_str (pv 0) (pv 2) (fun _ _ => rfl)) pe_str (by rfl))))) (pss_one (ps_aug (i := 2) nd rfl (.inl rfl) pe_int ip_add)))
    (pss_one (ps_ret (pe_ifExp (pt_chain op_lt op_lt pe_int (pe_op op_sub (pv 2) (pv 1)) pe_int) (pe_tup (pa_cons (pe_slice sl_str (pv 0) (po_some (pv 1)) (po_some (pv 2))) (pa_cons (pv 2) pa_nil))) pe_non))))), ?_⟩
  obtain ⟨t, i, r, rfl, hP, hs, hF, hQ⟩ := h
  have tl : (S t).length ≤ sizeLine := by rw [S_len]; exact small hs
  refine ⟨_, rfl, ?_⟩
  refine HL.while_zz (fun m σ H1 => ∃ e : Nat, m = t.length - e ∧ H1 = H ∧ σ = [some (.str (S t)), some (.int (i : Nat)), some (.int (e : Nat))] ∧ Sc M.isLet t i e)
    (fun σ H1 => ∃ e : Nat, H1 = H ∧ σ = [some (.str (S t)), some (.int (i : Nat)), some (.int (e : Nat))] ∧ Sc M.isLet t i e ∧ ∀ c, t[e]? = some c → M.isLet c = false) ⟨_, i, rfl, rfl, rfl, Sc.start _ t i⟩ ?_ ?_
  · rintro m σ H1 ⟨e, rfl, rfl, rfl, hsc⟩ R hT hF
    refine ⟨_, rfl, _, rfl, _, rfl, tl, _, _, rfl, rfl, _, rfl, ?_⟩
    refine ite2 (fun h1 => ?_) (fun h1 => ?_)
    · have h1 : e < t.length := by
        have := of_decide_eq_true h1
        rw [S_len] at this
        omega
      refine ⟨_, rfl, _, rfl, _, _, _, rfl, rfl, tl, atI_nat (List.getElem?_eq_getElem h1), _, _, rfl, rfl, _, rfl, ?_⟩
      rw [isLet_in]
      cases hc : M.isLet t[e] with
      | true =>
        refine hT _ fun N F hN hF => ?_
        refine ⟨_, rfl, _, _, rfl, rfl, ?_⟩
        exact hN (t.length - (e + 1)) _ _ (by omega) ⟨e + 1, rfl, rfl, rfl, hsc.next (List.getElem?_eq_getElem h1) hc⟩
      | false => exact hF _ ⟨e, rfl, rfl, hsc, fun c z => by
          rw [List.getElem?_eq_getElem h1] at z
          cases z
          exact hc⟩
    · have h1 : ¬ e < t.length := by
        intro z
        apply h1
        rw [S_len]
        exact decide_eq_true (by omega)
      exact hF _ ⟨e, rfl, rfl, hsc, fun c z => by
        rw [List.getElem?_eq_none (by omega)] at z
        cases z⟩
  · rintro σ H1 ⟨e, rfl, rfl, hsc, hst⟩
    obtain ⟨e1, e2⟩ := hsc.stop hst
    rw [hP.2] at e1 e2
    have hle : (r.takeWhile M.isLet).length ≤ r.length := (List.takeWhile_sublist _).length_le
    have hP2 : Ps t e (r.dropWhile M.isLet) := by
      rw [e2]
      refine ⟨?_, ?_⟩
      · have := congrArg List.length hP.2
        rw [List.length_drop] at this
        have := hP.1
        omega
      · rw [← hP.2, drop_tw]
    have e3 : ((e : Nat) : Int) - ((i : Nat) : Int) = (((r.takeWhile M.isLet).length : Nat) : Int) := by omega
    refine ⟨_, rfl, _, rfl, _, _, rfl, rfl, _, _, rfl, congrArg V.int e3, _, rfl, ite2 (fun h1 => ?_) (fun h1 => ?_)⟩
    · have h1 := of_decide_eq_true h1
      refine ⟨_, _, congrArg V.int e3, rfl, _, rfl, ite2 (fun h2 => ?_) (fun h2 => ?_)⟩
      · have h2 := of_decide_eq_true h2
        have hw : M.word r = some (r.takeWhile M.isLet, r.dropWhile M.isLet) := by
          unfold M.word
          rw [if_pos ⟨by omega, by omega⟩]
        refine ⟨_, rfl, _, rfl, _, rfl, _, rfl, _, rfl, _, rfl, tl, _, rfl, by show 2 ≤ sizeLine; decide, fun u hu => ?_⟩
        rw [cut_ij, hP.2, e1]
        exact hQ _ _ hw u e _ (same_new hu) hP2 upd_same
      · have hw : M.word r = none := by
          unfold M.word
          rw [if_neg (fun z => h2 (decide_eq_true (by omega)))]
        exact hF hw
    · have hw : M.word r = none := by
        unfold M.word
        rw [if_neg (fun z => h1 (decide_eq_true (by omega)))]
      exact ⟨false, rfl, iteF (hF hw)⟩
abbrev n_law_number_at : List Str := ["_law_text_here", "_law_at", "_law_end"]
theorem sc_law_number_at : FnScope n_law_number_at ["_law_text_here", "_law_at"] (defScope s_law_number_at) := ⟨rfl, rfl, rfl, by decide +kernel, rfl, by decide +kernel, by decide +kernel⟩
theorem bi_law_number_at : ∀ (kV doc pm : Value) (an : Option Addr) (cdv ct : Value) (us : List Value), us.length = 2 → bindArgs (PySem.W.fnOf d_law_number_at.name d_law_number_at.qual d_law_number_at.params d_law_number_at.body d_law_number_at.scope .none kV doc pm an cdv ct) ⟨us, []⟩ = pure ([("_law_text_here" : Str), ("_law_at" : Str)].zip us) := fun kV doc pm an cdv ct us hu => by
  match us, hu with
  | [u0, u1], _ => rfl
def spLNum : Sp := fun vs H Q _ => ∃ t i r, vs = [.str (S t), .int (i : Nat)] ∧ Ps t i r ∧ t.length ≤ 1000000 ∧
  (M.number r = none → Q .non H) ∧ (∀ x r', M.number r = some (x, r') → ∀ u j H', Same H H' → Ps t j r' → H' u = some (.tup [.int (x : Nat), .int (j : Nat)]) → Q (.ref u) H')
theorem o_lnum (W : Wl K mg) : OkD w K mg base CX0 1 d_law_number_at ["_law_text_here", "_law_at"] spLNum := by
  refine HL.ok_of0 W.D_law_number_at sc_law_number_at (fun vs H Q E ⟨_, _, _, h, _⟩ => by rw [h]; rfl) bi_law_number_at fun cdv A outer s H vs Q E hr h => ?_
  have nd := sc_law_number_at.nd
  refine ⟨_, (pss_cons (ps_set (i := 2) nd rfl (Or.inl rfl) (pv 1))
    (pss_cons (ps_while PassesOwn.never (PW.pt (pw_and (pt_cmpR op_lt (pv 2) (pe_callB call_len_str (by rfl) W.f_len (by decide +kernel) (pa_cons (pv 0) pa_nil)) (nomark _)) (pw_and1 (pt_cmpR op_in_sign (pe_ix ix_str (pv 0) (pv 2) (fun _ _ => rfl)) pe_str (by rfl))))) (pss_one (ps_aug (i := 2) nd rfl (.inl rfl) pe_int ip_add)))
    (pss_cons (ps_if (PW.pt (pw_or (pt_not (pt_chain op_lt op_lt pe_int (pe_op op_sub (pv 2) (pv 1)) pe_int)) (pw_or1 (PW.pt (pw_and (pt_cmpR op_eq (pe_ix ix_str (pv 0) (pv 1) (fun _ _ => rfl)) pe_str (nomark _)) (pw_and1 (pt_cmpR op_gt (pe_op op_sub (pv 2) (pv 1)) pe_int (nomark _)))))))) (pss_one (ps_ret pe_non)) pss_nil)
    (pss_one (ps_ret (pe_tup (pa_cons (pe_callTy call_int_str (by rfl) W.f_int (by decide +kernel) (pa_cons (pe_slice sl_str (pv 0) (po_some (pv 1)) (po_some (pv 2))) pa_nil)) (pa_cons (pv 2) pa_nil)))))))), ?_⟩
  obtain ⟨t, i, r, rfl, hP, hs, hF, hQ⟩ := h
  have tl : (S t).length ≤ sizeLine := by rw [S_len]; exact small hs
  refine ⟨_, rfl, ?_⟩
  refine HL.while_zz (fun m σ H1 => ∃ e : Nat, m = t.length - e ∧ H1 = H ∧ σ = [some (.str (S t)), some (.int (i : Nat)), some (.int (e : Nat))] ∧ Sc M.isDig t i e)
    (fun σ H1 => ∃ e : Nat, H1 = H ∧ σ = [some (.str (S t)), some (.int (i : Nat)), some (.int (e : Nat))] ∧ Sc M.isDig t i e ∧ ∀ c, t[e]? = some c → M.isDig c = false) ⟨_, i, rfl, rfl, rfl, Sc.start _ t i⟩ ?_ ?_
  · rintro m σ H1 ⟨e, rfl, rfl, rfl, hsc⟩ R hT hF
    refine ⟨_, rfl, _, rfl, _, rfl, tl, _, _, rfl, rfl, _, rfl, ?_⟩
    refine ite2 (fun h1 => ?_) (fun h1 => ?_)
    · have h1 : e < t.length := by
        have := of_decide_eq_true h1
        rw [S_len] at this
        omega
      refine ⟨_, rfl, _, rfl, _, _, _, rfl, rfl, tl, atI_nat (List.getElem?_eq_getElem h1), _, _, rfl, rfl, _, rfl, ?_⟩
      rw [isDig_in]
      cases hc : M.isDig t[e] with
      | true =>
        refine hT _ fun N F hN hF => ?_
        refine ⟨_, rfl, _, _, rfl, rfl, ?_⟩
        exact hN (t.length - (e + 1)) _ _ (by omega) ⟨e + 1, rfl, rfl, rfl, hsc.next (List.getElem?_eq_getElem h1) hc⟩
      | false => exact hF _ ⟨e, rfl, rfl, hsc, fun c z => by
          rw [List.getElem?_eq_getElem h1] at z
          cases z
          exact hc⟩
    · have h1 : ¬ e < t.length := by
        intro z
        apply h1
        rw [S_len]
        exact decide_eq_true (by omega)
      exact hF _ ⟨e, rfl, rfl, hsc, fun c z => by
        rw [List.getElem?_eq_none (by omega)] at z
        cases z⟩
  · rintro σ H1 ⟨e, rfl, rfl, hsc, hst⟩
    obtain ⟨e1, e2⟩ := hsc.stop hst
    rw [hP.2] at e1 e2
    have hle : (r.takeWhile M.isDig).length ≤ r.length := (List.takeWhile_sublist _).length_le
    have hP2 : Ps t e (r.dropWhile M.isDig) := by
      rw [e2]
      refine ⟨?_, ?_⟩
      · have := congrArg List.length hP.2
        rw [List.length_drop] at this
        have := hP.1
        omega
      · rw [← hP.2, drop_tw]
    have e3 : ((e : Nat) : Int) - ((i : Nat) : Int) = (((r.takeWhile M.isDig).length : Nat) : Int) := by omega
    have hnum : M.number r = if (0 < (r.takeWhile M.isDig).length ∧ (r.takeWhile M.isDig).length ≤ 9) ∧ (r.takeWhile M.isDig = M.q "0" ∨ (r.takeWhile M.isDig).head? ≠ some 48) then some (PySem.NumText.digitsVal (r.takeWhile M.isDig), r.dropWhile M.isDig) else none := rfl
    refine ⟨_, rfl, _, rfl, _, _, rfl, rfl, _, _, rfl, congrArg V.int e3, _, rfl, ite2 (fun h1 => ?_) (fun h1 => ?_)⟩
    · have h1 := of_decide_eq_true h1
      have h1 : 0 < (r.takeWhile M.isDig).length := by omega
      refine ⟨_, _, congrArg V.int e3, rfl, _, rfl, ?_⟩
      by_cases h2 : (r.takeWhile M.isDig).length ≤ 9
      · refine iteE false (by rw [decide_eq_true (show (((r.takeWhile M.isDig).length : Nat) : Int) < 10 by omega)] <;> rfl) (iteF ?_)
        obtain ⟨c, w', ew⟩ := List.exists_cons_of_ne_nil (show r.takeWhile M.isDig ≠ [] from fun z => by rw [z] at h1; simp at h1)
        have hit : i < t.length := by
          have := congrArg List.length hP.2
          rw [List.length_drop] at this
          omega
        have hc : t[i]? = some c := by
          have h7 : (t.drop i)[0]? = some c := by
            rw [hP.2]
            cases r with
            | nil => simp at ew
            | cons d r =>
              by_cases hd : M.isDig d = true
              · rw [List.takeWhile_cons_of_pos hd] at ew
                injection ew with ew _
                rw [ew]
                rfl
              · rw [List.takeWhile_cons_of_neg hd] at ew
                cases ew
          rw [List.getElem?_drop] at h7
          exact h7
        have good : ∀ (hh : r.takeWhile M.isDig = M.q "0" ∨ (r.takeWhile M.isDig).head? ≠ some 48) (u : Addr), H1 u = none → Q (.ref u) (upd H1 u (.tup [.int (PySem.NumText.digitsVal (r.takeWhile M.isDig) : Nat), .int (e : Nat)])) := fun hh u hu => hQ _ _ (by rw [hnum, if_pos ⟨⟨h1, h2⟩, hh⟩]) u e _ (same_new hu) hP2 upd_same
        have ret : (r.takeWhile M.isDig = M.q "0" ∨ (r.takeWhile M.isDig).head? ≠ some 48) → tRet (tTup (tCons (tCB (fun xs H Q => ∃ a n, xs = [V.str a] ∧ PySem.intText? a = some n ∧ a.length ≤ 640 ∧ Q (V.int n) H) (tCons (tSl rSlS (tVar 0) (tPart (tVar 1)) (tPart (tVar 2))) tNil)) (tCons (tVar 2) tNil)))
            { nx := fun _ H' => Q V.non H', rt := Q } [some (.str (S t)), some (.int (i : Nat)), some (.int (e : Nat))] H1 := fun hh => by
          refine ⟨_, rfl, _, rfl, _, rfl, _, rfl, _, rfl, _, rfl, tl, ?_⟩
          rw [cut_ij, hP.2, e1]
          refine ⟨_, _, rfl, SX.int_S (List.all_eq_true.mpr fun d hd => ?_) (by rw [ew]; simp) (by omega), by rw [S_len]; omega, _, rfl, by show 2 ≤ sizeLine; decide, good hh⟩
          have := (M.dig_iff d).mp (M.span_all _ d hd)
          simp [this]
        refine ⟨_, rfl, _, rfl, _, _, c, rfl, rfl, tl, atI_nat hc, rfl, ?_⟩
        rw [sq "0", show (⟨#[c]⟩ : Str) = S [c] from rfl, dec_S]
        refine ⟨_, rfl, ?_⟩
        by_cases hc0 : c = 48
        · rw [decide_eq_true (show [c] = M.q "0" by rw [hc0]; rfl)]
          refine iteT ⟨_, rfl, _, rfl, _, _, rfl, rfl, _, _, congrArg V.int e3, rfl, _, rfl, ite2 (fun h3 => ?_) (fun h3 => ?_)⟩
          · have h3 := of_decide_eq_true h3
            have h3 : (r.takeWhile M.isDig).length > 1 := by omega
            refine hF ?_
            rw [hnum, if_neg]
            rintro ⟨_, z | z⟩
            · rw [z] at h3
              revert h3
              decide
            · rw [ew, hc0] at z
              exact z rfl
          · have h3 : (r.takeWhile M.isDig).length = 1 := by
              have : ¬ ((r.takeWhile M.isDig).length : Int) > 1 := fun z => h3 (decide_eq_true z)
              omega
            refine ret (.inl ?_)
            rw [ew] at h3 ⊢
            have : w' = [] := List.length_eq_zero_iff.mp (by simpa using h3)
            rw [this, hc0]
            rfl
        · rw [decide_eq_false (show ¬ [c] = M.q "0" from fun z => hc0 (by injection (show [c] = [48] from z)))]
          exact iteF (ret (.inr (by rw [ew]; simpa using hc0)))
      · refine iteE true (by rw [decide_eq_false (show ¬ (((r.takeWhile M.isDig).length : Nat) : Int) < 10 by omega)] <;> rfl) (iteT ?_)
        exact hF (by rw [hnum, if_neg (fun z => h2 z.1.2)])
    · have hw : M.number r = none := by
        rw [hnum, if_neg (fun z => h1 (decide_eq_true (by have := z.1.1; omega)))]
      exact ⟨false, rfl, iteT (hF hw)⟩
end
end K91
end

section
set_option Elab.async false
set_option linter.all false
set_option maxRecDepth 100000
set_option maxHeartbeats 4000000
/-! k91: the law's reader of conditions. -/
namespace K91
open PySem PySem.Spec PyProof.Rows L2 He HL
theorem takes_if {w r : List Nat} : (r.take w.length = w ↔ ∃ r', M.takes w r = some r') := by
  unfold M.takes
  constructor
  · intro h
    exact ⟨_, if_pos h⟩
  · rintro ⟨r', h⟩
    split at h
    · assumption
    · cases h
theorem take_yes {w r r' : List Nat} {n : Nat} (hn : w.length = n) (h : M.takes w r = some r') : r.take n = w := by
  subst hn
  exact takes_if.mpr ⟨r', h⟩
theorem take_no {w r : List Nat} {n : Nat} (hn : w.length = n) (h : M.takes w r = none) : ¬ r.take n = w := by
  subst hn
  intro z
  obtain ⟨r', z⟩ := takes_if.mp z
  rw [h] at z
  cases z
theorem Ps.om {t r r' : List Nat} {i j : Nat} (h : Ps t i r) (h' : Ps t j r') (hij : i ≤ j) : M.om r' ≤ M.om r := by
  refine om_suf (a := r.take (j - i)) ?_
  rw [← h.2, ← h'.2]
  conv => rhs; rhs; rw [show j = i + (j - i) by omega, ← List.drop_drop]
  rw [List.take_append_drop]
theorem Ps.le {t r r' a : List Nat} {i j : Nat} (h : Ps t i r) (h' : Ps t j r') (e : r = a ++ r') : i ≤ j := by
  have h1 := congrArg List.length h.2
  have h2 := congrArg List.length h'.2
  have h3 := congrArg List.length e
  rw [List.length_drop] at h1 h2
  rw [List.length_append] at h3
  have := h.1
  have := h'.1
  omega
theorem ref_non {u : Addr} : decide (V.ref u = V.non) = false := decide_eq_false fun z => nomatch z
section
variable {w : World} {K : PySem.W.Frag} {mg : Str → Option Value} {base : Heap}
abbrev n_law_condition_at : List Str := ["_law_text_here", "_law_at", "_law_word", "_law_found", "_law_name"]
theorem sc_law_condition_at : FnScope n_law_condition_at ["_law_text_here", "_law_at"] (defScope s_law_condition_at) := ⟨rfl, rfl, rfl, by decide +kernel, rfl, by decide +kernel, by decide +kernel⟩
theorem bi_law_condition_at : ∀ (kV doc pm : Value) (an : Option Addr) (cdv ct : Value) (us : List Value), us.length = 2 → bindArgs (PySem.W.fnOf d_law_condition_at.name d_law_condition_at.qual d_law_condition_at.params d_law_condition_at.body d_law_condition_at.scope .none kV doc pm an cdv ct) ⟨us, []⟩ = pure ([("_law_text_here" : Str), ("_law_at" : Str)].zip us) := fun kV doc pm an cdv ct us hu => by
  match us, hu with
  | [u0, u1], _ => rfl
abbrev n_law_conditions_at : List Str := ["_law_text_here", "_law_at", "_law_some", "_law_turn", "_law_found"]
theorem sc_law_conditions_at : FnScope n_law_conditions_at ["_law_text_here", "_law_at"] (defScope s_law_conditions_at) := ⟨rfl, rfl, rfl, by decide +kernel, rfl, by decide +kernel, by decide +kernel⟩
theorem bi_law_conditions_at : ∀ (kV doc pm : Value) (an : Option Addr) (cdv ct : Value) (us : List Value), us.length = 2 → bindArgs (PySem.W.fnOf d_law_conditions_at.name d_law_conditions_at.qual d_law_conditions_at.params d_law_conditions_at.body d_law_conditions_at.scope .none kV doc pm an cdv ct) ⟨us, []⟩ = pure ([("_law_text_here" : Str), ("_law_at" : Str)].zip us) := fun kV doc pm an cdv ct us hu => by
  match us, hu with
  | [u0, u1], _ => rfl
def spLC (n : Nat) : Sp := fun vs H Q _ => ∃ t i r, vs = [.str (S t), .int (i : Nat)] ∧ Ps t i r ∧ t.length ≤ 1000000 ∧ M.om r < n ∧
  (M.lcond n t.length r = none → ∀ H', Same H H' → Q .non H') ∧ (∀ c r', M.lcond n t.length r = some (c, r') → ∀ u v j H', Same H H' → i ≤ j → Ps t j r' → H' u = some (.tup [v, .int (j : Nat)]) → CAt H' c v → Q (.ref u) H')
def spLCs (n : Nat) : Sp := fun vs H Q _ => ∃ t i r, vs = [.str (S t), .int (i : Nat)] ∧ Ps t i r ∧ t.length ≤ 1000000 ∧ M.om r < n ∧
  (M.lall (M.lcond n t.length) (M.q ")") (M.q ", ") t.length r = none → ∀ H', Same H H' → Q .non H') ∧
  (∀ cs r', M.lall (M.lcond n t.length) (M.q ")") (M.q ", ") t.length r = some (cs, r') → ∀ u l us j H', Same H H' → i ≤ j → Ps t j r' → H' u = some (.tup [.ref l, .int (j : Nat)]) → H' l = some (.lst us) → All2 (fun v c => CAt H' c v) us cs → us.length ≤ 1000000 → Q (.ref u) H')
theorem o_lconds (W : Wl K mg) (n k : Nat) (O__law_condition_at : OkD w K mg base CX0 k d_law_condition_at ["_law_text_here", "_law_at"] (spLC n)) : OkD w K mg base CX0 (k + 1) d_law_conditions_at ["_law_text_here", "_law_at"] (spLCs n) := by
  refine HL.ok_of0 W.D_law_conditions_at sc_law_conditions_at (fun vs H Q E ⟨_, _, _, h, _⟩ => by rw [h]; rfl) bi_law_conditions_at fun cdv A outer s H vs Q E hr h => ?_
  have nd := sc_law_conditions_at.nd
  refine ⟨_, (pss_cons (ps_set (i := 2) nd rfl (Or.inl rfl) (pe_lst pa_nil))
    (pss_cons (ps_if (pt_cmpR op_eq (pe_slice sl_str (pv 0) (po_some (pv 1)) (po_some (pe_op op_add (pv 1) pe_int))) pe_str (nomark _)) (pss_one (ps_ret (pe_tup (pa_cons (pv 2) (pa_cons (pe_op op_add (pv 1) pe_int) pa_nil))))) pss_nil)
    (pss_cons (ps_for PassesOwn.never rfl (pi_range1 (by rfl) W.f_range (pa_cons (pe_callB call_len_str (by rfl) W.f_len (by decide +kernel) (pa_cons (pv 0) pa_nil)) pa_nil)) (pg_name (i := 3) nd rfl (Or.inl rfl)) (pss_cons (ps_set (i := 4) nd rfl (Or.inl rfl) (pe_cal O__law_condition_at (hr.mono (by omega)) W.g__law_condition_at pass0 (pa_cons (pv 0) (pa_cons (pv 1) pa_nil))))
      (pss_cons (ps_if (pt_cmpR op_isN (pv 4) pe_non (nomark _)) (pss_one (ps_ret pe_non)) pss_nil)
      (pss_cons (ps_expr (pe_bm PySem.F.plainAttrs_list PySem.F.slot_list_append PySem.F.type_list_append mt_append (pv 2) (pa_cons (pe_ix ix_tup (pv 4) pe_int (fun _ _ => rfl)) pa_nil)))
      (pss_cons (ps_set (i := 1) nd rfl (Or.inl rfl) (pe_op op_add (pe_ix ix_tup (pv 4) pe_int (fun _ _ => rfl)) pe_int))
      (pss_cons (ps_if (pt_cmpR op_eq (pe_slice sl_str (pv 0) (po_some (pe_op op_sub (pv 1) pe_int)) (po_some (pe_op op_sub (pv 1) pe_int))) pe_str (nomark _)) (pss_one (ps_ret (pe_tup (pa_cons (pv 2) (pa_cons (pe_op op_sub (pv 1) pe_int) pa_nil))))) pss_nil)
      (pss_one (ps_if (pt_cmpR op_ne (pe_slice sl_str (pv 0) (po_some (pe_op op_sub (pv 1) pe_int)) (po_some (pv 1))) pe_str (nomark _)) (pss_one (ps_ret pe_non)) pss_nil))))))))
    (pss_one (ps_ret pe_non))))), ?_⟩
  obtain ⟨t, i, r, rfl, hP, hs, hom, hF, hQ⟩ := h
  have tl : (S t).length ≤ sizeLine := by rw [S_len]; exact small hs
  refine ⟨Nat.zero_le _, fun L hL => ?_⟩
  have sL : Same H (upd H L (.lst [])) := same_new hL
  refine ⟨_, rfl, _, rfl, _, rfl, _, rfl, _, _, rfl, rfl, _, rfl, _, rfl, tl, ?_⟩
  rw [show ((i : Nat) : Int) + 1 = ((i + 1 : Nat) : Int) from rfl, hP.cut, sq ")"]
  refine ⟨rfl, _, rfl, ?_⟩
  rw [dec_S]
  cases h1 : M.takes (M.q ")") r with
  | some r1 =>
    rw [decide_eq_true (take_yes (by decide) h1)]
    refine iteT ⟨_, rfl, _, rfl, _, _, rfl, rfl, by show 2 ≤ sizeLine; decide, fun u hu => ?_⟩
    refine hQ [] r1 (by unfold M.lall; rw [h1]) u L [] (i + 1) _ (sL.trans (same_new hu)) (by omega) (hP.takes h1) (by rw [upd_same] <;> rfl) (by rw [upd_ne (ne_of_none upd_same hu), upd_same]) trivial (by simp)
  | none =>
    rw [decide_eq_false (take_no (by decide) h1)]
    have hla : M.lall (M.lcond n t.length) (M.q ")") (M.q ", ") t.length r = M.lsev (M.lcond n t.length) (M.q ")") (M.q ", ") t.length [] r := by unfold M.lall; rw [h1]
    rw [hla] at hF hQ
    generalize hTG : M.lsev (M.lcond n t.length) (M.q ")") (M.q ", ") t.length [] r = TG at hF hQ
    have b62 : (((S t).length : Nat) : Int) < 2 ^ 62 := by
      rw [S_len]
      have : (t.length : Int) ≤ 1000000 := by omega
      exact Int.lt_of_le_of_lt this (by decide)
    have b0 : -(2 ^ 62) ≤ (((S t).length : Nat) : Int) := Int.le_trans (by decide) (Int.natCast_nonneg _)
    have em : (((S t).length : Nat) : Int).toNat = t.length := by rw [S_len]; rfl
    refine iteF ⟨_, rfl, _, rfl, tl, _, rfl, b0, b62, ?_⟩
    rw [em]
    refine for_range (lo := 0) (n := t.length) (fun k1 σ H1 => ∃ (acc : List M.Cond) (us : List V) (j : Nat) (r' : List Nat) (x3 x4 : Option V), σ = [some (.str (S t)), some (.int (j : Nat)), some (.ref L), x3, x4] ∧ Same H H1 ∧ H1 L = some (.lst us) ∧ All2 (fun v c => CAt H1 c v) us acc ∧
      Ps t j r' ∧ M.om r' < n ∧ us.length ≤ k1 ∧ M.lsev (M.lcond n t.length) (M.q ")") (M.q ", ") (t.length - k1) acc r' = TG ∧ i ≤ j)
      ⟨[], [], i, r, _, _, rfl, sL, upd_same, trivial, hP, hom, by simp, hTG, Nat.le_refl _⟩ ?_ ?_
    · rintro k1 σ H1 hk1 ⟨acc, us, j, r', x3, x4, rfl, e1, hl, hA, hP1, hom1, hus, hse, hij⟩
      obtain ⟨m', hm'⟩ : ∃ m', t.length - k1 = m' + 1 := ⟨t.length - k1 - 1, by omega⟩
      have hm2 : t.length - (k1 + 1) = m' := by omega
      rw [hm'] at hse
      unfold M.lsev at hse
      refine ⟨_, rfl, _, rfl, t, j, r', rfl, hP1, hs, hom1, fun h2 H2 e2 => ?_, fun c r2 h2 u v j2 H2 e2 hj2 hP2 hu hv => ?_⟩
      · simp only [h2] at hse
        exact ⟨_, rfl, rfl, _, rfl, iteE true rfl (iteT (hF hse.symm _ (e1.trans e2)))⟩
      · simp only [h2] at hse
        refine ⟨_, rfl, rfl, _, rfl, iteE false ref_non (iteF ?_)⟩
        have hl2 := e2 _ _ hl
        refine ⟨_, rfl, .inl ⟨rfl, _, sql hl2⟩, _, rfl, u, _, _, _, rfl, rfl, sqt hu, at0, L, us, v, rfl, rfl, hl2, Nat.lt_of_le_of_lt (show us.length ≤ 1000000 by omega) (by decide), ?_⟩
        have up : TupK H2 (upd H2 L (.lst (us ++ [v]))) := (TupK.refl H2).mut hl2 (fun xs q => nomatch q)
        have hu3 := up _ _ hu
        have e3 : Same H (upd H2 L (.lst (us ++ [v]))) := HL.Same.mut (e1.trans e2) hL
        have hl3 : upd H2 L (.lst (us ++ [v])) L = some (.lst (us ++ [v])) := upd_same
        have hA3' : All2 (fun v' c => CAt (upd H2 L (.lst (us ++ [v]))) c v') (us ++ [v]) (acc ++ [c]) := by
          have hA2 : All2 (fun v c => CAt H2 c v) (us ++ [v]) (acc ++ [c]) := All2.snoc (R := fun v c => CAt H2 c v) hv (hA.imp fun v c z => z.keep (.of e2))
          exact hA2.imp fun v' c' z => z.keep up
        generalize upd H2 L (.lst (us ++ [v])) = H3 at hu3 e3 hl3 hA3' ⊢
        refine ⟨_, rfl, u, _, _, _, rfl, rfl, sqt hu3, at1, _, _, rfl, rfl, ?_⟩
        have i1 : ((j2 : Nat) : Int) + 2 - 2 = ((j2 : Nat) : Int) := by omega
        have i2 : ((j2 : Nat) : Int) + 2 - 1 = ((j2 + 1 : Nat) : Int) := by omega
        have i3 : ((j2 : Nat) : Int) + 2 = ((j2 + 2 : Nat) : Int) := by omega
        refine ⟨_, rfl, _, rfl, _, _, rfl, rfl, _, congrArg V.int i1, _, rfl, _, _, rfl, rfl, _, congrArg V.int i2, _, rfl, tl, ?_⟩
        rw [hP2.cut]
        refine ⟨rfl, _, rfl, ?_⟩
        rw [dec_S]
        cases h4 : M.takes (M.q ")") r2 with
        | some r4 =>
          simp only [h4] at hse
          rw [decide_eq_true (take_yes (by decide) h4)]
          refine iteT ⟨_, rfl, _, rfl, _, _, rfl, rfl, by show 2 ≤ sizeLine; decide, fun u2 hu2 => ?_⟩
          have hn2 := ne_of_none hl3 hu2
          refine hQ (acc ++ [c]) r4 hse.symm u2 L (us ++ [v]) (j2 + 1) _ (e3.trans (same_new hu2)) (by omega) (hP2.takes h4) ?_ (by rw [upd_ne hn2]; exact hl3) (hA3'.imp fun v c z => z.keep (.of (same_new hu2))) (by rw [List.length_append]; simp; omega)
          rw [upd_same]
          show some (HO.tup [V.ref L, V.int _]) = _
          rw [i2]
        | none =>
          simp only [h4] at hse
          rw [decide_eq_false (take_no (by decide) h4)]
          refine iteF ⟨_, rfl, _, rfl, _, _, rfl, rfl, _, congrArg V.int i1, _, rfl, _, congrArg V.int i3, _, rfl, tl, ?_⟩
          rw [hP2.cut, sq ", "]
          refine ⟨rfl, _, rfl, ?_⟩
          rw [dec_S]
          cases h5 : M.takes (M.q ", ") r2 with
          | some r5 =>
            simp only [h5] at hse
            rw [decide_eq_true (take_yes (by decide) h5)]
            have o5 : M.om r5 ≤ M.om r' := by
              have z1 : M.om r5 ≤ M.om r2 := om_suf (M.takes_some.mp h5)
              have z2 : M.om r2 ≤ M.om r' := hP1.om hP2 hj2
              omega
            refine iteF ⟨acc ++ [c], us ++ [v], j2 + 2, r5, _, _, by rw [← i3] <;> rfl, e3, hl3, hA3', hP2.takes h5, by omega, by rw [List.length_append]; simp; omega, ?_⟩
            rw [hm2]
            exact ⟨hse, by omega⟩
          | none =>
            simp only [h5] at hse
            rw [decide_eq_false (take_no (by decide) h5)]
            exact iteT (hF hse.symm _ e3)
    · rintro σ H1 ⟨acc, us, j, r', x3, x4, rfl, e1, hl, hA, hP1, hom1, hus, hse, hij⟩
      rw [Nat.sub_self] at hse
      exact hF hse.symm _ e1
theorem o_lcond (W : Wl K mg) : ∀ (n L : Nat), (n = 0 → 1 ≤ L) → (0 < n → n + 3 ≤ L) → OkD w K mg base CX0 L d_law_condition_at ["_law_text_here", "_law_at"] (spLC n) := by
  intro n
  induction n using Nat.strongRecOn with
  | _ n ih =>
  intro L h0 h1
  by_cases hn : n = 0
  · obtain ⟨k, rfl⟩ : ∃ k, L = k + 1 := ⟨L - 1, by have := h0 hn; omega⟩
    exact o_vac W.D_law_condition_at sc_law_condition_at bi_law_condition_at fun vs H Q E ⟨t, i, r, _, _, _, z, _⟩ => by omega
  obtain ⟨k, rfl⟩ : ∃ k, L = k + 2 + 1 := ⟨L - 3, by have := h1 (by omega); omega⟩
  have hk : n ≤ k := by have := h1 (by omega); omega
  have O__law_conditions_at := o_lconds (w := w) (base := base) W (n - 3) (k + 1) (ih (n - 3) (by omega) (k + 1) (fun _ => by omega) (fun z => by omega))
  have O__law_name_at := o_lname (w := w) (base := base) W
  refine HL.ok_of0 W.D_law_condition_at sc_law_condition_at (fun vs H Q E ⟨_, _, _, h, _⟩ => by rw [h]; rfl) bi_law_condition_at fun cdv A outer s H vs Q E hr h => ?_
  have nd := sc_law_condition_at.nd
  refine ⟨_, (pss_cons (ps_set (i := 2) nd rfl (Or.inl rfl) (pe_slice sl_str (pv 0) (po_some (pv 1)) (po_some (pe_op op_add (pv 1) pe_int))))
    (pss_cons (ps_if (pt_cmpR op_in_seq (pv 2) (pe_tup (pa_cons pe_str (pa_cons pe_str (pa_cons pe_str pa_nil)))) (by rfl)) (pss_cons (ps_set (i := 3) nd rfl (Or.inl rfl) (pe_cal O__law_conditions_at (hr.mono (by omega)) W.g__law_conditions_at pass0 (pa_cons (pv 0) (pa_cons (pe_op op_add (pv 1) pe_int) pa_nil))))
      (pss_cons (ps_if (PW.pt (pw_or (pt_cmpR op_isN (pv 3) pe_non (nomark _)) (pw_or1 (PW.pt (pw_and (pt_cmpR op_eq (pv 2) pe_str (nomark _)) (pw_and1 (pt_cmpR op_ne (pe_callB call_len_seq (by rfl) W.f_len (by decide +kernel) (pa_cons (pe_ix ix_tup (pv 3) pe_int (fun _ _ => rfl)) pa_nil)) pe_int (nomark _)))))))) (pss_one (ps_ret pe_non)) pss_nil)
      (pss_one (ps_ret (pe_tup (pa_cons (pe_tup (pa_cons (pe_slice sl_str (pv 2) po_none (po_some pe_int)) (pa_cons (pe_ifExp (pt_cmpR op_eq (pv 2) pe_str (nomark _)) (pe_ix ix_list (pe_ix ix_tup (pv 3) pe_int (fun _ _ => rfl)) pe_int (fun _ _ => rfl)) (pe_callTy call_tuple_of (by rfl) W.f_tuple (by decide +kernel) (pa_cons (pe_ix ix_tup (pv 3) pe_int (fun _ _ => rfl)) pa_nil))) pa_nil))) (pa_cons (pe_ix ix_tup (pv 3) pe_int (fun _ _ => rfl)) pa_nil))))))) pss_nil)
    (pss_cons (ps_if (pt_cmpR op_eq (pe_slice sl_str (pv 2) po_none (po_some pe_int)) pe_str (nomark _)) (pss_cons (ps_set (i := 4) nd rfl (Or.inl rfl) (pe_cal O__law_name_at (hr.mono (by omega)) W.g__law_name_at pass0 (pa_cons (pv 0) (pa_cons (pe_op op_add (pv 1) pe_int) pa_nil))))
      (pss_one (ps_ret (pe_ifExp (pt_cmpR op_isN (pv 4) pe_non (nomark _)) pe_non (pe_tup (pa_cons (pe_tup (pa_cons pe_str (pa_cons (pe_ix ix_tup (pv 4) pe_int (fun _ _ => rfl)) pa_nil))) (pa_cons (pe_ix ix_tup (pv 4) pe_int (fun _ _ => rfl)) pa_nil))))))) pss_nil)
    (pss_cons (ps_if (pt_cmpR op_eq (pe_slice sl_str (pv 2) po_none (po_some pe_int)) pe_str (nomark _)) (pss_one (ps_ret (pe_tup (pa_cons (pe_tup (pa_cons pe_str pa_nil)) (pa_cons (pe_op op_add (pv 1) pe_int) pa_nil))))) pss_nil)
    (pss_one (ps_ret (pe_ifExp (pt_cmpR op_eq (pe_slice sl_str (pv 2) po_none (po_some pe_int)) pe_str (nomark _)) (pe_tup (pa_cons (pe_tup (pa_cons pe_str pa_nil)) (pa_cons (pe_op op_add (pv 1) pe_int) pa_nil))) pe_non))))))), ?_⟩
  obtain ⟨t, i, r, rfl, hP, hs, hom, hF, hQ⟩ := h
  rw [M.lcond, dif_neg hn] at hF
  have hQ := fun c r' => hQ c r'
  rw [M.lcond, dif_neg hn] at hQ
  have tl : (S t).length ≤ sizeLine := by rw [S_len]; exact small hs
  have wl : (S (r.take 4)).length ≤ sizeLine := by rw [S_len]; exact small (by rw [List.length_take]; omega)
  refine ⟨_, rfl, _, rfl, _, rfl, _, rfl, _, _, rfl, rfl, _, rfl, _, rfl, tl, ?_⟩
  rw [show ((i : Nat) : Int) + 4 = ((i + 4 : Nat) : Int) from rfl, hP.cut]
  refine ⟨_, rfl, by show 3 ≤ sizeLine; decide, fun t1 ht1 => in_words ["not(", "all(", "any("] upd_same ⟨_, rfl, ?_⟩⟩
  simp only [List.any_cons, List.any_nil, Bool.or_false]
  have s1 : Same H (upd H t1 (.tup [V.str "not(", V.str "all(", V.str "any("])) := same_new ht1
  generalize upd H t1 (.tup [V.str "not(", V.str "all(", V.str "any("]) = H1 at s1 ⊢
  have c1 : cutS (S (r.take 4)) none (some (1 : Int)) = S (r.take 1) := by
    rw [show (1 : Int) = ((1 : Nat) : Int) from rfl, cut_j, List.take_take]
    rfl
  have c2 : cutS (S (r.take 4)) none (some (2 : Int)) = S (r.take 2) := by
    rw [show (2 : Int) = ((2 : Nat) : Int) from rfl, cut_j, List.take_take]
    rfl
  have c3 : cutS (S (r.take 4)) none (some (3 : Int)) = S (r.take 3) := by
    rw [show (3 : Int) = ((3 : Nat) : Int) from rfl, cut_j, List.take_take]
    rfl
  by_cases hw : r.take 4 = M.q "not(" ∨ r.take 4 = M.q "all(" ∨ r.take 4 = M.q "any("
  · simp only [if_pos hw] at hF hQ
    have hlen : 4 ≤ r.length := by
      have : (r.take 4).length = 4 := by rcases hw with z | z | z <;> rw [z] <;> decide
      rw [List.length_take] at this
      omega
    have ho : M.om (r.drop 4) + 3 ≤ M.om r := by
      have z1 : M.om (r.take 4) = 3 := by rcases hw with z | z | z <;> rw [z] <;> decide
      have z2 := M.om_app (r.take 4) (r.drop 4)
      rw [List.take_append_drop] at z2
      omega
    refine iteE true (by simpa using hw) (iteT ⟨_, rfl, _, rfl, _, _, rfl, rfl, t, i + 4, r.drop 4, rfl, hP.drop hlen, hs, by omega, fun h2 H2 e2 => ?_, fun cs r2 h2 u l us j H2 e2 hj hP2 hu hl hA hul => ?_⟩)
    · simp only [h2] at hF
      exact ⟨_, rfl, rfl, _, rfl, iteE true rfl (iteT (hF trivial _ (s1.trans e2)))⟩
    · simp only [h2] at hF hQ
      have e12 := s1.trans e2
      have hL := hA.length
      refine ⟨_, rfl, rfl, _, rfl, iteE false ref_non (iteF ⟨_, rfl, rfl, ?_⟩)⟩
      rw [sq "not(", dec_S]
      refine ⟨_, rfl, ?_⟩
      have ixn : ∀ x : V, atI [V.ref l, V.int (j : Nat)] ((0 : Nat) : Int) = some (V.ref l) := fun _ => at0
      by_cases hnot : r.take 4 = M.q "not("
      · simp only [if_pos hnot] at hF hQ
        rw [decide_eq_true hnot]
        have cw : r.take 3 = M.q "not" := by
          have := congrArg (fun l => l.take 3) hnot
          rw [List.take_take] at this
          exact this
        refine iteT ⟨_, rfl, u, _, _, _, rfl, rfl, sqt hu, at0, l, us, rfl, .inl (sql hl), rfl, ?_⟩
        refine ⟨_, rfl, ?_⟩
        by_cases h1l : cs.length = 1
        · obtain ⟨c, rfl⟩ : ∃ c, cs = [c] := List.length_eq_one_iff.mp h1l
          obtain ⟨v, rfl⟩ : ∃ v, us = [v] := List.length_eq_one_iff.mp (by omega)
          refine iteE false rfl (iteF ⟨_, rfl, _, rfl, _, rfl, wl, ?_⟩)
          rw [c3, cw]
          refine ⟨_, rfl, rfl, ?_⟩
          rw [dec_S, decide_eq_true hnot]
          refine ⟨_, rfl, iteT ⟨_, rfl, u, _, _, _, rfl, rfl, sqt hu, at0, l, _, _, v, rfl, rfl, sql hl, (show atI [v] ((0 : Nat) : Int) = some v from at0), by show 2 ≤ sizeLine; decide, fun a ha => ?_⟩⟩
          have sa := same_new (o := .tup [V.str (S (M.q "not")), v]) ha
          refine ⟨_, rfl, u, _, _, _, rfl, rfl, sqt (sa _ _ hu), at1, by show 2 ≤ sizeLine; decide, fun b hb => ?_⟩
          refine hQ _ _ rfl b (.ref a) j _ ((e12.trans sa).trans (same_new hb)) (by omega) hP2 upd_same ?_
          unfold CAt
          exact ⟨a, v, rfl, same_new hb _ _ upd_same, (hA.1.keep (.of sa)).keep (.of (same_new hb))⟩
        · refine iteE true (by
            have : us.length ≠ 1 := by omega
            rw [decide_eq_false (fun z => this (by injection z with z; omega))]
            rfl) (iteT ?_)
          refine hF ?_ _ e12
          match cs, h1l with
          | [], _ => rfl
          | [c], z => exact absurd rfl z
          | _ :: _ :: _, _ => rfl
      · simp only [if_neg hnot] at hF hQ
        rw [decide_eq_false hnot]
        refine iteF ⟨_, rfl, _, rfl, _, rfl, wl, ?_⟩
        rw [c3]
        refine ⟨_, rfl, rfl, ?_⟩
        rw [dec_S, decide_eq_false hnot]
        refine ⟨_, rfl, iteF ⟨_, rfl, u, _, _, _, rfl, rfl, sqt hu, at0, l, us, rfl, .inl ⟨sql hl, fun t3 ht3 => ⟨by show 2 ≤ sizeLine; decide, fun a ha => ?_⟩⟩⟩⟩
        have s3 := same_new (o := .tup us) ht3
        have sa := same_new (o := .tup [V.str (S (r.take 3)), V.ref t3]) ha
        refine ⟨_, rfl, u, _, _, _, rfl, rfl, sqt (sa _ _ (s3 _ _ hu)), at1, by show 2 ≤ sizeLine; decide, fun b hb => ?_⟩
        refine hQ _ _ rfl b (.ref a) j _ (((e12.trans s3).trans sa).trans (same_new hb)) (by omega) hP2 upd_same ?_
        have cw : r.take 3 = M.nq (decide (r.take 4 = M.q "all(")) := by
          rcases hw with z | z | z
          · exact absurd z hnot
          · have := congrArg (fun l => l.take 3) z
            rw [List.take_take] at this
            rw [decide_eq_true z]
            exact this
          · have := congrArg (fun l => l.take 3) z
            rw [List.take_take] at this
            rw [decide_eq_false (by rw [z]; decide)]
            exact this
        unfold CAt
        refine ⟨a, t3, us, rfl, ?_, same_new hb _ _ (sa _ _ upd_same), CAtL.keep (.of (same_new hb)) _ _ (CAtL.keep (.of sa) _ _ (CAtL.keep (.of s3) _ _ (cAtL_iff.mpr hA)))⟩
        rw [← cw]
        exact same_new hb _ _ upd_same
  · simp only [if_neg hw] at hF hQ
    refine iteE false (by simpa [and_assoc] using hw) (iteF ⟨_, rfl, _, rfl, _, rfl, wl, ?_⟩)
    rw [c1, sq "?"]
    refine ⟨rfl, _, rfl, ?_⟩
    rw [dec_S]
    by_cases h2 : r.take 1 = M.q "?"
    · simp only [if_pos h2] at hF hQ
      rw [decide_eq_true h2]
      have hlen : 1 ≤ r.length := by
        have : (r.take 1).length = 1 := by rw [h2]; decide
        rw [List.length_take] at this
        omega
      have hPd := hP.drop hlen
      refine iteT ⟨_, rfl, _, rfl, _, _, rfl, rfl, t, i + 1, r.drop 1, rfl, hPd, hs, fun h3 => ?_, fun x r3 h3 u j H3 e3 hP3 hu => ?_⟩
      · simp only [h3] at hF
        exact ⟨_, rfl, rfl, _, rfl, iteE true rfl (iteT (hF trivial _ s1))⟩
      · simp only [h3] at hQ
        have hj := hPd.le hP3 (M.word_some h3).1
        refine ⟨_, rfl, rfl, _, rfl, iteE false ref_non (iteF ⟨_, rfl, u, _, _, _, rfl, rfl, sqt hu, at0, by show 2 ≤ sizeLine; decide, fun a ha => ?_⟩)⟩
        have sa := same_new (o := .tup [V.str "ask", V.str (S x)]) ha
        refine ⟨_, rfl, u, _, _, _, rfl, rfl, sqt (sa _ _ hu), at1, by show 2 ≤ sizeLine; decide, fun b hb => ?_⟩
        refine hQ _ _ rfl b (.ref a) j _ (((s1.trans e3).trans sa).trans (same_new hb)) (by omega) hP3 upd_same ?_
        unfold CAt
        refine ⟨a, rfl, ?_⟩
        rw [← sq "ask"]
        exact same_new hb _ _ upd_same
    · simp only [if_neg h2] at hF hQ
      rw [decide_eq_false h2]
      refine iteF ⟨_, rfl, _, rfl, _, rfl, wl, ?_⟩
      rw [c3, sq "yes"]
      refine ⟨rfl, _, rfl, ?_⟩
      rw [dec_S]
      by_cases h3 : r.take 3 = M.q "yes"
      · simp only [if_pos h3] at hQ
        rw [decide_eq_true h3]
        have hlen : 3 ≤ r.length := by
          have : (r.take 3).length = 3 := by rw [h3]; decide
          rw [List.length_take] at this
          omega
        refine iteT ⟨by show 1 ≤ sizeLine; decide, fun a ha => ⟨_, rfl, _, _, rfl, rfl, by show 2 ≤ sizeLine; decide, fun b hb => ?_⟩⟩
        refine hQ _ _ rfl b (.ref a) (i + 3) _ ((s1.trans (same_new ha)).trans (same_new hb)) (by omega) (hP.drop hlen) upd_same ?_
        unfold CAt
        exact ⟨a, rfl, same_new hb _ _ upd_same⟩
      · simp only [if_neg h3] at hF hQ
        rw [decide_eq_false h3]
        refine iteF ⟨_, rfl, _, rfl, _, rfl, wl, ?_⟩
        rw [c2, sq "no"]
        refine ⟨rfl, _, rfl, ?_⟩
        rw [dec_S]
        by_cases h4 : r.take 2 = M.q "no"
        · simp only [if_pos h4] at hQ
          rw [decide_eq_true h4]
          have hlen : 2 ≤ r.length := by
            have : (r.take 2).length = 2 := by rw [h4]; decide
            rw [List.length_take] at this
            omega
          refine iteT ⟨by show 1 ≤ sizeLine; decide, fun a ha => ⟨_, rfl, _, _, rfl, rfl, by show 2 ≤ sizeLine; decide, fun b hb => ?_⟩⟩
          refine hQ _ _ rfl b (.ref a) (i + 2) _ ((s1.trans (same_new ha)).trans (same_new hb)) (by omega) (hP.drop hlen) upd_same ?_
          unfold CAt
          exact ⟨a, rfl, same_new hb _ _ upd_same⟩
        · simp only [if_neg h4] at hF
          rw [decide_eq_false h4]
          exact iteF (hF trivial _ s1)
end
end K91
end

section
set_option Elab.async false
set_option linter.all false
set_option maxRecDepth 100000
set_option maxHeartbeats 4000000
/-! k91: the law's reader of parts: rows, what follows, ifs. -/
namespace K91
open PySem PySem.Spec PyProof.Rows L2 He HL
section
variable {w : World} {K : PySem.W.Frag} {mg : Str → Option Value} {base : Heap}
abbrev n_law_part_at : List Str := ["_law_text_here", "_law_at", "_law_word", "_law_name", "_law_number", "_law_condition_here", "_law_found"]
theorem sc_law_part_at : FnScope n_law_part_at ["_law_text_here", "_law_at"] (defScope s_law_part_at) := ⟨rfl, rfl, rfl, by decide +kernel, rfl, by decide +kernel, by decide +kernel⟩
theorem bi_law_part_at : ∀ (kV doc pm : Value) (an : Option Addr) (cdv ct : Value) (us : List Value), us.length = 2 → bindArgs (PySem.W.fnOf d_law_part_at.name d_law_part_at.qual d_law_part_at.params d_law_part_at.body d_law_part_at.scope .none kV doc pm an cdv ct) ⟨us, []⟩ = pure ([("_law_text_here" : Str), ("_law_at" : Str)].zip us) := fun kV doc pm an cdv ct us hu => by
  match us, hu with
  | [u0, u1], _ => rfl
abbrev n_law_row_at : List Str := ["_law_text_here", "_law_at", "_law_some", "_law_turn", "_law_found"]
theorem sc_law_row_at : FnScope n_law_row_at ["_law_text_here", "_law_at"] (defScope s_law_row_at) := ⟨rfl, rfl, rfl, by decide +kernel, rfl, by decide +kernel, by decide +kernel⟩
theorem bi_law_row_at : ∀ (kV doc pm : Value) (an : Option Addr) (cdv ct : Value) (us : List Value), us.length = 2 → bindArgs (PySem.W.fnOf d_law_row_at.name d_law_row_at.qual d_law_row_at.params d_law_row_at.body d_law_row_at.scope .none kV doc pm an cdv ct) ⟨us, []⟩ = pure ([("_law_text_here" : Str), ("_law_at" : Str)].zip us) := fun kV doc pm an cdv ct us hu => by
  match us, hu with
  | [u0, u1], _ => rfl
abbrev n_law_after : List Str := ["_law_text_here", "_law_found", "_law_word"]
theorem sc_law_after : FnScope n_law_after ["_law_text_here", "_law_found", "_law_word"] (defScope s_law_after) := ⟨rfl, rfl, rfl, by decide +kernel, rfl, by decide +kernel, by decide +kernel⟩
theorem bi_law_after : ∀ (kV doc pm : Value) (an : Option Addr) (cdv ct : Value) (us : List Value), us.length = 3 → bindArgs (PySem.W.fnOf d_law_after.name d_law_after.qual d_law_after.params d_law_after.body d_law_after.scope .none kV doc pm an cdv ct) ⟨us, []⟩ = pure ([("_law_text_here" : Str), ("_law_found" : Str), ("_law_word" : Str)].zip us) := fun kV doc pm an cdv ct us hu => by
  match us, hu with
  | [u0, u1, u2], _ => rfl
abbrev n_law_if_at : List Str := ["_law_text_here", "_law_at", "_law_condition_here", "_law_one_here", "_law_other"]
theorem sc_law_if_at : FnScope n_law_if_at ["_law_text_here", "_law_at"] (defScope s_law_if_at) := ⟨rfl, rfl, rfl, by decide +kernel, rfl, by decide +kernel, by decide +kernel⟩
theorem bi_law_if_at : ∀ (kV doc pm : Value) (an : Option Addr) (cdv ct : Value) (us : List Value), us.length = 2 → bindArgs (PySem.W.fnOf d_law_if_at.name d_law_if_at.qual d_law_if_at.params d_law_if_at.body d_law_if_at.scope .none kV doc pm an cdv ct) ⟨us, []⟩ = pure ([("_law_text_here" : Str), ("_law_at" : Str)].zip us) := fun kV doc pm an cdv ct us hu => by
  match us, hu with
  | [u0, u1], _ => rfl
def spLP (n : Nat) : Sp := fun vs H Q _ => ∃ t i r, vs = [.str (S t), .int (i : Nat)] ∧ Ps t i r ∧ t.length ≤ 1000000 ∧ M.om r < n ∧
  (M.lpart n t.length r = none → ∀ H', Same H H' → Q .non H') ∧ (∀ c r', M.lpart n t.length r = some (c, r') → ∀ u v j H', Same H H' → i ≤ j → Ps t j r' → H' u = some (.tup [v, .int (j : Nat)]) → PAt H' c v → Q (.ref u) H')
def spLRow (n : Nat) : Sp := fun vs H Q _ => ∃ t i r, vs = [.str (S t), .int (i : Nat)] ∧ Ps t i r ∧ t.length ≤ 1000000 ∧ M.om r < n ∧
  (M.lall (M.lpart n t.length) (M.q "]") (M.q "; ") t.length r = none → ∀ H', Same H H' → Q .non H') ∧
  (∀ cs r', M.lall (M.lpart n t.length) (M.q "]") (M.q "; ") t.length r = some (cs, r') → ∀ u v j H', Same H H' → i ≤ j → Ps t j r' → H' u = some (.tup [v, .int (j : Nat)]) → PAt H' (.row cs) v → Q (.ref u) H')
theorem o_lrow (W : Wl K mg) (n k : Nat) (O__law_part_at : OkD w K mg base CX0 k d_law_part_at ["_law_text_here", "_law_at"] (spLP n)) : OkD w K mg base CX0 (k + 1) d_law_row_at ["_law_text_here", "_law_at"] (spLRow n) := by
  refine HL.ok_of0 W.D_law_row_at sc_law_row_at (fun vs H Q E ⟨_, _, _, h, _⟩ => by rw [h]; rfl) bi_law_row_at fun cdv A outer s H vs Q E hr h => ?_
  have nd := sc_law_row_at.nd
  refine ⟨_, (pss_cons (ps_set (i := 2) nd rfl (Or.inl rfl) (pe_lst pa_nil))
    (pss_cons (ps_if (pt_cmpR op_eq (pe_slice sl_str (pv 0) (po_some (pv 1)) (po_some (pe_op op_add (pv 1) pe_int))) pe_str (nomark _)) (pss_one (ps_ret (pe_tup (pa_cons (pe_tup (pa_cons pe_str (pa_cons (pe_tup pa_nil) pa_nil))) (pa_cons (pe_op op_add (pv 1) pe_int) pa_nil))))) pss_nil)
    (pss_cons (ps_for PassesOwn.never rfl (pi_range1 (by rfl) W.f_range (pa_cons (pe_callB call_len_str (by rfl) W.f_len (by decide +kernel) (pa_cons (pv 0) pa_nil)) pa_nil)) (pg_name (i := 3) nd rfl (Or.inl rfl)) (pss_cons (ps_set (i := 4) nd rfl (Or.inl rfl) (pe_cal O__law_part_at (hr.mono (by omega)) W.g__law_part_at pass0 (pa_cons (pv 0) (pa_cons (pv 1) pa_nil))))
      (pss_cons (ps_if (pt_cmpR op_isN (pv 4) pe_non (nomark _)) (pss_one (ps_ret pe_non)) pss_nil)
      (pss_cons (ps_expr (pe_bm PySem.F.plainAttrs_list PySem.F.slot_list_append PySem.F.type_list_append mt_append (pv 2) (pa_cons (pe_ix ix_tup (pv 4) pe_int (fun _ _ => rfl)) pa_nil)))
      (pss_cons (ps_set (i := 1) nd rfl (Or.inl rfl) (pe_op op_add (pe_ix ix_tup (pv 4) pe_int (fun _ _ => rfl)) pe_int))
      (pss_cons (ps_if (pt_cmpR op_eq (pe_slice sl_str (pv 0) (po_some (pe_op op_sub (pv 1) pe_int)) (po_some (pe_op op_sub (pv 1) pe_int))) pe_str (nomark _)) (pss_one (ps_ret (pe_tup (pa_cons (pe_tup (pa_cons pe_str (pa_cons (pe_callTy call_tuple_of (by rfl) W.f_tuple (by decide +kernel) (pa_cons (pv 2) pa_nil)) pa_nil))) (pa_cons (pe_op op_sub (pv 1) pe_int) pa_nil))))) pss_nil)
      (pss_one (ps_if (pt_cmpR op_ne (pe_slice sl_str (pv 0) (po_some (pe_op op_sub (pv 1) pe_int)) (po_some (pv 1))) pe_str (nomark _)) (pss_one (ps_ret pe_non)) pss_nil))))))))
    (pss_one (ps_ret pe_non))))), ?_⟩
  obtain ⟨t, i, r, rfl, hP, hs, hom, hF, hQ⟩ := h
  have tl : (S t).length ≤ sizeLine := by rw [S_len]; exact small hs
  refine ⟨Nat.zero_le _, fun L hL => ?_⟩
  have sL : Same H (upd H L (.lst [])) := same_new hL
  refine ⟨_, rfl, _, rfl, _, rfl, _, rfl, _, _, rfl, rfl, _, rfl, _, rfl, tl, ?_⟩
  rw [show ((i : Nat) : Int) + 1 = ((i + 1 : Nat) : Int) from rfl, hP.cut, sq "]"]
  refine ⟨rfl, _, rfl, ?_⟩
  rw [dec_S]
  cases h1 : M.takes (M.q "]") r with
  | some r1 =>
    rw [decide_eq_true (take_yes (by decide) h1)]
    refine iteT ⟨Nat.zero_le _, fun t1 ht1 => ⟨by show 2 ≤ sizeLine; decide, fun a ha => ⟨_, rfl, _, _, rfl, rfl, by show 2 ≤ sizeLine; decide, fun u hu => ?_⟩⟩⟩
    have s1 := same_new (o := .tup []) ht1
    have s2 := same_new (o := .tup [V.str "row", V.ref t1]) ha
    refine hQ [] r1 (by unfold M.lall; rw [h1]) u (.ref a) (i + 1) _ (((sL.trans s1).trans s2).trans (same_new hu)) (by omega) (hP.takes h1) (by rw [upd_same] <;> rfl) ?_
    unfold PAt
    refine ⟨a, t1, [], rfl, ?_, same_new hu _ _ (s2 _ _ upd_same), ?_⟩
    · rw [← sq "row"]
      exact same_new hu _ _ upd_same
    · unfold PAtL
      rfl
  | none =>
    rw [decide_eq_false (take_no (by decide) h1)]
    have hla : M.lall (M.lpart n t.length) (M.q "]") (M.q "; ") t.length r = M.lsev (M.lpart n t.length) (M.q "]") (M.q "; ") t.length [] r := by unfold M.lall; rw [h1]
    rw [hla] at hF hQ
    generalize hTG : M.lsev (M.lpart n t.length) (M.q "]") (M.q "; ") t.length [] r = TG at hF hQ
    have b62 : (((S t).length : Nat) : Int) < 2 ^ 62 := by
      rw [S_len]
      have : (t.length : Int) ≤ 1000000 := by omega
      exact Int.lt_of_le_of_lt this (by decide)
    have b0 : -(2 ^ 62) ≤ (((S t).length : Nat) : Int) := Int.le_trans (by decide) (Int.natCast_nonneg _)
    have em : (((S t).length : Nat) : Int).toNat = t.length := by rw [S_len]; rfl
    refine iteF ⟨_, rfl, _, rfl, tl, _, rfl, b0, b62, ?_⟩
    rw [em]
    refine for_range (lo := 0) (n := t.length) (fun k1 σ H1 => ∃ (acc : List M.Part) (us : List V) (j : Nat) (r' : List Nat) (x3 x4 : Option V), σ = [some (.str (S t)), some (.int (j : Nat)), some (.ref L), x3, x4] ∧ Same H H1 ∧ H1 L = some (.lst us) ∧ All2 (fun v c => PAt H1 c v) us acc ∧
      Ps t j r' ∧ M.om r' < n ∧ us.length ≤ k1 ∧ M.lsev (M.lpart n t.length) (M.q "]") (M.q "; ") (t.length - k1) acc r' = TG ∧ i ≤ j)
      ⟨[], [], i, r, _, _, rfl, sL, upd_same, trivial, hP, hom, by simp, hTG, Nat.le_refl _⟩ ?_ ?_
    · rintro k1 σ H1 hk1 ⟨acc, us, j, r', x3, x4, rfl, e1, hl, hA, hP1, hom1, hus, hse, hij⟩
      obtain ⟨m', hm'⟩ : ∃ m', t.length - k1 = m' + 1 := ⟨t.length - k1 - 1, by omega⟩
      have hm2 : t.length - (k1 + 1) = m' := by omega
      rw [hm'] at hse
      unfold M.lsev at hse
      refine ⟨_, rfl, _, rfl, t, j, r', rfl, hP1, hs, hom1, fun h2 H2 e2 => ?_, fun c r2 h2 u v j2 H2 e2 hj2 hP2 hu hv => ?_⟩
      · simp only [h2] at hse
        exact ⟨_, rfl, rfl, _, rfl, iteE true rfl (iteT (hF hse.symm _ (e1.trans e2)))⟩
      · simp only [h2] at hse
        refine ⟨_, rfl, rfl, _, rfl, iteE false ref_non (iteF ?_)⟩
        have hl2 := e2 _ _ hl
        refine ⟨_, rfl, .inl ⟨rfl, _, sql hl2⟩, _, rfl, u, _, _, _, rfl, rfl, sqt hu, at0, L, us, v, rfl, rfl, hl2, Nat.lt_of_le_of_lt (show us.length ≤ 1000000 by omega) (by decide), ?_⟩
        have up : TupK H2 (upd H2 L (.lst (us ++ [v]))) := (TupK.refl H2).mut hl2 (fun xs q => nomatch q)
        have hu3 := up _ _ hu
        have e3 : Same H (upd H2 L (.lst (us ++ [v]))) := HL.Same.mut (e1.trans e2) hL
        have hl3 : upd H2 L (.lst (us ++ [v])) L = some (.lst (us ++ [v])) := upd_same
        have hA3' : All2 (fun v' c => PAt (upd H2 L (.lst (us ++ [v]))) c v') (us ++ [v]) (acc ++ [c]) := by
          have hA2 : All2 (fun v c => PAt H2 c v) (us ++ [v]) (acc ++ [c]) := All2.snoc (R := fun v c => PAt H2 c v) hv (hA.imp fun v c z => z.keep (.of e2))
          exact hA2.imp fun v' c' z => z.keep up
        generalize upd H2 L (.lst (us ++ [v])) = H3 at hu3 e3 hl3 hA3' ⊢
        refine ⟨_, rfl, u, _, _, _, rfl, rfl, sqt hu3, at1, _, _, rfl, rfl, ?_⟩
        have i1 : ((j2 : Nat) : Int) + 2 - 2 = ((j2 : Nat) : Int) := by omega
        have i2 : ((j2 : Nat) : Int) + 2 - 1 = ((j2 + 1 : Nat) : Int) := by omega
        have i3 : ((j2 : Nat) : Int) + 2 = ((j2 + 2 : Nat) : Int) := by omega
        refine ⟨_, rfl, _, rfl, _, _, rfl, rfl, _, congrArg V.int i1, _, rfl, _, _, rfl, rfl, _, congrArg V.int i2, _, rfl, tl, ?_⟩
        rw [hP2.cut]
        refine ⟨rfl, _, rfl, ?_⟩
        rw [dec_S]
        cases h4 : M.takes (M.q "]") r2 with
        | some r4 =>
          simp only [h4] at hse
          rw [decide_eq_true (take_yes (by decide) h4)]
          refine iteT ⟨_, rfl, L, _, rfl, .inl ⟨sql hl3, fun t3 ht3 => ⟨by show 2 ≤ sizeLine; decide, fun a ha => ⟨_, rfl, _, _, rfl, rfl, by show 2 ≤ sizeLine; decide, fun u2 hu2 => ?_⟩⟩⟩⟩
          have s3 := same_new (o := .tup (us ++ [v])) ht3
          have s4 := same_new (o := .tup [V.str "row", V.ref t3]) ha
          refine hQ (acc ++ [c]) r4 hse.symm u2 (.ref a) (j2 + 1) _ (((e3.trans s3).trans s4).trans (same_new hu2)) (by omega) (hP2.takes h4) ?_ ?_
          · rw [upd_same]
            show some (HO.tup [V.ref a, V.int _]) = _
            rw [i2]
          · unfold PAt
            refine ⟨a, t3, us ++ [v], rfl, ?_, same_new hu2 _ _ (s4 _ _ upd_same), PAtL.keep (.of (same_new hu2)) _ _ (PAtL.keep (.of s4) _ _ (PAtL.keep (.of s3) _ _ (pAtL_iff.mpr hA3')))⟩
            rw [← sq "row"]
            exact same_new hu2 _ _ upd_same
        | none =>
          simp only [h4] at hse
          rw [decide_eq_false (take_no (by decide) h4)]
          refine iteF ⟨_, rfl, _, rfl, _, _, rfl, rfl, _, congrArg V.int i1, _, rfl, _, congrArg V.int i3, _, rfl, tl, ?_⟩
          rw [hP2.cut, sq "; "]
          refine ⟨rfl, _, rfl, ?_⟩
          rw [dec_S]
          cases h5 : M.takes (M.q "; ") r2 with
          | some r5 =>
            simp only [h5] at hse
            rw [decide_eq_true (take_yes (by decide) h5)]
            have o5 : M.om r5 ≤ M.om r' := by
              have z1 : M.om r5 ≤ M.om r2 := om_suf (M.takes_some.mp h5)
              have z2 : M.om r2 ≤ M.om r' := hP1.om hP2 hj2
              omega
            refine iteF ⟨acc ++ [c], us ++ [v], j2 + 2, r5, _, _, by rw [← i3] <;> rfl, e3, hl3, hA3', hP2.takes h5, by omega, by rw [List.length_append]; simp; omega, ?_⟩
            rw [hm2]
            exact ⟨hse, by omega⟩
          | none =>
            simp only [h5] at hse
            rw [decide_eq_false (take_no (by decide) h5)]
            exact iteT (hF hse.symm _ e3)
    · rintro σ H1 ⟨acc, us, j, r', x3, x4, rfl, e1, hl, hA, hP1, hom1, hus, hse, hij⟩
      rw [Nat.sub_self] at hse
      exact hF hse.symm _ e1
end
end K91
end

section
set_option Elab.async false
set_option linter.all false
set_option maxRecDepth 100000
set_option maxHeartbeats 4000000
/-! k91: what follows, ifs. -/
namespace K91
open PySem PySem.Spec PyProof.Rows L2 He HL
section
variable {w : World} {K : PySem.W.Frag} {mg : Str → Option Value} {base : Heap}
def spAfter : Sp := fun vs H Q _ => ∃ t x wd, vs = [.str (S t), x, .str (S wd)] ∧ t.length ≤ 1000000 ∧ wd.length ≤ 1000 ∧
  ((x = .non ∧ Q .non H) ∨ ∃ u v j r, x = .ref u ∧ H u = some (.tup [v, .int (j : Nat)]) ∧ Ps t j r ∧ (M.takes wd r = none → Q .non H) ∧ (∀ r', M.takes wd r = some r' → Q (.int ((j + wd.length : Nat))) H))
theorem o_after (W : Wl K mg) : OkD w K mg base CX0 1 d_law_after ["_law_text_here", "_law_found", "_law_word"] spAfter := by
  refine HL.ok_of0 W.D_law_after sc_law_after (fun vs H Q E ⟨_, _, _, h, _⟩ => by rw [h]; rfl) bi_law_after fun cdv A outer s H vs Q E hr h => ?_
  have nd := sc_law_after.nd
  refine ⟨_, (pss_cons (ps_if (PW.pt (pw_or (pt_cmpR op_isN (pv 1) pe_non (nomark _)) (pw_or1 (pt_cmpR op_ne (pe_slice sl_str (pv 0) (po_some (pe_ix ix_tup (pv 1) pe_int (fun _ _ => rfl))) (po_some (pe_op op_add (pe_ix ix_tup (pv 1) pe_int (fun _ _ => rfl)) (pe_callB call_len_str (by rfl) W.f_len (by decide +kernel) (pa_cons (pv 2) pa_nil))))) (pv 2) (nomark _))))) (pss_one (ps_ret pe_non)) pss_nil)
    (pss_one (ps_ret (pe_op op_add (pe_ix ix_tup (pv 1) pe_int (fun _ _ => rfl)) (pe_callB call_len_str (by rfl) W.f_len (by decide +kernel) (pa_cons (pv 2) pa_nil)))))), ?_⟩
  obtain ⟨t, x, wd, rfl, hs, hw, ⟨rfl, hq⟩ | ⟨u, v, j, r, rfl, hu, hP, hF, hQ⟩⟩ := h
  · exact ⟨_, rfl, rfl, _, rfl, iteE true rfl (iteT hq)⟩
  · have tl : (S t).length ≤ sizeLine := by rw [S_len]; exact small hs
    have wl : (S wd).length ≤ sizeLine := by rw [S_len]; exact small (by omega)
    have e1 : ((j : Nat) : Int) + (((S wd).length : Nat) : Int) = ((j + wd.length : Nat) : Int) := by rw [S_len]; omega
    refine ⟨_, rfl, rfl, _, rfl, iteE false ref_non (iteF ⟨_, rfl, _, rfl, u, _, _, _, rfl, rfl, sqt hu, at1, _, rfl, _, rfl, u, _, _, _, rfl, rfl, sqt hu, at1, _, rfl, _, rfl, wl, _, _, rfl, rfl, _, congrArg V.int e1, _, rfl, tl, ?_⟩)⟩
    rw [hP.cut]
    refine ⟨_, rfl, rfl, _, rfl, ?_⟩
    rw [dec_S]
    cases h4 : M.takes wd r with
    | none =>
      rw [decide_eq_false (take_no rfl h4)]
      exact iteT (hF h4)
    | some r4 =>
      rw [decide_eq_true (take_yes rfl h4)]
      refine iteF ⟨_, rfl, u, _, _, _, rfl, rfl, sqt hu, at1, _, rfl, _, rfl, wl, _, _, rfl, rfl, ?_⟩
      have := hQ r4 h4
      rw [← e1] at this
      exact this
/-- the law's ifs, behind their first word -/
def lif (n m : Nat) (s : List Nat) : Option (M.Part × List Nat) := match M.lcond (n - 1) m s with
  | none => none
  | some (c, r2) => (match M.takes (M.q " then ") r2 with
    | none => none
    | some r3 => (match M.lpart (n - 2) m r3 with
      | none => none
      | some (p, r4) => (match M.takes (M.q " else ") r4 with
        | none => none
        | some r5 => (match M.lpart (n - 2) m r5 with
          | none => none
          | some (p2, r6) => some (.ite c p p2, r6)))))
def spLIf (n : Nat) : Sp := fun vs H Q _ => ∃ t i r, vs = [.str (S t), .int (i : Nat)] ∧ Ps t i r ∧ t.length ≤ 1000000 ∧ M.om r < n - 1 ∧
  (lif n t.length r = none → ∀ H', Same H H' → Q .non H') ∧ (∀ c r', lif n t.length r = some (c, r') → ∀ u v j H', Same H H' → i ≤ j → Ps t j r' → H' u = some (.tup [v, .int (j : Nat)]) → PAt H' c v → Q (.ref u) H')
theorem o_lif (W : Wl K mg) (n k : Nat) (O__law_condition_at : OkD w K mg base CX0 k d_law_condition_at ["_law_text_here", "_law_at"] (spLC (n - 1))) (O__law_part_at : OkD w K mg base CX0 k d_law_part_at ["_law_text_here", "_law_at"] (spLP (n - 2))) (hk : 1 ≤ k) :
    OkD w K mg base CX0 (k + 1) d_law_if_at ["_law_text_here", "_law_at"] (spLIf n) := by
  have O__law_after := o_after (w := w) (base := base) W
  refine HL.ok_of0 W.D_law_if_at sc_law_if_at (fun vs H Q E ⟨_, _, _, h, _⟩ => by rw [h]; rfl) bi_law_if_at fun cdv A outer s H vs Q E hr h => ?_
  have nd := sc_law_if_at.nd
  refine ⟨_, (pss_cons (ps_set (i := 2) nd rfl (Or.inl rfl) (pe_cal O__law_condition_at (hr.mono (by omega)) W.g__law_condition_at pass0 (pa_cons (pv 0) (pa_cons (pv 1) pa_nil))))
    (pss_cons (ps_set (i := 1) nd rfl (Or.inl rfl) (pe_cal O__law_after (hr.mono (by omega)) W.g__law_after pass0 (pa_cons (pv 0) (pa_cons (pv 2) (pa_cons pe_str pa_nil)))))
    (pss_cons (ps_set (i := 3) nd rfl (Or.inl rfl) (pe_ifExp (pt_cmpR op_isN (pv 1) pe_non (nomark _)) pe_non (pe_cal O__law_part_at (hr.mono (by omega)) W.g__law_part_at pass0 (pa_cons (pv 0) (pa_cons (pv 1) pa_nil)))))
    (pss_cons (ps_set (i := 1) nd rfl (Or.inl rfl) (pe_cal O__law_after (hr.mono (by omega)) W.g__law_after pass0 (pa_cons (pv 0) (pa_cons (pv 3) (pa_cons pe_str pa_nil)))))
    (pss_cons (ps_set (i := 4) nd rfl (Or.inl rfl) (pe_ifExp (pt_cmpR op_isN (pv 1) pe_non (nomark _)) pe_non (pe_cal O__law_part_at (hr.mono (by omega)) W.g__law_part_at pass0 (pa_cons (pv 0) (pa_cons (pv 1) pa_nil)))))
    (pss_one (ps_ret (pe_ifExp (pt_cmpR op_isN (pv 4) pe_non (nomark _)) pe_non (pe_tup (pa_cons (pe_tup (pa_cons pe_str (pa_cons (pe_ix ix_tup (pv 2) pe_int (fun _ _ => rfl)) (pa_cons (pe_ix ix_tup (pv 3) pe_int (fun _ _ => rfl)) (pa_cons (pe_ix ix_tup (pv 4) pe_int (fun _ _ => rfl)) pa_nil))))) (pa_cons (pe_ix ix_tup (pv 4) pe_int (fun _ _ => rfl)) pa_nil))))))))))), ?_⟩
  obtain ⟨t, i, r, rfl, hP, hs, hom, hF, hQ⟩ := h
  unfold lif at hF hQ
  have a1 : ∀ x : V, [V.str (S t), x, V.str " then "] = [V.str (S t), x, V.str (S (M.q " then "))] := fun x => by rw [sq " then "]
  have a2 : ∀ x : V, [V.str (S t), x, V.str " else "] = [V.str (S t), x, V.str (S (M.q " else "))] := fun x => by rw [sq " else "]
  refine ⟨_, rfl, _, rfl, t, i, r, rfl, hP, hs, hom, fun h1 H1 e1 => ?_, fun c r1 h1 u v j H1 e1 hj1 hP1 hu hv => ?_⟩
  · simp only [h1] at hF
    refine ⟨_, rfl, _, rfl, t, .non, M.q " then ", a1 _, hs, by decide, .inl ⟨rfl, ?_⟩⟩
    refine ⟨_, rfl, rfl, _, rfl, iteE true rfl (iteT ?_)⟩
    refine ⟨_, rfl, _, rfl, t, .non, M.q " else ", a2 _, hs, by decide, .inl ⟨rfl, ?_⟩⟩
    refine ⟨_, rfl, rfl, _, rfl, iteE true rfl (iteT ?_)⟩
    exact ⟨_, rfl, rfl, _, rfl, iteE true rfl (iteT (hF trivial _ (e1)))⟩
  · simp only [h1] at hF hQ
    have o1 := hP.om hP1 hj1
    refine ⟨_, rfl, _, rfl, t, .ref u, M.q " then ", a1 _, hs, by decide, .inr ⟨u, v, j, r1, rfl, hu, hP1, fun h2 => ?_, fun r2 h2 => ?_⟩⟩
    · simp only [h2] at hF
      refine ⟨_, rfl, rfl, _, rfl, iteE true rfl (iteT ?_)⟩
      refine ⟨_, rfl, _, rfl, t, .non, M.q " else ", a2 _, hs, by decide, .inl ⟨rfl, ?_⟩⟩
      refine ⟨_, rfl, rfl, _, rfl, iteE true rfl (iteT ?_)⟩
      exact ⟨_, rfl, rfl, _, rfl, iteE true rfl (iteT (hF trivial _ (e1)))⟩
    · simp only [h2] at hF hQ
      have hP2 := hP1.takes h2
      have o2 : M.om r2 + 2 ≤ M.om r1 := by
        rw [M.takes_some.mp h2, M.om_app, show M.om (M.q " then ") = 2 from by decide]
        omega
      refine ⟨_, rfl, rfl, _, rfl, iteE false (decide_eq_false fun z => nomatch z) (iteF ⟨_, rfl, _, rfl, t, _, r2, rfl, hP2, hs, by omega, fun h3 H3 e3 => ?_, fun c3 r3 h3 u3 v3 j3 H3 e3 hj3 hP3 hu3 hv3 => ?_⟩)⟩
      · simp only [h3] at hF
        refine ⟨_, rfl, _, rfl, t, .non, M.q " else ", a2 _, hs, by decide, .inl ⟨rfl, ?_⟩⟩
        refine ⟨_, rfl, rfl, _, rfl, iteE true rfl (iteT ?_)⟩
        exact ⟨_, rfl, rfl, _, rfl, iteE true rfl (iteT (hF trivial _ (e1.trans e3)))⟩
      · simp only [h3] at hF hQ
        have e13 := e1.trans e3
        have hu' := e3 _ _ hu
        have o3 := hP2.om hP3 hj3
        refine ⟨_, rfl, _, rfl, t, .ref u3, M.q " else ", a2 _, hs, by decide, .inr ⟨u3, v3, j3, r3, rfl, hu3, hP3, fun h4 => ?_, fun r4 h4 => ?_⟩⟩
        · simp only [h4] at hF
          refine ⟨_, rfl, rfl, _, rfl, iteE true rfl (iteT ?_)⟩
          exact ⟨_, rfl, rfl, _, rfl, iteE true rfl (iteT (hF trivial _ (e13)))⟩
        · simp only [h4] at hF hQ
          have hP4 := hP3.takes h4
          have o4 := om_suf (M.takes_some.mp h4)
          refine ⟨_, rfl, rfl, _, rfl, iteE false (decide_eq_false fun z => nomatch z) (iteF ⟨_, rfl, _, rfl, t, _, r4, rfl, hP4, hs, by omega, fun h5 H5 e5 => ?_, fun c5 r5 h5 u5 v5 j5 H5 e5 hj5 hP5 hu5 hv5 => ?_⟩)⟩
          · simp only [h5] at hF
            exact ⟨_, rfl, rfl, _, rfl, iteE true rfl (iteT (hF trivial _ (e13.trans e5)))⟩
          · simp only [h5] at hQ
            have hu5' := e5 _ _ hu'
            have hu35 := e5 _ _ hu3
            refine ⟨_, rfl, rfl, _, rfl, iteE false ref_non (iteF ⟨_, rfl, u, _, _, _, rfl, rfl, sqt hu5', at0, _, rfl, u3, _, _, _, rfl, rfl, sqt hu35, at0, _, rfl, u5, _, _, _, rfl, rfl, sqt hu5, at0, by show 4 ≤ sizeLine; decide, fun a ha => ?_⟩)⟩
            have sa := same_new (o := .tup [V.str "if", v, v3, v5]) ha
            refine ⟨_, rfl, u5, _, _, _, rfl, rfl, sqt (sa _ _ hu5), at1, by show 2 ≤ sizeLine; decide, fun b hb => ?_⟩
            refine hQ _ _ rfl b (.ref a) j5 _ (((e13.trans e5).trans sa).trans (same_new hb)) (by omega) hP5 upd_same ?_
            have k1 := TupK.of (sa.trans (same_new (o := .tup [V.ref a, V.int (j5 : Nat)]) hb))
            unfold PAt
            refine ⟨a, v, v3, v5, rfl, ?_, hv.keep ((TupK.of (e3.trans e5)).trans k1), hv3.keep ((TupK.of e5).trans k1), hv5.keep k1⟩
            rw [← sq "if"]
            exact same_new hb _ _ upd_same
end
end K91
end

section
set_option Elab.async false
set_option linter.all false
set_option maxRecDepth 100000
set_option maxHeartbeats 8000000
/-! k91: the law's reader of parts, whole texts. -/
namespace K91
open PySem PySem.Spec PyProof.Rows L2 He HL
section
variable {w : World} {K : PySem.W.Frag} {mg : Str → Option Value} {base : Heap}
theorem len_of {r w : List Nat} {n k : Nat} (h : r.take n = w) (hk : w.length = n) : n ≤ r.length := by
  have := congrArg List.length h
  rw [List.length_take, hk] at this
  omega
theorem om_of {r w : List Nat} {n k : Nat} (h : r.take n = w) (hk : M.om w = k) : M.om (r.drop n) + k = M.om r := by
  have z2 := M.om_app (r.take n) (r.drop n)
  rw [List.take_append_drop, h, hk] at z2
  omega
theorem o_lpart (W : Wl K mg) : ∀ (n L : Nat), (n = 0 → 1 ≤ L) → (0 < n → n + 4 ≤ L) → OkD w K mg base CX0 L d_law_part_at ["_law_text_here", "_law_at"] (spLP n) := by
  intro n
  induction n using Nat.strongRecOn with
  | _ n ih =>
  intro L h0 h1
  by_cases hn : n = 0
  · obtain ⟨k, rfl⟩ : ∃ k, L = k + 1 := ⟨L - 1, by have := h0 hn; omega⟩
    exact o_vac W.D_law_part_at sc_law_part_at bi_law_part_at fun vs H Q E ⟨t, i, r, _, _, _, z, _⟩ => by omega
  obtain ⟨k, rfl⟩ : ∃ k, L = k + 2 + 1 + 1 := ⟨L - 4, by have := h1 (by omega); omega⟩
  have hk : n ≤ k := by have := h1 (by omega); omega
  have O__law_row_at := o_lrow (w := w) (base := base) W (n - 3) (k + 2) (ih (n - 3) (by omega) (k + 2) (fun _ => by omega) (fun z => by omega))
  have O__law_condition_at := o_lcond (w := w) (base := base) W (n - 1) (k + 2) (fun _ => by omega) (fun z => by omega)
  have O__law_if_at := o_lif (w := w) (base := base) W n (k + 2) O__law_condition_at (ih (n - 2) (by omega) (k + 2) (fun _ => by omega) (fun z => by omega)) (by omega)
  have O__law_part_at := ih (n - 1) (by omega) (k + 3) (fun _ => by omega) (fun z => by omega)
  have O__law_name_at := o_lname (w := w) (base := base) W
  have O__law_number_at := o_lnum (w := w) (base := base) W
  have O__law_after := o_after (w := w) (base := base) W
  refine HL.ok_of0 W.D_law_part_at sc_law_part_at (fun vs H Q E ⟨_, _, _, h, _⟩ => by rw [h]; rfl) bi_law_part_at fun cdv A outer s H vs Q E hr h => ?_
  have nd := sc_law_part_at.nd
  refine ⟨_, (pss_cons (ps_if (pt_cmpR op_eq (pe_slice sl_str (pv 0) (po_some (pv 1)) (po_some (pe_op op_add (pv 1) pe_int))) pe_str (nomark _)) (pss_one (ps_ret (pe_tup (pa_cons (pe_tup (pa_cons pe_str pa_nil)) (pa_cons (pe_op op_add (pv 1) pe_int) pa_nil))))) pss_nil)
    (pss_cons (ps_if (PW.pt (pw_or (pt_cmpR op_eq (pe_slice sl_str (pv 0) (po_some (pv 1)) (po_some (pe_op op_add (pv 1) pe_int))) pe_str (nomark _)) (pw_or1 (pt_cmpR op_eq (pe_slice sl_str (pv 0) (po_some (pv 1)) (po_some (pe_op op_add (pv 1) pe_int))) pe_str (nomark _))))) (pss_cons (ps_set (i := 2) nd rfl (Or.inl rfl) (pe_ifExp (pt_cmpR op_eq (pe_ix ix_str (pv 0) (pv 1) (fun _ _ => rfl)) pe_str (nomark _)) pe_str pe_str))
      (pss_cons (ps_set (i := 3) nd rfl (Or.inl rfl) (pe_cal O__law_name_at (hr.mono (by omega)) W.g__law_name_at pass0 (pa_cons (pv 0) (pa_cons (pe_op op_add (pv 1) (pe_ifExp (pt_cmpR op_eq (pv 2) pe_str (nomark _)) pe_int pe_int)) pa_nil))))
      (pss_one (ps_ret (pe_ifExp (pt_cmpR op_isN (pv 3) pe_non (nomark _)) pe_non (pe_tup (pa_cons (pe_tup (pa_cons (pv 2) (pa_cons (pe_ix ix_tup (pv 3) pe_int (fun _ _ => rfl)) pa_nil))) (pa_cons (pe_ix ix_tup (pv 3) pe_int (fun _ _ => rfl)) pa_nil)))))))) pss_nil)
    (pss_cons (ps_if (pt_cmpR op_eq (pe_slice sl_str (pv 0) (po_some (pv 1)) (po_some (pe_op op_add (pv 1) pe_int))) pe_str (nomark _)) (pss_cons (ps_set (i := 4) nd rfl (Or.inl rfl) (pe_cal O__law_number_at (hr.mono (by omega)) W.g__law_number_at pass0 (pa_cons (pv 0) (pa_cons (pe_op op_add (pv 1) pe_int) pa_nil))))
      (pss_one (ps_ret (pe_ifExp (PW.pt (pw_or (pt_cmpR op_isN (pv 4) pe_non (nomark _)) (pw_or1 (pt_cmpR op_eq (pe_ix ix_tup (pv 4) pe_int (fun _ _ => rfl)) pe_int (nomark _))))) pe_non (pe_tup (pa_cons (pe_tup (pa_cons pe_str (pa_cons (pe_ix ix_tup (pv 4) pe_int (fun _ _ => rfl)) pa_nil))) (pa_cons (pe_ix ix_tup (pv 4) pe_int (fun _ _ => rfl)) pa_nil))))))) pss_nil)
    (pss_cons (ps_if (pt_cmpR op_eq (pe_slice sl_str (pv 0) (po_some (pv 1)) (po_some (pe_op op_add (pv 1) pe_int))) pe_str (nomark _)) (pss_one (ps_ret (pe_cal O__law_row_at (hr.mono (by omega)) W.g__law_row_at pass0 (pa_cons (pv 0) (pa_cons (pe_op op_add (pv 1) pe_int) pa_nil))))) pss_nil)
    (pss_cons (ps_if (pt_cmpR op_eq (pe_slice sl_str (pv 0) (po_some (pv 1)) (po_some (pe_op op_add (pv 1) pe_int))) pe_str (nomark _)) (pss_one (ps_ret (pe_cal O__law_if_at (hr.mono (by omega)) W.g__law_if_at pass0 (pa_cons (pv 0) (pa_cons (pe_op op_add (pv 1) pe_int) pa_nil))))) pss_nil)
    (pss_cons (ps_set (i := 5) nd rfl (Or.inl rfl) (pe_ifExp (pt_cmpR op_eq (pe_slice sl_str (pv 0) (po_some (pv 1)) (po_some (pe_op op_add (pv 1) pe_int))) pe_str (nomark _)) (pe_cal O__law_condition_at (hr.mono (by omega)) W.g__law_condition_at pass0 (pa_cons (pv 0) (pa_cons (pe_op op_add (pv 1) pe_int) pa_nil))) pe_non))
    (pss_cons (ps_set (i := 1) nd rfl (Or.inl rfl) (pe_cal O__law_after (hr.mono (by omega)) W.g__law_after pass0 (pa_cons (pv 0) (pa_cons (pv 5) (pa_cons pe_str pa_nil)))))
    (pss_cons (ps_set (i := 6) nd rfl (Or.inl rfl) (pe_ifExp (pt_cmpR op_isN (pv 1) pe_non (nomark _)) pe_non (pe_cal O__law_part_at (hr.mono (by omega)) W.g__law_part_at pass0 (pa_cons (pv 0) (pa_cons (pv 1) pa_nil)))))
    (pss_one (ps_ret (pe_ifExp (pt_cmpR op_isN (pv 6) pe_non (nomark _)) pe_non (pe_tup (pa_cons (pe_tup (pa_cons pe_str (pa_cons (pe_ix ix_tup (pv 5) pe_int (fun _ _ => rfl)) (pa_cons (pe_ix ix_tup (pv 6) pe_int (fun _ _ => rfl)) pa_nil)))) (pa_cons (pe_ix ix_tup (pv 6) pe_int (fun _ _ => rfl)) pa_nil)))))))))))))), ?_⟩
  obtain ⟨t, i, r, rfl, hP, hs, hom, hF, hQ⟩ := h
  rw [M.lpart, dif_neg hn] at hF
  have hQ := fun c r' => hQ c r'
  rw [M.lpart, dif_neg hn] at hQ
  have tl : (S t).length ≤ sizeLine := by rw [S_len]; exact small hs
  have ic : ∀ k : Nat, ((i : Nat) : Int) + ((k : Nat) : Int) = ((i + k : Nat) : Int) := fun k => by omega
  refine ⟨_, rfl, _, rfl, _, rfl, _, rfl, _, _, rfl, rfl, _, congrArg V.int (ic 4), _, rfl, tl, ?_⟩
  rw [hP.cut, sq "back"]
  refine ⟨rfl, _, rfl, ?_⟩
  rw [dec_S]
  by_cases h1 : r.take 4 = M.q "back"
  · simp only [if_pos h1] at hQ
    rw [decide_eq_true h1]
    refine iteT ⟨by show 1 ≤ sizeLine; decide, fun a ha => ⟨_, rfl, _, _, rfl, rfl, by show 2 ≤ sizeLine; decide, fun b hb => ?_⟩⟩
    refine hQ _ _ rfl b (.ref a) (i + 4) _ ((same_new ha).trans (same_new hb)) (by omega) (hP.drop (len_of h1 (by decide) (k := 0))) upd_same ?_
    unfold PAt
    exact ⟨a, rfl, same_new hb _ _ upd_same⟩
  simp only [if_neg h1] at hF hQ
  rw [decide_eq_false h1]
  refine iteF ⟨_, rfl, _, rfl, _, rfl, _, rfl, _, _, rfl, rfl, _, congrArg V.int (ic 3), _, rfl, tl, ?_⟩
  rw [hP.cut, sq "do "]
  refine ⟨rfl, _, rfl, ?_⟩
  rw [dec_S]
  by_cases h2 : r.take 3 = M.q "do "
  · simp only [if_pos h2] at hF hQ
    rw [decide_eq_true h2]
    have hl := len_of h2 (by decide) (k := 0)
    have hPd := hP.drop hl
    have hc : t[i]? = some 100 := by
      have h7 : (r.take 3)[0]? = some 100 := by rw [h2]; rfl
      rw [List.getElem?_take, if_pos (by decide), ← hP.2, List.getElem?_drop] at h7
      exact h7
    refine iteT ⟨_, rfl, _, rfl, _, _, 100, rfl, rfl, tl, atI_nat hc, rfl, _, rfl, ?_⟩
    refine iteE true (by rw [sq "d"]; exact decide_eq_true rfl) (iteT ?_)
    refine ⟨_, rfl, _, rfl, _, rfl, rfl, _, rfl, iteE true rfl (iteT ⟨_, _, rfl, rfl, t, i + 3, r.drop 3, rfl, hPd, hs, fun h3 => ?_, fun x r3 h3 u j H3 e3 hP3 hu => ?_⟩)⟩
    · simp only [h3] at hF
      exact ⟨_, rfl, rfl, _, rfl, iteE true rfl (iteT (hF trivial _ (Same.refl _)))⟩
    · simp only [h3] at hQ
      have hj := hPd.le hP3 (M.word_some h3).1
      refine ⟨_, rfl, rfl, _, rfl, iteE false ref_non (iteF ⟨_, rfl, _, rfl, u, _, _, _, rfl, rfl, sqt hu, at0, by show 2 ≤ sizeLine; decide, fun a ha => ?_⟩)⟩
      have sa := same_new (o := .tup [V.str "step", V.str (S x)]) ha
      refine ⟨_, rfl, u, _, _, _, rfl, rfl, sqt (sa _ _ hu), at1, by show 2 ≤ sizeLine; decide, fun b hb => ?_⟩
      refine hQ _ _ rfl b (.ref a) j _ ((e3.trans sa).trans (same_new hb)) (by omega) hP3 upd_same ?_
      unfold PAt
      refine ⟨a, rfl, ?_⟩
      rw [← sq "step"]
      exact same_new hb _ _ upd_same
  simp only [if_neg h2] at hF hQ
  rw [decide_eq_false h2]
  refine iteF ⟨_, rfl, _, rfl, _, rfl, _, rfl, _, _, rfl, rfl, _, congrArg V.int (ic 5), _, rfl, tl, ?_⟩
  rw [hP.cut, sq "call "]
  refine ⟨rfl, _, rfl, ?_⟩
  rw [dec_S]
  by_cases h3 : r.take 5 = M.q "call "
  · simp only [if_pos h3] at hF hQ
    rw [decide_eq_true h3]
    have hl := len_of h3 (by decide) (k := 0)
    have hPd := hP.drop hl
    have hc : t[i]? = some 99 := by
      have h7 : (r.take 5)[0]? = some 99 := by rw [h3]; rfl
      rw [List.getElem?_take, if_pos (by decide), ← hP.2, List.getElem?_drop] at h7
      exact h7
    refine iteT ⟨_, rfl, _, rfl, _, _, 99, rfl, rfl, tl, atI_nat hc, rfl, _, rfl, ?_⟩
    refine iteE false (by rw [sq "d"]; exact decide_eq_false (fun z => by injection z with z; exact absurd (S_inj z) (by decide))) (iteF ?_)
    refine ⟨_, rfl, _, rfl, _, rfl, rfl, _, rfl, iteE false (decide_eq_false (by decide +kernel)) (iteF ⟨_, _, rfl, rfl, t, i + 5, r.drop 5, rfl, hPd, hs, fun h4 => ?_, fun x r4 h4 u j H3 e3 hP3 hu => ?_⟩)⟩
    · simp only [h4] at hF
      exact ⟨_, rfl, rfl, _, rfl, iteE true rfl (iteT (hF trivial _ (Same.refl _)))⟩
    · simp only [h4] at hQ
      have hj := hPd.le hP3 (M.word_some h4).1
      refine ⟨_, rfl, rfl, _, rfl, iteE false ref_non (iteF ⟨_, rfl, _, rfl, u, _, _, _, rfl, rfl, sqt hu, at0, by show 2 ≤ sizeLine; decide, fun a ha => ?_⟩)⟩
      have sa := same_new (o := .tup [V.str "call", V.str (S x)]) ha
      refine ⟨_, rfl, u, _, _, _, rfl, rfl, sqt (sa _ _ hu), at1, by show 2 ≤ sizeLine; decide, fun b hb => ?_⟩
      refine hQ _ _ rfl b (.ref a) j _ ((e3.trans sa).trans (same_new hb)) (by omega) hP3 upd_same ?_
      unfold PAt
      refine ⟨a, rfl, ?_⟩
      rw [← sq "call"]
      exact same_new hb _ _ upd_same
  simp only [if_neg h3] at hF hQ
  rw [decide_eq_false h3]
  refine iteF ⟨_, rfl, _, rfl, _, rfl, _, rfl, _, _, rfl, rfl, _, congrArg V.int (ic 6), _, rfl, tl, ?_⟩
  rw [hP.cut, sq "leave "]
  refine ⟨rfl, _, rfl, ?_⟩
  rw [dec_S]
  by_cases h4 : r.take 6 = M.q "leave "
  · simp only [if_pos h4] at hF hQ
    rw [decide_eq_true h4]
    have hPd := hP.drop (len_of h4 (by decide) (k := 0))
    refine iteT ⟨_, rfl, _, rfl, _, _, rfl, rfl, t, i + 6, r.drop 6, rfl, hPd, hs, fun h5 => ?_, fun x r5 h5 u j H3 e3 hP3 hu => ?_⟩
    · simp only [h5] at hF
      exact ⟨_, rfl, rfl, _, rfl, iteE true rfl (iteT (hF trivial _ (Same.refl _)))⟩
    · simp only [h5] at hF hQ
      have hj := hPd.le hP3 (M.number_some h5).1
      refine ⟨_, rfl, rfl, _, rfl, iteE false ref_non (iteF ⟨_, rfl, u, _, _, _, rfl, rfl, sqt hu, at0, rfl, _, rfl, ?_⟩)⟩
      by_cases hx : x = 0
      · simp only [if_pos hx] at hF
        refine iteE true (decide_eq_true (by rw [hx] <;> rfl)) (iteT (hF trivial _ e3))
      · simp only [if_neg hx] at hQ
        refine iteE false (decide_eq_false (fun z => hx (by injection z with z; omega))) (iteF ⟨_, rfl, u, _, _, _, rfl, rfl, sqt hu, at0, by show 2 ≤ sizeLine; decide, fun a ha => ?_⟩)
        have sa := same_new (o := .tup [V.str "leave", V.int (x : Nat)]) ha
        refine ⟨_, rfl, u, _, _, _, rfl, rfl, sqt (sa _ _ hu), at1, by show 2 ≤ sizeLine; decide, fun b hb => ?_⟩
        refine hQ _ _ rfl b (.ref a) j _ ((e3.trans sa).trans (same_new hb)) (by omega) hP3 upd_same ?_
        unfold PAt
        refine ⟨a, rfl, ?_⟩
        rw [← sq "leave"]
        exact same_new hb _ _ upd_same
  simp only [if_neg h4] at hF hQ
  rw [decide_eq_false h4]
  refine iteF ⟨_, rfl, _, rfl, _, rfl, _, rfl, _, _, rfl, rfl, _, congrArg V.int (ic 1), _, rfl, tl, ?_⟩
  rw [hP.cut, sq "["]
  refine ⟨rfl, _, rfl, ?_⟩
  rw [dec_S]
  by_cases h5 : r.take 1 = M.q "["
  · simp only [if_pos h5] at hF hQ
    rw [decide_eq_true h5]
    have hPd := hP.drop (len_of h5 (by decide) (k := 0))
    have ho := om_of h5 (show M.om (M.q "[") = 3 from by decide)
    refine iteT ⟨_, rfl, _, rfl, _, _, rfl, rfl, t, i + 1, r.drop 1, rfl, hPd, hs, by omega, fun h6 H6 e6 => ?_, fun cs r6 h6 u v j H6 e6 hj hP6 hu hv => ?_⟩
    · simp only [h6] at hF
      exact hF trivial _ e6
    · simp only [h6] at hQ
      exact hQ _ _ rfl u v j _ e6 (by omega) hP6 hu hv
  simp only [if_neg h5] at hF hQ
  rw [decide_eq_false h5]
  refine iteF ⟨_, rfl, _, rfl, _, rfl, _, rfl, _, _, rfl, rfl, _, congrArg V.int (ic 3), _, rfl, tl, ?_⟩
  rw [hP.cut, sq "if "]
  refine ⟨rfl, _, rfl, ?_⟩
  rw [dec_S]
  by_cases h6 : r.take 3 = M.q "if "
  · simp only [if_pos h6] at hF hQ
    rw [decide_eq_true h6]
    have hPd := hP.drop (len_of h6 (by decide) (k := 0))
    have ho := om_of h6 (show M.om (M.q "if ") = 1 from by decide)
    exact iteT ⟨_, rfl, _, rfl, _, _, rfl, rfl, t, i + 3, r.drop 3, rfl, hPd, hs, by omega, fun h7 H7 e7 => hF h7 _ e7, fun c r7 h7 u v j H7 e7 hj hP7 hu hv => hQ c r7 h7 u v j _ e7 (by omega) hP7 hu hv⟩
  simp only [if_neg h6] at hF hQ
  rw [decide_eq_false h6]
  have a1 : ∀ x : V, [V.str (S t), x, V.str ": "] = [V.str (S t), x, V.str (S (M.q ": "))] := fun x => by rw [sq ": "]
  refine iteF ⟨_, rfl, _, rfl, _, rfl, _, rfl, _, _, rfl, rfl, _, congrArg V.int (ic 6), _, rfl, tl, ?_⟩
  rw [hP.cut, sq "while "]
  refine ⟨rfl, _, rfl, ?_⟩
  rw [dec_S]
  by_cases h7 : r.take 6 = M.q "while "
  · simp only [if_pos h7] at hF hQ
    rw [decide_eq_true h7]
    have hPd := hP.drop (len_of h7 (by decide) (k := 0))
    have ho := om_of h7 (show M.om (M.q "while ") = 1 from by decide)
    refine iteT ⟨_, rfl, _, rfl, _, _, rfl, rfl, t, i + 6, r.drop 6, rfl, hPd, hs, by omega, fun h8 H1 e1 => ?_, fun c r1 h8 u v j H1 e1 hj1 hP1 hu hv => ?_⟩
    · simp only [h8] at hF
      refine ⟨_, rfl, _, rfl, t, .non, M.q ": ", a1 _, hs, by decide, .inl ⟨rfl, ?_⟩⟩
      refine ⟨_, rfl, rfl, _, rfl, iteE true rfl (iteT ?_)⟩
      exact ⟨_, rfl, rfl, _, rfl, iteE true rfl (iteT (hF trivial _ e1))⟩
    · simp only [h8] at hF hQ
      have o1 := hPd.om hP1 hj1
      refine ⟨_, rfl, _, rfl, t, .ref u, M.q ": ", a1 _, hs, by decide, .inr ⟨u, v, j, r1, rfl, hu, hP1, fun h9 => ?_, fun r2 h9 => ?_⟩⟩
      · simp only [h9] at hF
        refine ⟨_, rfl, rfl, _, rfl, iteE true rfl (iteT ?_)⟩
        exact ⟨_, rfl, rfl, _, rfl, iteE true rfl (iteT (hF trivial _ e1))⟩
      · simp only [h9] at hF hQ
        have hP2 := hP1.takes h9
        have o2 := om_suf (M.takes_some.mp h9)
        refine ⟨_, rfl, rfl, _, rfl, iteE false (decide_eq_false fun z => nomatch z) (iteF ⟨_, rfl, _, rfl, t, _, r2, rfl, hP2, hs, by omega, fun h10 H3 e3 => ?_, fun c3 r3 h10 u3 v3 j3 H3 e3 hj3 hP3 hu3 hv3 => ?_⟩)⟩
        · simp only [h10] at hF
          exact ⟨_, rfl, rfl, _, rfl, iteE true rfl (iteT (hF trivial _ (e1.trans e3)))⟩
        · simp only [h10] at hQ
          have hu' := e3 _ _ hu
          refine ⟨_, rfl, rfl, _, rfl, iteE false ref_non (iteF ⟨_, rfl, u, _, _, _, rfl, rfl, sqt hu', at0, _, rfl, u3, _, _, _, rfl, rfl, sqt hu3, at0, by show 3 ≤ sizeLine; decide, fun a ha => ?_⟩)⟩
          have sa := same_new (o := .tup [V.str "while", v, v3]) ha
          refine ⟨_, rfl, u3, _, _, _, rfl, rfl, sqt (sa _ _ hu3), at1, by show 2 ≤ sizeLine; decide, fun b hb => ?_⟩
          have k1 := TupK.of (sa.trans (same_new (o := .tup [V.ref a, V.int (j3 : Nat)]) hb))
          refine hQ _ _ rfl b (.ref a) j3 _ (((e1.trans e3).trans sa).trans (same_new hb)) (by omega) hP3 upd_same ?_
          unfold PAt
          refine ⟨a, v, v3, rfl, ?_, hv.keep ((TupK.of e3).trans k1), hv3.keep k1⟩
          rw [← sq "while"]
          exact same_new hb _ _ upd_same
  · simp only [if_neg h7] at hF
    rw [decide_eq_false h7]
    refine iteF ?_
    refine ⟨_, rfl, _, rfl, t, .non, M.q ": ", a1 _, hs, by decide, .inl ⟨rfl, ?_⟩⟩
    refine ⟨_, rfl, rfl, _, rfl, iteE true rfl (iteT ?_)⟩
    exact ⟨_, rfl, rfl, _, rfl, iteE true rfl (iteT (hF trivial _ (Same.refl _)))⟩
abbrev n_law_whole : List Str := ["_law_text_here", "_law_found"]
theorem sc_law_whole : FnScope n_law_whole ["_law_text_here", "_law_found"] (defScope s_law_whole) := ⟨rfl, rfl, rfl, by decide +kernel, rfl, by decide +kernel, by decide +kernel⟩
theorem bi_law_whole : ∀ (kV doc pm : Value) (an : Option Addr) (cdv ct : Value) (us : List Value), us.length = 2 → bindArgs (PySem.W.fnOf d_law_whole.name d_law_whole.qual d_law_whole.params d_law_whole.body d_law_whole.scope .none kV doc pm an cdv ct) ⟨us, []⟩ = pure ([("_law_text_here" : Str), ("_law_found" : Str)].zip us) := fun kV doc pm an cdv ct us hu => by
  match us, hu with
  | [u0, u1], _ => rfl
/-- ('told', x) or ('none', None) -/
def spWhole : Sp := fun vs H Q _ => ∃ t x, vs = [.str (S t), x] ∧ t.length ≤ 1000000 ∧
  ((x = .non ∧ ∀ p, H p = none → Q (.ref p) (upd H p (.tup [.str "none", .non]))) ∨
    ∃ u v j r, x = .ref u ∧ H u = some (.tup [v, .int (j : Nat)]) ∧ Ps t j r ∧ (r = [] → ∀ p, H p = none → Q (.ref p) (upd H p (.tup [.str "told", v]))) ∧ (r ≠ [] → ∀ p, H p = none → Q (.ref p) (upd H p (.tup [.str "none", .non]))))
theorem o_whole (W : Wl K mg) : OkD w K mg base CX0 1 d_law_whole ["_law_text_here", "_law_found"] spWhole := by
  refine HL.ok_of0 W.D_law_whole sc_law_whole (fun vs H Q E ⟨_, _, h, _⟩ => by rw [h]; rfl) bi_law_whole fun cdv A outer s H vs Q E hr h => ?_
  have nd := sc_law_whole.nd
  refine ⟨_, (pss_one (ps_ret (pe_ifExp (PW.pt (pw_and (pt_cmpR op_notN (pv 1) pe_non (nomark _)) (pw_and1 (pt_cmpR op_eq (pe_ix ix_tup (pv 1) pe_int (fun _ _ => rfl)) (pe_callB call_len_str (by rfl) W.f_len (by decide +kernel) (pa_cons (pv 0) pa_nil)) (nomark _))))) (pe_tup (pa_cons pe_str (pa_cons (pe_ix ix_tup (pv 1) pe_int (fun _ _ => rfl)) pa_nil))) (pe_tup (pa_cons pe_str (pa_cons pe_non pa_nil)))))), ?_⟩
  obtain ⟨t, x, rfl, hs, ⟨rfl, hq⟩ | ⟨u, v, j, r, rfl, hu, hP, hT, hF⟩⟩ := h
  · exact ⟨_, rfl, rfl, _, rfl, iteE false rfl (iteF ⟨by show 2 ≤ sizeLine; decide, fun p hp => hq p hp⟩)⟩
  · have tl : (S t).length ≤ sizeLine := by rw [S_len]; exact small hs
    refine ⟨_, rfl, rfl, _, rfl, iteE true (by rw [ref_non] <;> rfl) (iteT ⟨_, rfl, u, _, _, _, rfl, rfl, sqt hu, at1, _, rfl, _, rfl, tl, rfl, _, rfl, ?_⟩)⟩
    by_cases hr : r = []
    · have hj := hP.all.mpr hr
      refine iteE true (decide_eq_true (by rw [S_len, hj])) (iteT ⟨_, rfl, u, _, _, _, rfl, rfl, sqt hu, at0, by show 2 ≤ sizeLine; decide, fun p hp => hT hr p hp⟩)
    · have hj : j ≠ t.length := fun z => hr (hP.all.mp z)
      refine iteE false (decide_eq_false (fun z => hj (by injection z with z; rw [S_len] at z; omega))) (iteF ⟨by show 2 ≤ sizeLine; decide, fun p hp => hF hr p hp⟩)
end
end K91
end

section
set_option Elab.async false
set_option linter.all false
set_option maxRecDepth 100000
set_option maxHeartbeats 4000000
/-! k91: the law's texts of conditions. -/
namespace K91
open PySem PySem.Spec PyProof.Rows L2 He HL
section
variable {w : World} {K : PySem.W.Frag} {mg : Str → Option Value} {base : Heap}
abbrev n_law_condition_text : List Str := ["_law_condition_here", "_law_some", "_law_one_here"]
theorem sc_law_condition_text : FnScope n_law_condition_text ["_law_condition_here"] (defScope s_law_condition_text) := ⟨rfl, rfl, rfl, by decide +kernel, rfl, by decide +kernel, by decide +kernel⟩
theorem bi_law_condition_text : ∀ (kV doc pm : Value) (an : Option Addr) (cdv ct : Value) (us : List Value), us.length = 1 → bindArgs (PySem.W.fnOf d_law_condition_text.name d_law_condition_text.qual d_law_condition_text.params d_law_condition_text.body d_law_condition_text.scope .none kV doc pm an cdv ct) ⟨us, []⟩ = pure ([("_law_condition_here" : Str)].zip us) := fun kV doc pm an cdv ct us hu => by
  match us, hu with
  | [u0], _ => rfl
def spCText (n : Nat) : Sp := fun vs H Q _ => ∃ v c, vs = [v] ∧ CAt H c v ∧ M.om c.sh < n ∧ c.sh.length ≤ 1000000 ∧ ∀ H', Same H H' → Q (.str (S c.sh)) H'
theorem o_ctext (W : Wl K mg) : ∀ (n L : Nat), (n = 0 → 1 ≤ L) → (0 < n → n + 1 ≤ L) → OkD w K mg base CX0 L d_law_condition_text ["_law_condition_here"] (spCText n) := by
  intro n
  induction n with
  | zero =>
    intro L h0 h1
    obtain ⟨k, rfl⟩ : ∃ k, L = k + 1 := ⟨L - 1, by have := h0 rfl; omega⟩
    exact o_vac W.D_law_condition_text sc_law_condition_text bi_law_condition_text fun vs H Q E ⟨v, c, _, _, z, _⟩ => by omega
  | succ n ih =>
  intro L h0 h1
  obtain ⟨k, rfl⟩ : ∃ k, L = k + 1 := ⟨L - 1, by have := h1 (by omega); omega⟩
  have hk : n + 1 ≤ k := by have := h1 (by omega); omega
  have O__law_condition_text := ih k (fun _ => by omega) (fun _ => by omega)
  refine HL.ok_of0 W.D_law_condition_text sc_law_condition_text (fun vs H Q E ⟨_, _, h, _⟩ => by rw [h]; rfl) bi_law_condition_text fun cdv A outer s H vs Q E hr h => ?_
  have nd := sc_law_condition_text.nd
  refine ⟨_, (pss_cons (ps_if (pt_cmpR op_in_seq (pe_ix ix_tup (pv 0) pe_int (fun _ _ => rfl)) (pe_tup (pa_cons pe_str (pa_cons pe_str pa_nil))) (by rfl)) (pss_one (ps_ret (pe_ix ix_tup (pv 0) pe_int (fun _ _ => rfl)))) pss_nil)
    (pss_cons (ps_if (pt_cmpR op_eq (pe_ix ix_tup (pv 0) pe_int (fun _ _ => rfl)) pe_str (nomark _)) (pss_one (ps_ret (pe_op op_add_str pe_str (pe_ix ix_tup (pv 0) pe_int (fun _ _ => rfl))))) pss_nil)
    (pss_cons (ps_set (i := 1) nd rfl (Or.inl rfl) (pe_ifExp (pt_cmpR op_eq (pe_ix ix_tup (pv 0) pe_int (fun _ _ => rfl)) pe_str (nomark _)) (pe_lst (pa_cons (pe_ix ix_tup (pv 0) pe_int (fun _ _ => rfl)) pa_nil)) (pe_callTy call_list_of (by rfl) W.f_list (by decide +kernel) (pa_cons (pe_ix ix_tup (pv 0) pe_int (fun _ _ => rfl)) pa_nil))))
    (pss_one (ps_ret (pe_op op_add_str (pe_op op_add_str (pe_op op_add_str (pe_ix ix_tup (pv 0) pe_int (fun _ _ => rfl)) pe_str) (pe_join pe_str (pe_lc (own := [("_law_one_here", 2)]) (g := gName 2) (tt := tYes) (by rfl) nd (pi_list (pv 1)) (blkOk_by (own := [("_law_one_here", 2)]) (N := n_law_condition_text) (sc := defScope s_law_condition_text) (by decide +kernel)) (fun _ _ _ _ _ => pg_name (i := 2) nd rfl (Or.inl rfl)) (fun _ _ _ _ _ => pts_nil) (fun _ _ _ _ _ => (pe_cal O__law_condition_text (hr.mono (by omega)) W.g__law_condition_text pass0 (pa_cons (pv 2) pa_nil)))))) pe_str)))))), ?_⟩
  obtain ⟨v, c, rfl, hc, hom, hlen, hq⟩ := h
  have step : (∃ b, c = .word b) ∨ (∃ x, c = .ask x) ∨ ∃ a w0 x, v = .ref a ∧ H a = some (.tup [.str (S w0), x]) ∧ (["yes", "no"].any fun s => decide (w0 = M.q s)) = false ∧ w0 ≠ M.q "ask" ∧
      ((w0 = M.q "not" ∧ ∃ c1, CAt H c1 x ∧ c.sh = w0 ++ (M.q "(" ++ (TL.joinL (M.q ", ") (M.shC [c1]) ++ M.q ")"))) ∨ (w0 ≠ M.q "not" ∧ ∃ t us cs, x = .ref t ∧ H t = some (.tup us) ∧ All2 (fun v c => CAt H c v) us cs ∧ c.sh = w0 ++ (M.q "(" ++ (TL.joinL (M.q ", ") (M.shC cs) ++ M.q ")")))) := by
    cases c with
    | word b => exact .inl ⟨b, rfl⟩
    | ask x => exact .inr (.inl ⟨x, rfl⟩)
    | neg c1 =>
      unfold CAt at hc
      obtain ⟨a, u, rfl, ha, hu⟩ := hc
      exact .inr (.inr ⟨a, _, u, rfl, ha, by decide, by decide, .inl ⟨rfl, c1, hu, rfl⟩⟩)
    | many b cs =>
      unfold CAt at hc
      obtain ⟨a, t, us, rfl, ha, ht, hu⟩ := hc
      exact .inr (.inr ⟨a, _, _, rfl, ha, by cases b <;> decide, by cases b <;> decide, .inr ⟨by cases b <;> decide, t, us, cs, rfl, ht, cAtL_iff.mp hu, rfl⟩⟩)
  rcases step with ⟨b, rfl⟩ | ⟨x, rfl⟩ | ⟨a, w0, x, rfl, ha, hyn, hask, hx⟩
  · unfold CAt at hc
    obtain ⟨a, rfl, ha⟩ := hc
    refine ⟨_, rfl, a, _, _, _, rfl, rfl, sqt ha, at0, by show 2 ≤ sizeLine; decide, fun t ht => in_words ["yes", "no"] upd_same ⟨_, rfl, ?_⟩⟩
    rw [yq_in]
    exact iteT ⟨_, rfl, a, _, _, _, rfl, rfl, sqt (same_new ht _ _ ha), at0, hq _ (same_new ht)⟩
  · unfold CAt at hc
    obtain ⟨a, rfl, ha⟩ := hc
    refine ⟨_, rfl, a, _, _, _, rfl, rfl, sqt ha, at0, by show 2 ≤ sizeLine; decide, fun t ht => in_words ["yes", "no"] upd_same ⟨_, rfl, ?_⟩⟩
    have ha1 := same_new (o := .tup [V.str "yes", V.str "no"]) ht _ _ ha
    rw [show (["yes", "no"].any fun s => decide (M.q "ask" = M.q s)) = false by decide]
    refine iteF ⟨_, rfl, a, _, _, _, rfl, rfl, sqt ha1, at0, rfl, ?_⟩
    rw [sq "ask", dec_S, decide_eq_true (show M.q "ask" = M.q "ask" from rfl)]
    refine ⟨_, rfl, iteT ⟨_, rfl, a, _, _, _, rfl, rfl, sqt ha1, at1, _, _, rfl, rfl, ?_, ?_⟩⟩
    · rw [ofq, S_len, S_len]
      refine small ?_
      simp only [M.Cond.sh, List.length_append] at hlen
      exact hlen
    · rw [cat_q]
      exact hq _ (same_new ht)
  · refine ⟨_, rfl, a, _, _, _, rfl, rfl, sqt ha, at0, by show 2 ≤ sizeLine; decide, fun t ht => in_words ["yes", "no"] upd_same ⟨_, rfl, ?_⟩⟩
    have s1 : Same H (upd H t (.tup [V.str "yes", V.str "no"])) := same_new ht
    generalize upd H t (.tup [V.str "yes", V.str "no"]) = H1 at s1 ⊢
    have ha1 := s1 _ _ ha
    rw [hyn]
    refine iteF ⟨_, rfl, a, _, _, _, rfl, rfl, sqt ha1, at0, rfl, ?_⟩
    rw [sq "ask", dec_S, decide_eq_false hask]
    refine ⟨_, rfl, iteF ?_⟩
    delta tNext
    dsimp only
    refine sasg_cont (R := fun v1 H2 => ∃ l us cs, v1 = .ref l ∧ Same H1 H2 ∧ H2 l = some (.lst us) ∧ All2 (fun v c => CAt H2 c v) us cs ∧ c.sh = w0 ++ (M.q "(" ++ (TL.joinL (M.q ", ") (M.shC cs) ++ M.q ")"))) ?_ ?_
    · intro Q' hQ'
      refine ⟨_, rfl, a, _, _, _, rfl, rfl, sqt ha1, at0, rfl, ?_⟩
      rw [sq "not", dec_S]
      refine ⟨_, rfl, ?_⟩
      rcases hx with ⟨hw, c1, hc1, hsh⟩ | ⟨hw, t1, us, cs, rfl, ht1, hA, hsh⟩
      · rw [decide_eq_true hw]
        refine iteT ⟨_, rfl, a, _, _, _, rfl, rfl, sqt ha1, at1, by show 1 ≤ sizeLine; decide, fun l hl => hQ' _ _ ⟨l, [x], [c1], rfl, same_new hl, upd_same, ⟨(hc1.keep (.of s1)).keep (.of (same_new hl)), trivial⟩, hsh⟩⟩
      · rw [decide_eq_false hw]
        refine iteF ⟨_, rfl, a, _, _, _, rfl, rfl, sqt ha1, at1, t1, us, rfl, .inr (sqt (s1 _ _ ht1)), fun l hl => hQ' _ _ ⟨l, us, cs, rfl, same_new hl, upd_same, hA.imp fun v c z => (z.keep (.of s1)).keep (.of (same_new hl)), hsh⟩⟩
    · rintro v1 H2 ⟨l, us, cs, rfl, s2, hl, hA, hsh⟩
      have hsz : w0.length + (1 + ((TL.joinL (M.q ", ") (M.shC cs)).length + 1)) ≤ 1000000 := by
        rw [hsh] at hlen
        simpa [show (M.q "(").length = 1 from by decide, show (M.q ")").length = 1 from by decide] using hlen
      have hL := hA.length
      have hus : us.length ≤ 1000000 := by
        have := joinL_len (M.q ", ") (M.shC cs)
        rw [M.shC_map, List.length_map, show (M.q ", ").length = 2 from by decide, ← M.shC_map] at this
        omega
      refine ⟨_, rfl, a, _, _, _, rfl, rfl, sqt (s2 _ _ ha1), at0, _, _, rfl, rfl, ?_, ⟨_, rfl⟩, _, rfl, l, rfl, ⟨us, sql hl⟩, fun D hD => ?_⟩
      · rw [ofq, S_len, S_len]
        refine small ?_
        show w0.length + 1 ≤ _
        omega
      · refine HL.lcL (xs := us) (out := (M.shC cs).map fun y => V.str (S y)) hD (sql hl) (by rw [M.shC_map, List.length_map, List.length_map, hL]) (small hus) (fun k1 x1 y H3 Q3 hx1 hy e3 _ hq3 => ?_) fun H3 e3 hD3 => ?_
        · obtain ⟨c1, hc1, hAt1⟩ := hA.get hx1
          have hmem : c1 ∈ cs := List.mem_of_getElem? hc1
          have hsm : c1.sh ∈ M.shC cs := by
            rw [M.shC_map]
            exact List.mem_map.mpr ⟨c1, hmem, rfl⟩
          have hy : y = V.str (S c1.sh) := by
            rw [M.shC_map, List.getElem?_map, List.getElem?_map, hc1] at hy
            exact (Option.some.inj hy).symm
          subst hy
          refine ⟨_, rfl, x1, c1, rfl, hAt1.keep (.of e3), ?_, ?_, hq3⟩
          · have h5 := om_j (b := M.q ", ") hsm
            have h6 : M.om (TL.joinL (M.q ", ") (M.shC cs)) + 3 ≤ M.om c.sh := by
              rw [hsh, M.om_app, M.om_app, M.om_app, show M.om (M.q "(") = 3 from by decide]
              omega
            omega
          · have h5 := len_j (b := M.q ", ") hsm
            omega
        · have hj : Txt.join (Str.ofString ", ") ((M.shC cs).map S) = S (TL.joinL (M.q ", ") (M.shC cs)) := by
            rw [ofq]
            exact SX.join_S _ _
          refine ⟨_, D, (M.shC cs).map S, rfl, rfl, .inl (sql (by rw [hD3, List.map_map] <;> rfl)), ?_, ?_⟩
          · have h5 := joinL_len (M.q ", ") (M.shC cs)
            have h6 : (Str.ofString ", ").length = 2 := by rw [ofq, S_len]; rfl
            have h7 : (M.q ", ").length = 2 := by decide
            rw [List.map_map, List.length_map, h6, show (((fun x : Str => x.length) ∘ S) : List Nat → Nat) = fun x => x.length from funext fun x => S_len x]
            rw [h7] at h5
            omega
          · rw [hj]
            refine ⟨_, _, rfl, rfl, ?_, ?_⟩
            · rw [ofq, S_cat, S_len, S_len]
              refine small ?_
              rw [List.length_append]
              show w0.length + 1 + _ ≤ _
              omega
            · refine ⟨_, _, rfl, rfl, ?_, ?_⟩
              · rw [ofq, ofq, S_cat, S_cat, S_len, S_len]
                refine small ?_
                rw [List.length_append, List.length_append]
                show w0.length + 1 + _ + 1 ≤ _
                omega
              · rw [ofq, ofq, S_cat, S_cat, S_cat]
                have := hq H3 ((s1.trans s2).trans e3)
                rw [hsh] at this
                simpa [M.q, List.append_assoc] using this
end
end K91
end

section
set_option Elab.async false
set_option linter.all false
set_option maxRecDepth 100000
set_option maxHeartbeats 4000000
/-! k91: the law's texts of parts. -/
namespace K91
open PySem PySem.Spec PyProof.Rows L2 He HL
section
variable {w : World} {K : PySem.W.Frag} {mg : Str → Option Value} {base : Heap}
abbrev n_law_pieces : List Str := ["_law_part_here"]
theorem sc_law_pieces : FnScope n_law_pieces ["_law_part_here"] (defScope s_law_pieces) := ⟨rfl, rfl, rfl, by decide +kernel, rfl, by decide +kernel, by decide +kernel⟩
theorem bi_law_pieces : ∀ (kV doc pm : Value) (an : Option Addr) (cdv ct : Value) (us : List Value), us.length = 1 → bindArgs (PySem.W.fnOf d_law_pieces.name d_law_pieces.qual d_law_pieces.params d_law_pieces.body d_law_pieces.scope .none kV doc pm an cdv ct) ⟨us, []⟩ = pure ([("_law_part_here" : Str)].zip us) := fun kV doc pm an cdv ct us hu => by
  match us, hu with
  | [u0], _ => rfl
def spPieces : Sp := fun vs H Q _ => ∃ a, vs = [.ref a] ∧
  ((∃ u x, H a = some (.tup [.str (S (M.q "while")), u, x]) ∧ ∀ l, H l = none → Q (.ref l) (upd H l (.lst [x]))) ∨
    ∃ u x y, H a = some (.tup [.str (S (M.q "if")), u, x, y]) ∧ ∀ l, H l = none → Q (.ref l) (upd H l (.lst [x, y])))
theorem o_pieces (W : Wl K mg) : OkD w K mg base CX0 1 d_law_pieces ["_law_part_here"] spPieces := by
  refine HL.ok_of0 W.D_law_pieces sc_law_pieces (fun vs H Q E ⟨_, h, _⟩ => by rw [h]; rfl) bi_law_pieces fun cdv A outer s H vs Q E hr h => ?_
  have nd := sc_law_pieces.nd
  refine ⟨_, (pss_cons (ps_if (pt_cmpR op_eq (pe_ix ix_tup (pv 0) pe_int (fun _ _ => rfl)) pe_str (nomark _)) (pss_one (ps_ret (pe_callTy call_list_of (by rfl) W.f_list (by decide +kernel) (pa_cons (pe_ix ix_tup (pv 0) pe_int (fun _ _ => rfl)) pa_nil)))) pss_nil)
    (pss_cons (ps_if (pt_cmpR op_eq (pe_ix ix_tup (pv 0) pe_int (fun _ _ => rfl)) pe_str (nomark _)) (pss_one (ps_ret (pe_lst (pa_cons (pe_ix ix_tup (pv 0) pe_int (fun _ _ => rfl)) (pa_cons (pe_ix ix_tup (pv 0) pe_int (fun _ _ => rfl)) pa_nil))))) pss_nil)
    (pss_one (ps_ret (pe_ifExp (pt_cmpR op_eq (pe_ix ix_tup (pv 0) pe_int (fun _ _ => rfl)) pe_str (nomark _)) (pe_lst (pa_cons (pe_ix ix_tup (pv 0) pe_int (fun _ _ => rfl)) pa_nil)) (pe_lst pa_nil)))))), ?_⟩
  obtain ⟨a, rfl, ⟨u, x, ha, hq⟩ | ⟨u, x, y, ha, hq⟩⟩ := h
  · refine ⟨_, rfl, a, _, _, _, rfl, rfl, sqt ha, at0, rfl, ?_⟩
    rw [sq "row", dec_S, decide_eq_false (by decide)]
    refine ⟨_, rfl, iteF ⟨_, rfl, a, _, _, _, rfl, rfl, sqt ha, at0, rfl, ?_⟩⟩
    rw [sq "if", dec_S, decide_eq_false (by decide)]
    refine ⟨_, rfl, iteF ⟨_, rfl, a, _, _, _, rfl, rfl, sqt ha, at0, rfl, ?_⟩⟩
    rw [sq "while", dec_S, decide_eq_true rfl]
    exact ⟨_, rfl, iteT ⟨_, rfl, a, _, _, _, rfl, rfl, sqt ha, at2, by show 1 ≤ sizeLine; decide, fun l hl => hq l hl⟩⟩
  · refine ⟨_, rfl, a, _, _, _, rfl, rfl, sqt ha, at0, rfl, ?_⟩
    rw [sq "row", dec_S, decide_eq_false (by decide)]
    refine ⟨_, rfl, iteF ⟨_, rfl, a, _, _, _, rfl, rfl, sqt ha, at0, rfl, ?_⟩⟩
    rw [sq "if", dec_S, decide_eq_true rfl]
    exact ⟨_, rfl, iteT ⟨_, rfl, a, _, _, _, rfl, rfl, sqt ha, at2, _, rfl, a, _, _, _, rfl, rfl, sqt ha, at3, by show 2 ≤ sizeLine; decide, fun l hl => hq l hl⟩⟩
abbrev n_law_part_text : List Str := ["_law_part_here", "_law_some", "_law_piece"]
theorem sc_law_part_text : FnScope n_law_part_text ["_law_part_here"] (defScope s_law_part_text) := ⟨rfl, rfl, rfl, by decide +kernel, rfl, by decide +kernel, by decide +kernel⟩
theorem bi_law_part_text : ∀ (kV doc pm : Value) (an : Option Addr) (cdv ct : Value) (us : List Value), us.length = 1 → bindArgs (PySem.W.fnOf d_law_part_text.name d_law_part_text.qual d_law_part_text.params d_law_part_text.body d_law_part_text.scope .none kV doc pm an cdv ct) ⟨us, []⟩ = pure ([("_law_part_here" : Str)].zip us) := fun kV doc pm an cdv ct us hu => by
  match us, hu with
  | [u0], _ => rfl
def spPText (n : Nat) : Sp := fun vs H Q _ => ∃ v c, vs = [v] ∧ PAt H c v ∧ c.wf ∧ M.om c.sh < n ∧ c.sh.length ≤ 1000000 ∧ ∀ H', Same H H' → Q (.str (S c.sh)) H'
theorem o_ptext (W : Wl K mg) : ∀ (n L : Nat), (n = 0 → 1 ≤ L) → (0 < n → n + 2 ≤ L) → OkD w K mg base CX0 L d_law_part_text ["_law_part_here"] (spPText n) := by
  intro n
  induction n with
  | zero =>
    intro L h0 h1
    obtain ⟨k, rfl⟩ : ∃ k, L = k + 1 := ⟨L - 1, by have := h0 rfl; omega⟩
    exact o_vac W.D_law_part_text sc_law_part_text bi_law_part_text fun vs H Q E ⟨v, c, _, _, _, z, _⟩ => by omega
  | succ n ih =>
  intro L h0 h1
  obtain ⟨k, rfl⟩ : ∃ k, L = k + 1 := ⟨L - 1, by have := h1 (by omega); omega⟩
  have hk : n + 2 ≤ k := by have := h1 (by omega); omega
  have O__law_part_text := ih k (fun _ => by omega) (fun _ => by omega)
  have O__law_pieces := o_pieces (w := w) (base := base) W
  have O__law_condition_text := o_ctext (w := w) (base := base) W (n + 1) k (fun _ => by omega) (fun _ => by omega)
  refine HL.ok_of0 W.D_law_part_text sc_law_part_text (fun vs H Q E ⟨_, _, h, _⟩ => by rw [h]; rfl) bi_law_part_text fun cdv A outer s H vs Q E hr h => ?_
  have nd := sc_law_part_text.nd
  refine ⟨_, (pss_cons (ps_if (pt_cmpR op_eq (pe_ix ix_tup (pv 0) pe_int (fun _ _ => rfl)) pe_str (nomark _)) (pss_one (ps_ret pe_str)) pss_nil)
    (pss_cons (ps_if (pt_cmpR op_in_seq (pe_ix ix_tup (pv 0) pe_int (fun _ _ => rfl)) (pe_tup (pa_cons pe_str (pa_cons pe_str (pa_cons pe_str pa_nil)))) (by rfl)) (pss_one (ps_ret (pe_op op_add_str (pe_ifExp (pt_cmpR op_eq (pe_ix ix_tup (pv 0) pe_int (fun _ _ => rfl)) pe_str (nomark _)) pe_str (pe_op op_add_str (pe_ix ix_tup (pv 0) pe_int (fun _ _ => rfl)) pe_str)) (pe_callTy (CallR.or call_str_int SkE.call_str_str) (by rfl) W.f_str (by decide +kernel) (pa_cons (pe_ix ix_tup (pv 0) pe_int (fun _ _ => rfl)) pa_nil))))) pss_nil)
    (pss_cons (ps_if (pt_cmpR op_eq (pe_ix ix_tup (pv 0) pe_int (fun _ _ => rfl)) pe_str (nomark _)) (pss_one (ps_ret (pe_op op_add_str (pe_op op_add_str pe_str (pe_join pe_str (pe_lc (own := [("_law_piece", 2)]) (g := gName 2) (tt := tYes) (by rfl) nd (pi_tup (pe_ix ix_tup (pv 0) pe_int (fun _ _ => rfl))) (blkOk_by (own := [("_law_piece", 2)]) (N := n_law_part_text) (sc := defScope s_law_part_text) (by decide +kernel)) (fun _ _ _ _ _ => pg_name (i := 2) nd rfl (Or.inl rfl)) (fun _ _ _ _ _ => pts_nil) (fun _ _ _ _ _ => (pe_cal O__law_part_text (hr.mono (by omega)) W.g__law_part_text pass0 (pa_cons (pv 2) pa_nil)))))) pe_str))) pss_nil)
    (pss_cons (ps_setLc (i := 1) (own := [("_law_piece", 2)]) (g := gName 2) (tt := tYes) rfl nd rfl rfl (sw_true rfl rfl rfl (by decide +kernel)) (pi_list (pe_cal O__law_pieces (hr.mono (by omega)) W.g__law_pieces pass0 (pa_cons (pv 0) pa_nil))) (blkOk_by (own := [("_law_piece", 2)]) (N := n_law_part_text) (sc := defScope s_law_part_text) (by decide +kernel)) (fun _ _ _ _ _ => pg_name (i := 2) nd rfl (Or.inl rfl)) (fun _ _ _ _ _ => pts_nil) (fun _ _ _ _ _ => (pe_cal O__law_part_text (hr.mono (by omega)) W.g__law_part_text pass0 (pa_cons (pv 2) pa_nil))))
    (pss_cons (ps_if (pt_cmpR op_eq (pe_ix ix_tup (pv 0) pe_int (fun _ _ => rfl)) pe_str (nomark _)) (pss_one (ps_ret (pe_op op_add_str (pe_op op_add_str (pe_op op_add_str (pe_op op_add_str (pe_op op_add_str pe_str (pe_cal O__law_condition_text (hr.mono (by omega)) W.g__law_condition_text pass0 (pa_cons (pe_ix ix_tup (pv 0) pe_int (fun _ _ => rfl)) pa_nil))) pe_str) (pe_ix ix_list (pv 1) pe_int (fun _ _ => rfl))) pe_str) (pe_ix ix_list (pv 1) pe_int (fun _ _ => rfl))))) pss_nil)
    (pss_one (ps_ret (pe_op op_add_str (pe_op op_add_str (pe_op op_add_str pe_str (pe_cal O__law_condition_text (hr.mono (by omega)) W.g__law_condition_text pass0 (pa_cons (pe_ix ix_tup (pv 0) pe_int (fun _ _ => rfl)) pa_nil))) pe_str) (pe_ix ix_list (pv 1) pe_int (fun _ _ => rfl)))))))))), ?_⟩
  obtain ⟨v, c, rfl, hc, hwf, hom, hlen, hq⟩ := h
  cases c with
  | back =>
    unfold PAt at hc
    obtain ⟨a, rfl, ha⟩ := hc
    refine ⟨_, rfl, a, _, _, _, rfl, rfl, sqt ha, at0, rfl, ?_⟩
    rw [sq "back", dec_S, decide_eq_true rfl]
    exact ⟨_, rfl, iteT (hq _ (Same.refl _))⟩
  | row ps =>
    unfold PAt at hc
    obtain ⟨a, t, us, rfl, ha, ht, hA⟩ := hc
    have hA := pAtL_iff.mp hA
    have hL := hA.length
    have hwf : ∀ p ∈ ps, p.wf := (M.wfP_iff ps).mp (by simpa [M.Part.wf] using hwf)
    have hsz : 1 + ((TL.joinL (M.q "; ") (M.shP ps)).length + 1) ≤ 1000000 := by
      have h2 : (M.q "[" ++ (TL.joinL (M.q "; ") (M.shP ps) ++ M.q "]")).length ≤ 1000000 := hlen
      simpa [show (M.q "[").length = 1 from by decide, show (M.q "]").length = 1 from by decide] using h2
    have hus : us.length ≤ 1000000 := by
      have := joinL_len (M.q "; ") (M.shP ps)
      rw [M.shP_map, List.length_map, show (M.q "; ").length = 2 from by decide, ← M.shP_map] at this
      omega
    refine ⟨_, rfl, a, _, _, _, rfl, rfl, sqt ha, at0, rfl, ?_⟩
    rw [sq "back", dec_S, decide_eq_false (by decide)]
    refine ⟨_, rfl, iteF ⟨_, rfl, a, _, _, _, rfl, rfl, sqt ha, at0, by show 3 ≤ sizeLine; decide, fun t9 ht9 => in_words ["leave", "step", "call"] upd_same ⟨_, rfl, ?_⟩⟩⟩
    rw [show (["leave", "step", "call"].any fun s => decide (M.q "row" = M.q s)) = false by decide]
    have s9 : Same H (upd H t9 (.tup [V.str "leave", V.str "step", V.str "call"])) := same_new ht9
    generalize upd H t9 (.tup [V.str "leave", V.str "step", V.str "call"]) = H9 at s9 ⊢
    have ha9 := s9 _ _ ha
    refine iteF ⟨_, rfl, a, _, _, _, rfl, rfl, sqt ha9, at0, rfl, ?_⟩
    rw [sq "row", dec_S, decide_eq_true rfl]
    have ht9b := s9 _ _ ht
    refine ⟨_, rfl, iteT ⟨⟨_, rfl⟩, _, rfl, a, _, _, _, rfl, rfl, sqt ha9, at1, t, rfl, ⟨us, sqt ht9b⟩, fun D hD => ?_⟩⟩
    refine HL.lcT (xs := us) (out := (M.shP ps).map fun y => V.str (S y)) hD (sqt ht9b) (by rw [M.shP_map, List.length_map, List.length_map, hL]) (small hus) (fun k1 x1 y H3 Q3 hx1 hy e3 _ hq3 => ?_) fun H3 e3 hD3 => ?_
    · obtain ⟨c1, hc1, hAt1⟩ := hA.get hx1
      have hmem : c1 ∈ ps := List.mem_of_getElem? hc1
      have hsm : c1.sh ∈ M.shP ps := by
        rw [M.shP_map]
        exact List.mem_map.mpr ⟨c1, hmem, rfl⟩
      have hy : y = V.str (S c1.sh) := by
        rw [M.shP_map, List.getElem?_map, List.getElem?_map, hc1] at hy
        exact (Option.some.inj hy).symm
      subst hy
      refine ⟨_, rfl, x1, c1, rfl, hAt1.keep (.of (s9.trans e3)), hwf c1 hmem, ?_, ?_, hq3⟩
      · have h5 := om_j (b := M.q "; ") hsm
        have h6 : M.om (TL.joinL (M.q "; ") (M.shP ps)) + 3 ≤ M.om (M.Part.row ps).sh := by
          show _ ≤ M.om (M.q "[" ++ (TL.joinL (M.q "; ") (M.shP ps) ++ M.q "]"))
          rw [M.om_app, M.om_app, show M.om (M.q "[") = 3 from by decide]
          omega
        omega
      · have h5 := len_j (b := M.q "; ") hsm
        omega
    · have hj : Txt.join (Str.ofString "; ") ((M.shP ps).map S) = S (TL.joinL (M.q "; ") (M.shP ps)) := by
        rw [ofq]
        exact SX.join_S _ _
      refine ⟨_, D, (M.shP ps).map S, rfl, rfl, .inl (sql (by rw [hD3, List.map_map] <;> rfl)), ?_, ?_⟩
      · have h5 := joinL_len (M.q "; ") (M.shP ps)
        have h6 : (Str.ofString "; ").length = 2 := by rw [ofq, S_len]; rfl
        have h7 : (M.q "; ").length = 2 := by decide
        rw [List.map_map, List.length_map, h6, show (((fun x : Str => x.length) ∘ S) : List Nat → Nat) = fun x => x.length from funext fun x => S_len x]
        rw [h7] at h5
        omega
      · rw [hj]
        refine ⟨_, _, rfl, rfl, ?_, ?_⟩
        · rw [ofq, S_len, S_len]
          refine small ?_
          show 1 + _ ≤ _
          omega
        · refine ⟨_, _, rfl, rfl, ?_, ?_⟩
          · rw [ofq, ofq, S_cat, S_len, S_len]
            refine small ?_
            rw [List.length_append]
            show 1 + _ + 1 ≤ _
            omega
          · show Q _ _
            simp only [oq, S_cat, List.append_assoc]
            exact hq H3 (s9.trans e3)  | whil c1 p =>
    unfold PAt at hc
    obtain ⟨a, u, x, rfl, ha, hu, hx⟩ := hc
    have hwf : c1.wf ∧ p.wf := by simpa [M.Part.wf] using hwf
    have l1 : (M.q "while ").length = 6 := by decide
    have l2 : (M.q ": ").length = 2 := by decide
    have hsz : 6 + (c1.sh.length + (2 + p.sh.length)) ≤ 1000000 := by
      have h2 : (M.q "while " ++ (c1.sh ++ (M.q ": " ++ p.sh))).length ≤ 1000000 := hlen
      simpa only [List.length_append, l1, l2] using h2
    have ho : M.om c1.sh + M.om p.sh + 2 ≤ M.om (M.Part.whil c1 p).sh := by
      show _ ≤ M.om (M.q "while " ++ (c1.sh ++ (M.q ": " ++ p.sh)))
      rw [M.om_app, M.om_app, M.om_app, show M.om (M.q "while ") = 1 from by decide, show M.om (M.q ": ") = 1 from by decide]
      omega
    refine ⟨_, rfl, a, _, _, _, rfl, rfl, sqt ha, at0, rfl, ?_⟩
    rw [sq "back", dec_S, decide_eq_false (by decide)]
    refine ⟨_, rfl, iteF ⟨_, rfl, a, _, _, _, rfl, rfl, sqt ha, at0, by show 3 ≤ sizeLine; decide, fun t9 ht9 => in_words ["leave", "step", "call"] upd_same ⟨_, rfl, ?_⟩⟩⟩
    rw [show (["leave", "step", "call"].any fun s => decide (M.q "while" = M.q s)) = false by decide]
    have s9 : Same H (upd H t9 (.tup [V.str "leave", V.str "step", V.str "call"])) := same_new ht9
    generalize upd H t9 (.tup [V.str "leave", V.str "step", V.str "call"]) = H9 at s9 ⊢
    have ha9 := s9 _ _ ha
    refine iteF ⟨_, rfl, a, _, _, _, rfl, rfl, sqt ha9, at0, rfl, ?_⟩
    rw [sq "row", dec_S, decide_eq_false (by decide)]
    refine ⟨_, rfl, iteF ⟨_, rfl, a, rfl, .inl ⟨u, x, ha9, fun l hl => ?_⟩⟩⟩
    have sl : Same H9 (upd H9 l (.lst [x])) := same_new hl
    have hl1 : upd H9 l (.lst [x]) l = some (.lst [x]) := upd_same
    generalize upd H9 l (.lst [x]) = H10 at sl hl1 ⊢
    have s10 := s9.trans sl
    refine ⟨l, rfl, ⟨[x], sql hl1⟩, fun D hD => ?_⟩
    refine HL.lcL (xs := [x]) (out := [p].map fun z : M.Part => V.str (S z.sh)) hD (sql hl1) rfl (by show 1 ≤ sizeLine; decide) (fun k1 x1 y1 H3 Q3 hx1 hy1 e3 _ hq3 => ?_) fun H1 e1 hD3 => ?_
    · match k1, hx1, hy1 with
      | 0, hx1, hy1 =>
        obtain rfl : x = x1 := by simpa using hx1
        obtain rfl : V.str (S p.sh) = y1 := by simpa using hy1
        exact ⟨_, rfl, x, p, rfl, hx.keep (.of (s10.trans e3)), hwf.2, by omega, by omega, hq3⟩
      | k2 + 1, hx1, _ => simp at hx1
    have s1 := s10.trans e1
    have hD3 : H1 D = some (.lst [V.str (S p.sh)]) := hD3
    have ha1 := s1 _ _ ha
    refine ⟨_, rfl, a, _, _, _, rfl, rfl, sqt ha1, at0, rfl, ?_⟩
    rw [sq "if", dec_S, decide_eq_false (by decide)]
    refine ⟨_, rfl, iteF ⟨_, rfl, a, _, _, _, rfl, rfl, sqt ha1, at1, u, c1, rfl, hu.keep (.of s1), by omega, by omega, fun H2 e2 => ⟨_, _, rfl, rfl, ?_, _, _, rfl, rfl, ?_, ?_⟩⟩⟩
    · simp only [oq, S_len, l1]
      exact small (by omega)
    · simp only [oq, S_cat, S_len, List.length_append, l1, l2]
      exact small (by omega)
    refine ⟨_, rfl, D, _, _, _, rfl, rfl, sql (e2 _ _ hD3), at0, _, _, rfl, rfl, ?_, ?_⟩
    · simp only [oq, S_cat, S_len, List.length_append, l1, l2]
      exact small (by omega)
    · show Q _ _
      simp only [oq, S_cat, List.append_assoc]
      exact hq H2 (s1.trans e2)
  | ite c1 p r =>
    unfold PAt at hc
    obtain ⟨a, u, x, y, rfl, ha, hu, hx, hy⟩ := hc
    have hwf : c1.wf ∧ p.wf ∧ r.wf := by simpa [M.Part.wf] using hwf
    have l1 : (M.q "if ").length = 3 := by decide
    have l2 : (M.q " then ").length = 6 := by decide
    have l3 : (M.q " else ").length = 6 := by decide
    have hsz : 3 + (c1.sh.length + (6 + (p.sh.length + (6 + r.sh.length)))) ≤ 1000000 := by
      have h2 : (M.q "if " ++ (c1.sh ++ (M.q " then " ++ (p.sh ++ (M.q " else " ++ r.sh))))).length ≤ 1000000 := hlen
      simpa only [List.length_append, l1, l2, l3] using h2
    have ho : M.om c1.sh + M.om p.sh + M.om r.sh + 5 ≤ M.om (M.Part.ite c1 p r).sh := by
      show _ ≤ M.om (M.q "if " ++ (c1.sh ++ (M.q " then " ++ (p.sh ++ (M.q " else " ++ r.sh)))))
      rw [M.om_app, M.om_app, M.om_app, M.om_app, M.om_app, show M.om (M.q "if ") = 1 from by decide, show M.om (M.q " then ") = 2 from by decide, show M.om (M.q " else ") = 2 from by decide]
      omega
    refine ⟨_, rfl, a, _, _, _, rfl, rfl, sqt ha, at0, rfl, ?_⟩
    rw [sq "back", dec_S, decide_eq_false (by decide)]
    refine ⟨_, rfl, iteF ⟨_, rfl, a, _, _, _, rfl, rfl, sqt ha, at0, by show 3 ≤ sizeLine; decide, fun t9 ht9 => in_words ["leave", "step", "call"] upd_same ⟨_, rfl, ?_⟩⟩⟩
    rw [show (["leave", "step", "call"].any fun s => decide (M.q "if" = M.q s)) = false by decide]
    have s9 : Same H (upd H t9 (.tup [V.str "leave", V.str "step", V.str "call"])) := same_new ht9
    generalize upd H t9 (.tup [V.str "leave", V.str "step", V.str "call"]) = H9 at s9 ⊢
    have ha9 := s9 _ _ ha
    refine iteF ⟨_, rfl, a, _, _, _, rfl, rfl, sqt ha9, at0, rfl, ?_⟩
    rw [sq "row", dec_S, decide_eq_false (by decide)]
    refine ⟨_, rfl, iteF ⟨_, rfl, a, rfl, .inr ⟨u, x, y, ha9, fun l hl => ?_⟩⟩⟩
    have sl : Same H9 (upd H9 l (.lst [x, y])) := same_new hl
    have hl1 : upd H9 l (.lst [x, y]) l = some (.lst [x, y]) := upd_same
    generalize upd H9 l (.lst [x, y]) = H10 at sl hl1 ⊢
    have s10 := s9.trans sl
    refine ⟨l, rfl, ⟨[x, y], sql hl1⟩, fun D hD => ?_⟩
    refine HL.lcL (xs := [x, y]) (out := [p, r].map fun z : M.Part => V.str (S z.sh)) hD (sql hl1) rfl (by show 2 ≤ sizeLine; decide) (fun k1 x1 y1 H3 Q3 hx1 hy1 e3 _ hq3 => ?_) fun H1 e1 hD3 => ?_
    · match k1, hx1, hy1 with
      | 0, hx1, hy1 =>
        obtain rfl : x = x1 := by simpa using hx1
        obtain rfl : V.str (S p.sh) = y1 := by simpa using hy1
        exact ⟨_, rfl, x, p, rfl, hx.keep (.of (s10.trans e3)), hwf.2.1, by omega, by omega, hq3⟩
      | 1, hx1, hy1 =>
        obtain rfl : y = x1 := by simpa using hx1
        obtain rfl : V.str (S r.sh) = y1 := by simpa using hy1
        exact ⟨_, rfl, y, r, rfl, hy.keep (.of (s10.trans e3)), hwf.2.2, by omega, by omega, hq3⟩
      | k2 + 2, hx1, _ => simp at hx1
    have s1 := s10.trans e1
    have hD3 : H1 D = some (.lst [V.str (S p.sh), V.str (S r.sh)]) := hD3
    have ha1 := s1 _ _ ha
    refine ⟨_, rfl, a, _, _, _, rfl, rfl, sqt ha1, at0, rfl, ?_⟩
    rw [sq "if", dec_S, decide_eq_true rfl]
    refine ⟨_, rfl, iteT ⟨_, rfl, a, _, _, _, rfl, rfl, sqt ha1, at1, u, c1, rfl, hu.keep (.of s1), by omega, by omega, fun H2 e2 => ⟨_, _, rfl, rfl, ?_, _, _, rfl, rfl, ?_, ?_⟩⟩⟩
    · simp only [oq, S_len, l1]
      exact small (by omega)
    · simp only [oq, S_cat, S_len, List.length_append, l1, l2]
      exact small (by omega)
    refine ⟨_, rfl, D, _, _, _, rfl, rfl, sql (e2 _ _ hD3), at0, _, _, rfl, rfl, ?_, _, _, rfl, rfl, ?_, _, rfl, D, _, _, _, rfl, rfl, sql (e2 _ _ hD3), at1, _, _, rfl, rfl, ?_, ?_⟩
    · simp only [oq, S_cat, S_len, List.length_append, l1, l2]
      exact small (by omega)
    · simp only [oq, S_cat, S_len, List.length_append, l1, l2, l3]
      exact small (by omega)
    · simp only [oq, S_cat, S_len, List.length_append, l1, l2, l3]
      exact small (by omega)
    · show Q _ _
      simp only [oq, S_cat, List.append_assoc]
      exact hq H2 (s1.trans e2)
  | leave k1 =>
    unfold PAt at hc
    obtain ⟨a, rfl, ha⟩ := hc
    have hwf : k1 < 1000000000 := by simpa [M.Part.wf] using hwf
    have l1 : (M.q "leave").length = 5 := by decide
    have l2 : (M.q " ").length = 1 := by decide
    have hsz : 5 + (1 + (TL.numL k1).length) ≤ 1000000 := by
      have h2 : (M.q "leave" ++ (M.q " " ++ TL.numL k1)).length ≤ 1000000 := hlen
      simpa only [List.length_append, l1, l2] using h2
    refine ⟨_, rfl, a, _, _, _, rfl, rfl, sqt ha, at0, rfl, ?_⟩
    rw [sq "back", dec_S, decide_eq_false (by decide)]
    refine ⟨_, rfl, iteF ⟨_, rfl, a, _, _, _, rfl, rfl, sqt ha, at0, by show 3 ≤ sizeLine; decide, fun t9 ht9 => in_words ["leave", "step", "call"] upd_same ⟨_, rfl, ?_⟩⟩⟩
    rw [show (["leave", "step", "call"].any fun s => decide (M.q "leave" = M.q s)) = true by decide]
    have s9 : Same H (upd H t9 (.tup [V.str "leave", V.str "step", V.str "call"])) := same_new ht9
    generalize upd H t9 (.tup [V.str "leave", V.str "step", V.str "call"]) = H9 at s9 ⊢
    have ha9 := s9 _ _ ha
    refine iteT ⟨_, rfl, a, _, _, _, rfl, rfl, sqt ha9, at0, rfl, ?_⟩
    rw [sq "step", dec_S, decide_eq_false (by decide)]
    refine ⟨_, rfl, iteF ⟨_, rfl, a, _, _, _, rfl, rfl, sqt ha9, at0, _, _, rfl, rfl, ?_, _, rfl, a, _, _, _, rfl, rfl, sqt ha9, at1, .inl ⟨_, rfl, num_log hwf, _, _, rfl, rfl, ?_, ?_⟩⟩⟩
    · simp only [oq, S_len, l1, l2]
      exact small (by omega)
    · rw [num_str]
      simp only [oq, S_cat, S_len, List.length_append, l1, l2]
      exact small (by omega)
    · show Q _ _
      rw [num_str]
      simp only [oq, S_cat, List.append_assoc]
      exact hq _ s9
  | step x =>
    unfold PAt at hc
    obtain ⟨a, rfl, ha⟩ := hc
    have l1 : (M.q "do ").length = 3 := by decide
    have hsz : 3 + x.length ≤ 1000000 := by
      have h2 : (M.q "do" ++ (M.q " " ++ x)).length ≤ 1000000 := hlen
      have l3 : (M.q "do").length = 2 := by decide
      have l2 : (M.q " ").length = 1 := by decide
      simp only [List.length_append, l3, l2] at h2
      omega
    refine ⟨_, rfl, a, _, _, _, rfl, rfl, sqt ha, at0, rfl, ?_⟩
    rw [sq "back", dec_S, decide_eq_false (by decide)]
    refine ⟨_, rfl, iteF ⟨_, rfl, a, _, _, _, rfl, rfl, sqt ha, at0, by show 3 ≤ sizeLine; decide, fun t9 ht9 => in_words ["leave", "step", "call"] upd_same ⟨_, rfl, ?_⟩⟩⟩
    rw [show (["leave", "step", "call"].any fun s => decide (M.q "step" = M.q s)) = true by decide]
    have s9 : Same H (upd H t9 (.tup [V.str "leave", V.str "step", V.str "call"])) := same_new ht9
    generalize upd H t9 (.tup [V.str "leave", V.str "step", V.str "call"]) = H9 at s9 ⊢
    have ha9 := s9 _ _ ha
    refine iteT ⟨_, rfl, a, _, _, _, rfl, rfl, sqt ha9, at0, rfl, ?_⟩
    rw [sq "step", dec_S, decide_eq_true rfl]
    refine ⟨_, rfl, iteT ⟨_, rfl, a, _, _, _, rfl, rfl, sqt ha9, at1, .inr ⟨_, rfl, _, _, rfl, rfl, ?_, ?_⟩⟩⟩
    · simp only [oq, S_cat, S_len, List.length_append, l1]
      exact small (by omega)
    · show Q _ _
      simp only [oq, S_cat, List.append_assoc]
      have := hq _ s9
      rwa [show (M.Part.step x).sh = M.q "do " ++ x from by
        show M.q "do" ++ (M.q " " ++ x) = _
        rw [← List.append_assoc]
        rfl] at this
  | call x =>
    unfold PAt at hc
    obtain ⟨a, rfl, ha⟩ := hc
    have l1 : (M.q "call").length = 4 := by decide
    have l2 : (M.q " ").length = 1 := by decide
    have hsz : 4 + (1 + x.length) ≤ 1000000 := by
      have h2 : (M.q "call" ++ (M.q " " ++ x)).length ≤ 1000000 := hlen
      simpa only [List.length_append, l1, l2] using h2
    refine ⟨_, rfl, a, _, _, _, rfl, rfl, sqt ha, at0, rfl, ?_⟩
    rw [sq "back", dec_S, decide_eq_false (by decide)]
    refine ⟨_, rfl, iteF ⟨_, rfl, a, _, _, _, rfl, rfl, sqt ha, at0, by show 3 ≤ sizeLine; decide, fun t9 ht9 => in_words ["leave", "step", "call"] upd_same ⟨_, rfl, ?_⟩⟩⟩
    rw [show (["leave", "step", "call"].any fun s => decide (M.q "call" = M.q s)) = true by decide]
    have s9 : Same H (upd H t9 (.tup [V.str "leave", V.str "step", V.str "call"])) := same_new ht9
    generalize upd H t9 (.tup [V.str "leave", V.str "step", V.str "call"]) = H9 at s9 ⊢
    have ha9 := s9 _ _ ha
    refine iteT ⟨_, rfl, a, _, _, _, rfl, rfl, sqt ha9, at0, rfl, ?_⟩
    rw [sq "step", dec_S, decide_eq_false (by decide)]
    refine ⟨_, rfl, iteF ⟨_, rfl, a, _, _, _, rfl, rfl, sqt ha9, at0, _, _, rfl, rfl, ?_, _, rfl, a, _, _, _, rfl, rfl, sqt ha9, at1, .inr ⟨_, rfl, _, _, rfl, rfl, ?_, ?_⟩⟩⟩
    · simp only [oq, S_len, l1, l2]
      exact small (by omega)
    · simp only [oq, S_cat, S_len, List.length_append, l1, l2]
      exact small (by omega)
    · show Q _ _
      simp only [oq, S_cat, List.append_assoc]
      exact hq _ s9
end
end K91
end

section
set_option Elab.async false
set_option linter.all false
set_option maxRecDepth 100000
set_option maxHeartbeats 4000000
/-! k91: the bag. -/
namespace K91
open PySem PySem.Spec PyProof.Rows L2 He HL
section
variable {w : World} {K : PySem.W.Frag} {mg : Str → Option Value} {base : Heap}
/-- the bag of drawn numbers at b -/
def Bag (H : Hp) (b c : Addr) : Prop := ∃ (d m : Int) (k : Nat) (ks : List Int), H b = some (.lst [.int d, .int m, .int (k : Nat), .ref c]) ∧ H c = some (.lst (ks.map V.int)) ∧ b ≠ c ∧ ks.length ≤ 1000000
theorem Bag.keep {H H' : Hp} {b c : Addr} (h : Bag H b c) (e : Same H H') : Bag H' b c := let ⟨d, m, k, ks, h1, h2, h3, h4⟩ := h; ⟨d, m, k, ks, e _ _ h1, e _ _ h2, h3, h4⟩
theorem Bag.put {H : Hp} {b c D : Addr} {o : HO} (h : Bag H b c) (n1 : D ≠ b) (n2 : D ≠ c) : Bag (upd H D o) b c := let ⟨d, m, k, ks, h1, h2, h3, h4⟩ := h; ⟨d, m, k, ks, by rw [upd_ne n1.symm]; exact h1, by rw [upd_ne n2.symm]; exact h2, h3, h4⟩
theorem Bag.ne {H : Hp} {b c D : Addr} (h : Bag H b c) (n : H D = none) : D ≠ b ∧ D ≠ c := let ⟨d, m, k, ks, h1, h2, h3, h4⟩ := h; ⟨(ne_of_none h1 n).symm, (ne_of_none h2 n).symm⟩
theorem Bag.lst {H : Hp} {b c : Addr} (h : Bag H b c) : ∃ xs, H b = some (.lst xs) := let ⟨_, _, _, _, h1, _⟩ := h; ⟨_, h1⟩
theorem Bag.tup {H H' : Hp} {b c : Addr} (h : Bag H b c) (e : SameB b H H') : TupK H H' := let ⟨_, hx⟩ := h.lst; e.tup hx (fun xs q => nomatch q)
abbrev n_law_bag : List Str := ["_law_script", "_law_cell"]
theorem sc_law_bag : FnScope n_law_bag ["_law_script"] (defScope s_law_bag) := ⟨rfl, rfl, rfl, by decide +kernel, rfl, by decide +kernel, by decide +kernel⟩
theorem bi_law_bag : ∀ (kV doc pm : Value) (an : Option Addr) (cdv ct : Value) (us : List Value), us.length = 1 → bindArgs (PySem.W.fnOf d_law_bag.name d_law_bag.qual d_law_bag.params d_law_bag.body d_law_bag.scope .none kV doc pm an cdv ct) ⟨us, []⟩ = pure ([("_law_script" : Str)].zip us) := fun kV doc pm an cdv ct us hu => by
  match us, hu with
  | [u0], _ => rfl
def spBag (K : PySem.W.Frag) : Sp := fun vs H Q _ => ∃ (a : Addr) (ns : List Int), vs = [.ref a] ∧ SqL K H a (ns.map V.int) ∧ ns.length ≤ 63 ∧ ∀ b c H', Same H H' → H b = none → Bag H' b c → Q (.ref b) H'
theorem o_bag (W : Wl K mg) : OkD w K mg base CX0 1 d_law_bag ["_law_script"] (spBag K) := by
  refine HL.ok_of0 W.D_law_bag sc_law_bag (fun vs H Q E ⟨_, _, h, _⟩ => by rw [h]; rfl) bi_law_bag fun cdv A outer s H vs Q E hr h => ?_
  have nd := sc_law_bag.nd
  refine ⟨_, (pss_one (ps_ret (pe_lst (pa_cons pe_int (pa_cons pe_int (pa_cons pe_int (pa_cons (pe_lc (own := [("_law_cell", 1)]) (g := gName 1) (tt := tYes) (by rfl) nd (pi_list (pe_slice sl_list (pv 0) po_none (po_some pe_int))) (blkOk_by (own := [("_law_cell", 1)]) (N := n_law_bag) (sc := defScope s_law_bag) (by decide +kernel)) (fun _ _ _ _ _ => pg_name (i := 1) nd rfl (Or.inl rfl)) (fun _ _ _ _ _ => pts_nil) (fun _ _ _ _ _ => (pe_callB call_abs (by rfl) W.f_abs (by decide +kernel) (pa_cons (pv 1) pa_nil)))) pa_nil))))))), ?_⟩
  obtain ⟨a, ns, rfl, ha, hn, hq⟩ := h
  refine ⟨_, rfl, _, rfl, a, _, rfl, ha, fun p hp => ?_⟩
  have s1 : Same H (upd H p (.lst (cutV (ns.map V.int) none (some 63)))) := same_new hp
  have hp1 : upd H p (.lst (cutV (ns.map V.int) none (some 63))) p = some (.lst (cutV (ns.map V.int) none (some 63))) := upd_same
  generalize upd H p (.lst (cutV (ns.map V.int) none (some 63))) = H1 at s1 hp1 ⊢
  have hcut : cutV (ns.map V.int) none (some 63) = ns.map V.int := by
    unfold cutV
    rw [show (63 : Int) = ((63 : Nat) : Int) from rfl, HT.sIx_nat, HT.sIx_none, List.length_map, Nat.sub_zero, List.drop_zero, List.take_of_length_le (by rw [List.length_map]; omega)]
  rw [hcut] at hp1
  refine ⟨p, rfl, ⟨_, sql hp1⟩, fun D hD => ?_⟩
  refine HL.lcL (xs := ns.map V.int) (out := ns.map fun z => V.int (if z < 0 then -z else z)) hD (sql hp1) (by rw [List.length_map, List.length_map]) (by rw [List.length_map]; exact small (by omega)) (fun k1 x1 y1 H3 Q3 hx1 hy1 e3 _ hq3 => ?_) fun H2 e2 hD2 => ⟨by show 4 ≤ sizeLine; decide, fun b hb => ?_⟩
  · rw [List.getElem?_map] at hx1 hy1
    cases hz : ns[k1]? with
    | none =>
      rw [hz] at hx1
      cases hx1
    | some z =>
      rw [hz] at hx1 hy1
      cases hx1
      cases hy1
      exact ⟨_, rfl, z, rfl, hq3 _ (Same.refl _)⟩
  · have e12 := s1.trans e2
    have nb := ne_of_none hD2 hb
    refine hq b D _ (e12.trans (same_new hb)) (e12.free hb) ⟨0, 1234567891, 0, ns.map fun z => if z < 0 then -z else z, upd_same, ?_, nb.symm, by rw [List.length_map]; omega⟩
    rw [upd_ne nb, hD2, List.map_map]
    rfl
abbrev n_law_take : List Str := ["_law_bag_here", "_law_many", "_law_cell", "_law_mixed", "_law_value", "_law_begin", "_law_second"]
theorem sc_law_take : FnScope n_law_take ["_law_bag_here", "_law_many"] (defScope s_law_take) := ⟨rfl, rfl, rfl, by decide +kernel, rfl, by decide +kernel, by decide +kernel⟩
theorem bi_law_take : ∀ (kV doc pm : Value) (an : Option Addr) (cdv ct : Value) (us : List Value), us.length = 2 → bindArgs (PySem.W.fnOf d_law_take.name d_law_take.qual d_law_take.params d_law_take.body d_law_take.scope .none kV doc pm an cdv ct) ⟨us, []⟩ = pure ([("_law_bag_here" : Str), ("_law_many" : Str)].zip us) := fun kV doc pm an cdv ct us hu => by
  match us, hu with
  | [u0, u1], _ => rfl
def spTake : Sp := fun vs H Q _ => ∃ b c many, vs = [.ref b, .int (many : Nat)] ∧ 0 < many ∧ many < 1000000000 ∧ Bag H b c ∧ ∀ n H', n < many → SameB b H H' → Bag H' b c → Q (.int (n : Nat)) H'
theorem fm_nat {i : Int} {n : Nat} (h : 0 < n) : ∃ k : Nat, k < n ∧ i.fmod (n : Int) = (k : Int) := by
  refine ⟨(i.fmod (n : Int)).toNat, ?_, ?_⟩
  · rw [Int.fmod_eq_emod_of_nonneg i (by omega)]
    have h1 := Int.emod_lt_of_pos i (show (0 : Int) < n by omega)
    have h2 := Int.emod_nonneg i (show (n : Int) ≠ 0 by omega)
    omega
  · rw [Int.fmod_eq_emod_of_nonneg i (by omega)]
    have h2 := Int.emod_nonneg i (show (n : Int) ≠ 0 by omega)
    omega
theorem seq_set {v : V} {i : Nat} {b : TS} {D : Ends} {σ : L2.St} {H : Hp} (h : b D (σ.set i (some v)) H) : tSeq (tAsg (tC v) (gName i)) b D σ H := h
theorem o_take (W : Wl K mg) : OkD w K mg base CX0 1 d_law_take ["_law_bag_here", "_law_many"] spTake := by
  refine HL.ok_of0 W.D_law_take sc_law_take (fun vs H Q E ⟨_, _, _, h, _⟩ => by rw [h]; rfl) bi_law_take fun cdv A outer s H vs Q E hr h => ?_
  have nd := sc_law_take.nd
  refine ⟨_, (pss_cons (ps_if (pt_cmpR op_eq (pe_ix ix_list (pv 0) pe_int (fun _ _ => rfl)) pe_int (nomark _)) (pss_cons (ps_set (i := 2) nd rfl (Or.inl rfl) pe_int)
      (pss_cons (ps_if (pt_cmpR op_lt (pe_ix ix_list (pv 0) pe_int (fun _ _ => rfl)) (pe_callB call_len_seq (by rfl) W.f_len (by decide +kernel) (pa_cons (pe_ix ix_list (pv 0) pe_int (fun _ _ => rfl)) pa_nil)) (nomark _)) (pss_one (ps_set (i := 2) nd rfl (Or.inl rfl) (pe_ix ix_list (pe_ix ix_list (pv 0) pe_int (fun _ _ => rfl)) (pe_ix ix_list (pv 0) pe_int (fun _ _ => rfl)) (fun _ _ => rfl)))) pss_nil)
      (pss_cons (XP.ps_augL (pv 0) pe_int pe_int)
      (pss_cons (ps_if (pt_cmpR op_ge (pv 2) pe_int (nomark _)) (pss_one (ps_asg (pv 2) (pg_sub (pv 0) pe_int set_list))) pss_nil)
      (pss_cons (ps_set (i := 3) nd rfl (Or.inl rfl) (pe_op op_add (pe_op op_add (pe_op op_mul (pe_ix ix_list (pv 0) pe_int (fun _ _ => rfl)) pe_int) (pe_op op_modN (pe_callTy call_int1 (by rfl) W.f_int (by decide +kernel) (pa_cons (pv 2) pa_nil)) pe_int)) (pe_op op_mul pe_int (pe_ix ix_list (pv 0) pe_int (fun _ _ => rfl)))))
      (pss_one (ps_asg (pe_op op_modN (pe_callTy call_int1 (by rfl) W.f_int (by decide +kernel) (pa_cons (pv 3) pa_nil)) pe_int) (pg_sub (pv 0) pe_int set_list)))))))) pss_nil)
    (pss_cons (ps_if (pt_cmpR op_gt (pe_ix ix_list (pv 0) pe_int (fun _ _ => rfl)) pe_int (nomark _)) (pss_cons (ps_set (i := 4) nd rfl (Or.inl rfl) (pe_op op_modN (pe_callTy call_int1 (by rfl) W.f_int (by decide +kernel) (pa_cons (pe_ix ix_list (pv 0) pe_int (fun _ _ => rfl)) pa_nil)) (pv 1)))
      (pss_cons (ps_asg (pe_op op_fdivN (pe_ix ix_list (pv 0) pe_int (fun _ _ => rfl)) (pv 1)) (pg_sub (pv 0) pe_int set_list))
      (pss_one (ps_ret (pv 4))))) pss_nil)
    (pss_cons (ps_set (i := 5) nd rfl (Or.inl rfl) (pe_op op_modN (pe_callTy call_int1 (by rfl) W.f_int (by decide +kernel) (pa_cons (pe_op op_mul (pe_op op_add (pe_ix ix_list (pv 0) pe_int (fun _ _ => rfl)) pe_int) pe_int) pa_nil)) pe_int))
    (pss_cons (ps_set (i := 6) nd rfl (Or.inl rfl) (pe_op op_modN (pe_callTy call_int1 (by rfl) W.f_int (by decide +kernel) (pa_cons (pe_op op_mul (pe_op op_modN (pe_callTy call_int1 (by rfl) W.f_int (by decide +kernel) (pa_cons (pe_op op_mul (pv 5) (pv 5)) pa_nil)) pe_int) pe_int) pa_nil)) pe_int))
    (pss_one (ps_ret (pe_op op_modN (pe_callTy call_int1 (by rfl) W.f_int (by decide +kernel) (pa_cons (pe_op op_fdivN (pv 6) pe_int) pa_nil)) (pv 1)))))))), ?_⟩
  obtain ⟨b, c, many, rfl, hm0, hm1, hB, hq⟩ := h
  refine HL.seq_cont (R := fun σ' H' => ∃ x2 x3, σ' = [some (.ref b), some (.int (many : Nat)), x2, x3, none, none, none] ∧ SameB b H H' ∧ Bag H' b c) (fun N hN => ?_) ?_
  · obtain ⟨d, m, k, ks, hb, hc, nbc, hks⟩ := id hB
    refine ⟨_, rfl, b, _, _, _, rfl, rfl, sql hb, at0, rfl, _, rfl, ?_⟩
    by_cases hd : d = 0
    · refine iteE true (decide_eq_true (by rw [hd])) (iteT ?_)
      refine seq_set ?_
      refine HL.seq_cont (R := fun σ' H' => ∃ z : Int, σ' = [some (.ref b), some (.int (many : Nat)), some (.int z), none, none, none, none] ∧ H' = H) (fun N2 hN2 => ?_) ?_
      · refine ⟨_, rfl, b, _, _, _, rfl, rfl, sql hb, at2, _, rfl, b, _, _, _, rfl, rfl, sql hb, at3, c, _, rfl, .inl (sql hc), _, _, rfl, rfl, _, rfl, ite2 (fun h1 => ?_) (fun h1 => ?_)⟩
        · have h1 : k < ks.length := by
            have := of_decide_eq_true h1
            rw [List.length_map] at this
            omega
          have hk : (ks.map V.int)[k]? = some (V.int ks[k]) := by
            rw [List.getElem?_map, List.getElem?_eq_getElem h1]
            rfl
          exact ⟨_, rfl, b, _, _, _, rfl, rfl, sql hb, at3, _, rfl, b, _, _, _, rfl, rfl, sql hb, at2, c, _, _, _, rfl, rfl, sql hc, atI_nat hk, hN2 _ _ ⟨_, rfl, rfl⟩⟩
        · exact hN2 _ _ ⟨0, rfl, rfl⟩
      · rintro σ' H' ⟨z, rfl, rfl⟩
        refine ⟨_, rfl, b, _, _, _, rfl, rfl, sql hb, at2, _, _, rfl, rfl, b, _, _, _, rfl, rfl, hb, rfl, ?_⟩
        have sb : SameB b H' (upd H' b (.lst [.int d, .int m, .int ((k : Nat) + 1), .ref c])) := (SameB.refl b H').upd
        have hb1 : upd H' b (.lst [.int d, .int m, .int ((k : Nat) + 1), .ref c]) b = some (.lst [.int d, .int m, .int ((k + 1 : Nat) : Int), .ref c]) := upd_same
        have hc1 : upd H' b (.lst [.int d, .int m, .int ((k : Nat) + 1), .ref c]) c = some (.lst (ks.map V.int)) := by rw [upd_ne nbc.symm]; exact hc
        dsimp only
        show tSeq (tIfS _ _ _) _ _ _ (upd H' b (.lst [.int d, .int m, .int ((k : Nat) + 1), .ref c]))
        generalize upd H' b (.lst [.int d, .int m, .int ((k : Nat) + 1), .ref c]) = H1 at sb hb1 hc1 ⊢
        refine HL.seq_cont (R := fun σ' H2 => ∃ d2 : Int, σ' = [some (.ref b), some (.int (many : Nat)), some (.int z), none, none, none, none] ∧ SameB b H' H2 ∧ H2 b = some (.lst [.int d2, .int m, .int ((k + 1 : Nat) : Int), .ref c]) ∧ H2 c = some (.lst (ks.map V.int))) (fun N2 hN2 => ?_) ?_
        · refine ⟨_, rfl, _, _, rfl, rfl, _, rfl, ite2 (fun h1 => ?_) (fun h1 => ?_)⟩
          · refine ⟨_, rfl, _, rfl, b, _, _, _, rfl, rfl, hb1, rfl, hN2 _ _ ⟨z, rfl, sb.upd, upd_same, by rw [upd_ne nbc.symm]; exact hc1⟩⟩
          · exact hN2 _ _ ⟨d, rfl, sb, hb1, hc1⟩
        · rintro σ2 H2 ⟨d2, rfl, sb2, hb2, hc2⟩
          refine ⟨_, rfl, b, _, _, _, rfl, rfl, sql hb2, at1, _, _, rfl, rfl, .inr ⟨by decide, by decide⟩, _, rfl, .inl ⟨_, rfl, _, _, rfl, rfl, (by show (2147483647 : Int) ≠ 0; decide), _, _, rfl, rfl, _, rfl, b, _, _, _, rfl, rfl, sql hb2, at2, _, _, rfl, rfl, .inl ⟨by decide, by decide⟩, _, _, rfl, rfl, ?_⟩⟩
          refine ⟨_, rfl, .inl ⟨_, rfl, _, _, rfl, rfl, (by show (2147483647 : Int) ≠ 0; decide), _, rfl, b, _, _, _, rfl, rfl, hb2, rfl, hN _ _ ⟨_, _, rfl, sb2.upd, ?_⟩⟩⟩
          exact ⟨d2, _, k + 1, ks, upd_same, by rw [upd_ne nbc.symm]; exact hc2, nbc, hks⟩
    · refine iteE false (decide_eq_false (fun z => hd (by injection z))) (iteF (hN _ _ ⟨none, none, rfl, SameB.refl b H, hB⟩))
  · rintro σ1 H1 ⟨x2, x3, rfl, s1, hB1⟩
    obtain ⟨d, m, k, ks, hb, hc, nbc, hks⟩ := id hB1
    refine ⟨_, rfl, b, _, _, _, rfl, rfl, sql hb, at0, _, _, rfl, rfl, _, rfl, ite2 (fun h1 => ?_) (fun h1 => ?_)⟩
    · obtain ⟨n, hn, en⟩ := fm_nat (i := d) hm0
      refine ⟨_, rfl, b, _, _, _, rfl, rfl, sql hb, at0, .inl ⟨_, rfl, _, rfl, _, _, rfl, rfl, by show ((many : Nat) : Int) ≠ 0; omega, ?_⟩⟩
      refine ⟨_, rfl, b, _, _, _, rfl, rfl, sql hb, at0, _, rfl, _, _, rfl, rfl, ⟨by show ((many : Nat) : Int) ≠ 0; omega, by show ((many : Nat) : Int).natAbs < _; omega⟩, _, rfl, b, _, _, _, rfl, rfl, hb, rfl, ?_⟩
      refine ⟨_, rfl, ?_⟩
      have := hq n (upd H1 b (.lst [.int (d.fdiv (many : Nat)), .int m, .int (k : Nat), .ref c])) hn s1.upd ⟨_, m, k, ks, upd_same, by rw [upd_ne nbc.symm]; exact hc, nbc, hks⟩
      rw [← en] at this
      exact this
    · obtain ⟨n1, hn1, en1⟩ := fm_nat (i := (m + 1) * 39373) (n := 1000000007) (by decide)
      refine ⟨_, rfl, b, _, _, _, rfl, rfl, sql hb, at1, _, _, rfl, rfl, _, _, rfl, rfl, .inr ⟨by decide, by decide⟩, .inl ⟨_, rfl, _, _, rfl, rfl, (by show (1000000007 : Int) ≠ 0; decide), ?_⟩⟩
      have en1' : V.int (((m + 1) * 39373).fmod 1000000007) = V.int (n1 : Nat) := congrArg V.int en1
      refine ⟨_, rfl, _, rfl, _, _, en1', en1', .inl ⟨by omega, by omega⟩, .inl ⟨_, rfl, _, _, rfl, rfl, (by show (998244353 : Int) ≠ 0; decide), _, _, rfl, rfl, .inr ⟨by decide, by decide⟩, .inl ⟨_, rfl, _, _, rfl, rfl, (by show (998244353 : Int) ≠ 0; decide), ?_⟩⟩⟩
      obtain ⟨n, hn, en⟩ := fm_nat (i := (((((n1 : Nat) : Int) * ((n1 : Nat) : Int)).fmod 998244353 * 30011).fmod 998244353).fdiv 7) hm0
      refine ⟨_, rfl, _, _, rfl, rfl, ⟨by decide, by decide⟩, .inl ⟨_, rfl, _, rfl, _, _, rfl, rfl, by show ((many : Nat) : Int) ≠ 0; omega, ?_⟩⟩
      have := hq n H1 hn s1 hB1
      rw [← en] at this
      exact this
abbrev n_law_one : List Str := ["_law_bag_here", "_law_things"]
theorem sc_law_one : FnScope n_law_one ["_law_bag_here", "_law_things"] (defScope s_law_one) := ⟨rfl, rfl, rfl, by decide +kernel, rfl, by decide +kernel, by decide +kernel⟩
theorem bi_law_one : ∀ (kV doc pm : Value) (an : Option Addr) (cdv ct : Value) (us : List Value), us.length = 2 → bindArgs (PySem.W.fnOf d_law_one.name d_law_one.qual d_law_one.params d_law_one.body d_law_one.scope .none kV doc pm an cdv ct) ⟨us, []⟩ = pure ([("_law_bag_here" : Str), ("_law_things" : Str)].zip us) := fun kV doc pm an cdv ct us hu => by
  match us, hu with
  | [u0, u1], _ => rfl
def spOne (K : PySem.W.Frag) : Sp := fun vs H Q _ => ∃ b c a xs, vs = [.ref b, .ref a] ∧ Bag H b c ∧ 0 < xs.length ∧ xs.length < 1000000 ∧ ((∀ H', SameB b H H' → SqL K H' a xs) ∨ (∀ H', SameB b H H' → SqT K H' a xs)) ∧ ∀ x ∈ xs, ∀ H', SameB b H H' → Bag H' b c → Q x H'
theorem o_one (W : Wl K mg) : OkD w K mg base CX0 2 d_law_one ["_law_bag_here", "_law_things"] (spOne K) := by
  have O__law_take := o_take (w := w) (base := base) W
  refine HL.ok_of0 W.D_law_one sc_law_one (fun vs H Q E ⟨_, _, _, _, h, _⟩ => by rw [h]; rfl) bi_law_one fun cdv A outer s H vs Q E hr h => ?_
  have nd := sc_law_one.nd
  refine ⟨_, (pss_one (ps_ret (pe_ix ix_seq (pv 1) (pe_cal O__law_take (hr.mono (by omega)) W.g__law_take pass0 (pa_cons (pv 0) (pa_cons (pe_callB call_len (by rfl) W.f_len (by decide +kernel) (pa_cons (pv 1) pa_nil)) pa_nil))) (fun _ _ => rfl)))), ?_⟩
  obtain ⟨b, c, a, xs, rfl, hB, h0, h1, hx, hq⟩ := h
  rcases hx with hx | hx
  · refine ⟨_, rfl, _, rfl, _, rfl, _, xs.length, rfl, .inl ⟨xs, hx H (SameB.refl b H), rfl⟩, b, c, xs.length, rfl, h0, by omega, hB, fun n H' hn e hB' => ?_⟩
    exact .inl ⟨a, xs, _, xs[n], rfl, rfl, hx H' e, atI_nat (List.getElem?_eq_getElem hn), hq _ (List.getElem_mem hn) H' e hB'⟩
  · refine ⟨_, rfl, _, rfl, _, rfl, _, xs.length, rfl, .inr ⟨xs, hx H (SameB.refl b H), rfl⟩, b, c, xs.length, rfl, h0, by omega, hB, fun n H' hn e hB' => ?_⟩
    exact .inr (.inl ⟨a, xs, _, xs[n], rfl, rfl, hx H' e, atI_nat (List.getElem?_eq_getElem hn), hq _ (List.getElem_mem hn) H' e hB'⟩)
end
end K91
end

section
set_option Elab.async false
set_option linter.all false
set_option maxRecDepth 100000
set_option maxHeartbeats 4000000
/-! k91: the names drawn. -/
namespace K91
open PySem PySem.Spec PyProof.Rows L2 He HL
def menuS : List String := ["yes", "no", "ask", "not", "all", "any", "step", "row", "if", "while", "leave", "back", "call", "then", "else", "do"]
theorem menu_split : Txt.split (Str.ofString "yes no ask not all any step row if while leave back call then else do") (Str.ofString " ") = menuS.map Str.ofString := by decide +kernel
theorem menu_nm : ∀ s ∈ menuS, M.Nm (M.q s) := by
  have h : (menuS.all fun s => decide (0 < (M.q s).length) && decide ((M.q s).length ≤ 8) && (M.q s).all M.isLet) = true := by decide +kernel
  intro s hs
  exact M.nm_q (List.all_eq_true.mp h s hs)
/-- a name as a text -/
def NmS (x : Str) : Prop := ∃ n, x = S n ∧ M.Nm n
theorem menu_nmS : ∀ x ∈ menuS.map Str.ofString, NmS x := fun x hx => by
  obtain ⟨s, hs, rfl⟩ := List.mem_map.mp hx
  exact ⟨M.q s, oq s, menu_nm s hs⟩
theorem cutV_map {α : Type} (f : α → V) (l : List α) (lo hi : Option Int) : ∃ l' : List α, cutV (l.map f) lo hi = l'.map f ∧ (∀ x ∈ l', x ∈ l) := by
  refine ⟨(l.drop (HT.sIx (l.map f).length 0 lo)).take (HT.sIx (l.map f).length (l.map f).length hi - HT.sIx (l.map f).length 0 lo), ?_, fun x hx => List.mem_of_mem_drop (List.mem_of_mem_take hx)⟩
  unfold cutV
  rw [List.map_take, List.map_drop]
theorem cutV_to {α : Type} (f : α → V) (l : List α) (k : Nat) : cutV (l.map f) none (some (k : Int)) = (l.take k).map f := by
  unfold cutV
  rw [HT.sIx_none, HT.sIx_nat, List.drop_zero, Nat.sub_zero, ← List.map_take, List.length_map]
  congr 1
  apply List.ext_getElem?
  intro i
  simp only [List.getElem?_take]
  by_cases h : i < l.length
  · by_cases h2 : i < k
    · rw [if_pos (by omega), if_pos h2]
    · rw [if_neg (by omega), if_neg h2]
  · rw [List.getElem?_eq_none (by omega)]
    simp
theorem strs_of : ∀ {l : List Str}, (∀ x ∈ l, NmS x) → ∃ ns : List (List Nat), l.map V.str = ns.map (fun n => V.str (S n)) ∧ ∀ n ∈ ns, M.Nm n
  | [], _ => ⟨[], rfl, fun n hn => by simp at hn⟩
  | x :: l, h => by
    obtain ⟨n, rfl, hn⟩ := h x (by simp)
    obtain ⟨ns, e, hns⟩ := strs_of (l := l) fun y hy => h y (by simp [hy])
    refine ⟨n :: ns, by rw [List.map_cons, List.map_cons, e], fun m hm => ?_⟩
    rcases List.mem_cons.mp hm with rfl | hm
    · exact hn
    · exact hns m hm
theorem let_at : ∀ j, j < 26 → M.LET[j]? = some (M.LET.getD j 0) ∧ M.isLet (M.LET.getD j 0) = true := by decide +kernel
section
variable {w : World} {K : PySem.W.Frag} {mg : Str → Option Value} {base : Heap}
/-- a tuple of names -/
def Names (H : Hp) (t : Addr) (ns : List (List Nat)) : Prop := H t = some (.tup (ns.map fun n => V.str (S n))) ∧ (∀ n ∈ ns, M.Nm n) ∧ ns.length ≤ 10
abbrev n_law_names : List Str := ["_law_bag_here", "_law_many", "_law_menu", "_law_way", "_law_turn", "_law_letters", "_law_stem", "_law_k"]
theorem sc_law_names : FnScope n_law_names ["_law_bag_here", "_law_many"] (defScope s_law_names) := ⟨rfl, rfl, rfl, by decide +kernel, rfl, by decide +kernel, by decide +kernel⟩
theorem bi_law_names : ∀ (kV doc pm : Value) (an : Option Addr) (cdv ct : Value) (us : List Value), us.length = 2 → bindArgs (PySem.W.fnOf d_law_names.name d_law_names.qual d_law_names.params d_law_names.body d_law_names.scope .none kV doc pm an cdv ct) ⟨us, []⟩ = pure ([("_law_bag_here" : Str), ("_law_many" : Str)].zip us) := fun kV doc pm an cdv ct us hu => by
  match us, hu with
  | [u0, u1], _ => rfl
def spNames : Sp := fun vs H Q _ => ∃ b c many, vs = [.ref b, .int (many : Nat)] ∧ many ≤ 8 ∧ Bag H b c ∧ ∀ t ns H', SameB b H H' → Bag H' b c → Names H' t ns → Q (.ref t) H'
theorem o_names (W : Wl K mg) : OkD w K mg base CX0 2 d_law_names ["_law_bag_here", "_law_many"] spNames := by
  have O__law_take := o_take (w := w) (base := base) W
  refine HL.ok_of0 W.D_law_names sc_law_names (fun vs H Q E ⟨_, _, _, h, _⟩ => by rw [h]; rfl) bi_law_names fun cdv A outer s H vs Q E hr h => ?_
  have nd := sc_law_names.nd
  refine ⟨_, (pss_cons (ps_set (i := 2) nd rfl (Or.inl rfl) (pe_split pe_str pe_str))
    (pss_cons (ps_asg (pe_tup (pa_cons (pe_cal O__law_take (hr.mono (by omega)) W.g__law_take pass0 (pa_cons (pv 0) (pa_cons pe_int pa_nil))) (pa_cons (pe_cal O__law_take (hr.mono (by omega)) W.g__law_take pass0 (pa_cons (pv 0) (pa_cons pe_int pa_nil))) pa_nil))) (pg_tup (by rfl) (pgs_cons (pg_name (i := 3) nd rfl (Or.inl rfl)) (pgs_cons (pg_name (i := 4) nd rfl (Or.inr rfl)) pgs_nil))))
    (pss_cons (ps_if (pt_cmpR op_eq (pv 3) pe_int (nomark _)) (pss_one (ps_ret (pe_callTy call_tuple_of (by rfl) W.f_tuple (by decide +kernel) (pa_cons (pe_callB cr_sortedS (by rfl) W.f_sorted (by decide +kernel) (pa_cons (pe_slice sl_list (pe_op op_cat (pe_slice sl_list (pv 2) (po_some (pv 4)) po_none) (pe_slice sl_list (pv 2) po_none (po_some (pv 4)))) po_none (po_some (pv 1))) pa_nil)) pa_nil)))) pss_nil)
    (pss_cons (ps_if (pt_cmpR op_eq (pv 3) pe_int (nomark _)) (pss_one (ps_ret (pe_callTy call_tuple_of (by rfl) W.f_tuple (by decide +kernel) (pa_cons (pe_lc (own := [("_law_k", 7)]) (g := gName 7) (tt := tYes) (by rfl) nd (pi_range1 (by rfl) W.f_range (pa_cons (pv 1) pa_nil)) (blkOk_by (own := [("_law_k", 7)]) (N := n_law_names) (sc := defScope s_law_names) (by decide +kernel)) (fun _ _ _ _ _ => pg_name (i := 7) nd rfl (Or.inl rfl)) (fun _ _ _ _ _ => pts_nil) (fun _ _ _ _ _ => (pe_slice sl_str pe_str po_none (po_some (pe_op op_add (pv 7) pe_int))))) pa_nil)))) pss_nil)
    (pss_cons (ps_set (i := 5) nd rfl (Or.inr rfl) pe_str)
    (pss_cons (ps_set (i := 6) nd rfl (Or.inr rfl) (pe_ix ix_list (pe_lst (pa_cons pe_str (pa_cons pe_str (pa_cons (pe_ix ix_str (pv 5) (pv 4) (fun _ _ => rfl)) (pa_cons pe_str pa_nil))))) (pe_op op_sub (pv 3) pe_int) (fun _ _ => rfl)))
    (pss_one (ps_ret (pe_callTy call_tuple_of (by rfl) W.f_tuple (by decide +kernel) (pa_cons (pe_callB cr_sortedS (by rfl) W.f_sorted (by decide +kernel) (pa_cons (pe_lc (own := [("_law_k", 7)]) (g := gName 7) (tt := tYes) (by rfl) nd (pi_range1 (by rfl) W.f_range (pa_cons (pv 1) pa_nil)) (blkOk_by (own := [("_law_k", 7)]) (N := n_law_names) (sc := defScope s_law_names) (by decide +kernel)) (fun _ _ _ _ _ => pg_name (i := 7) nd rfl (Or.inl rfl)) (fun _ _ _ _ _ => pts_nil) (fun _ _ _ _ _ => (pe_op op_add_str (pv 6) (pe_ix ix_str (pv 5) (pe_op op_modN (pe_callTy call_int1 (by rfl) W.f_int (by decide +kernel) (pa_cons (pe_op op_add (pv 4) (pe_op op_mul pe_int (pv 7))) pa_nil)) pe_int) (fun _ _ => rfl))))) pa_nil)) pa_nil)))))))))), ?_⟩
  obtain ⟨b, c, many, rfl, hm, hB, hq⟩ := h
  -- the last step: a tuple of a list of names
  have fin : ∀ (H1 : Hp) (l : Addr) (ss : List Str), SameB b H H1 → Bag H1 b c → H1 l = some (.lst (ss.map V.str)) → (∀ x ∈ ss, NmS x) → ss.length ≤ 10 → ∀ t, H1 t = none → Q (.ref t) (upd H1 t (.tup (ss.map V.str))) := by
    intro H1 l ss e1 hB1 hl hss hlen t ht
    obtain ⟨ns, e2, hns⟩ := strs_of hss
    refine hq t ns _ (e1.new ht) (hB1.keep (same_new ht)) ⟨by rw [upd_same, e2], hns, ?_⟩
    have := congrArg List.length e2
    rw [List.length_map, List.length_map] at this
    omega
  refine ⟨⟨_, rfl⟩, _, _, rfl, rfl, by decide +kernel, by rw [ofq, S_len]; exact small (by decide), fun p hp => ?_⟩
  rw [menu_split]
  have sp : Same H (upd H p (.lst ((menuS.map Str.ofString).map V.str))) := same_new hp
  have hp1 : upd H p (.lst ((menuS.map Str.ofString).map V.str)) p = some (.lst ((menuS.map Str.ofString).map V.str)) := upd_same
  generalize upd H p (.lst ((menuS.map Str.ofString).map V.str)) = H1 at sp hp1 ⊢
  have hB1 := hB.keep sp
  obtain ⟨bx, hbx⟩ := hB.lst
  have npb : p ≠ b := (ne_of_none hbx hp).symm
  refine ⟨_, rfl, b, c, 5, rfl, by decide, by decide, hB1, fun way H2 hway e2 hB2 => ?_⟩
  have hp2 := e2 _ _ hp1 npb
  refine ⟨_, rfl, b, c, 16, rfl, by decide, by decide, hB2, fun turn H3 hturn e3 hB3 => ?_⟩
  have hp3 := e3 _ _ hp2 npb
  have s03 : SameB b H H3 := (SameB.of sp).trans (e2.trans e3)
  refine ⟨by show 2 ≤ sizeLine; decide, fun t0 ht0 => ?_⟩
  have st : Same H3 (upd H3 t0 (.tup [.int (way : Nat), .int (turn : Nat)])) := same_new ht0
  have ht1 : upd H3 t0 (.tup [.int (way : Nat), .int (turn : Nat)]) t0 = some (.tup [.int (way : Nat), .int (turn : Nat)]) := upd_same
  generalize upd H3 t0 (.tup [.int (way : Nat), .int (turn : Nat)]) = H4 at st ht1 ⊢
  have hB4 := hB3.keep st
  have hp4 := st _ _ hp3
  have s04 : SameB b H H4 := s03.trans (.of st)
  refine ⟨t0, _, rfl, sqt ht1, rfl, _, _, rfl, _, _, rfl, rfl, _, rfl, rfl, _, rfl, ?_⟩
  by_cases w0 : way = 0
  · refine iteE true (decide_eq_true (by rw [w0] <;> rfl)) (iteT ?_)
    obtain ⟨l1, c1, m1⟩ := cutV_map V.str (menuS.map Str.ofString) (some (turn : Int)) none
    obtain ⟨l2, c2, m2⟩ := cutV_map V.str (menuS.map Str.ofString) none (some (turn : Int))
    refine ⟨_, rfl, _, rfl, _, rfl, p, _, rfl, sql hp4, fun p1 hp1' => ?_⟩
    have q1 := same_new (o := .lst (cutV ((menuS.map Str.ofString).map V.str) (some (turn : Int)) none)) hp1'
    refine ⟨_, rfl, _, rfl, _, rfl, p, _, rfl, sql (q1 _ _ hp4), fun p2 hp2' => ?_⟩
    have q2 := same_new (o := .lst (cutV ((menuS.map Str.ofString).map V.str) none (some (turn : Int)))) hp2'
    have g1 := q2 _ _ (upd_same (H := H4) (a := p1) (o := .lst (cutV ((menuS.map Str.ofString).map V.str) (some (turn : Int)) none)))
    have z1 : (cutV ((menuS.map Str.ofString).map V.str) (some (turn : Int)) none).length ≤ 16 := Nat.le_trans (cutV_length _ _ _) (by rw [List.length_map, List.length_map]; decide)
    have z2 : (cutV ((menuS.map Str.ofString).map V.str) none (some (turn : Int))).length ≤ 16 := Nat.le_trans (cutV_length _ _ _) (by rw [List.length_map, List.length_map]; decide)
    refine ⟨p1, p2, _, _, rfl, rfl, g1, upd_same, small (by omega), fun p3 hp3' => ?_⟩
    have e12 : cutV ((menuS.map Str.ofString).map V.str) (some (turn : Int)) none ++ cutV ((menuS.map Str.ofString).map V.str) none (some (turn : Int)) = (l1 ++ l2).map V.str := by rw [c1, c2, List.map_append]
    have q12 := q1.trans q2
    rw [e12]
    have q3 := same_new (o := .lst ((l1 ++ l2).map V.str)) hp3'
    have q123 := q12.trans q3
    have hp3v : upd (upd (upd H4 p1 (.lst (cutV ((menuS.map Str.ofString).map V.str) (some (turn : Int)) none))) p2 (.lst (cutV ((menuS.map Str.ofString).map V.str) none (some (turn : Int))))) p3 (.lst ((l1 ++ l2).map V.str)) p3 = some (.lst ((l1 ++ l2).map V.str)) := upd_same
    generalize upd (upd (upd H4 p1 (.lst (cutV ((menuS.map Str.ofString).map V.str) (some (turn : Int)) none))) p2 (.lst (cutV ((menuS.map Str.ofString).map V.str) none (some (turn : Int))))) p3 (.lst ((l1 ++ l2).map V.str)) = H5 at q123 hp3v ⊢
    refine ⟨_, rfl, _, rfl, p3, _, rfl, sql hp3v, fun p4 hp4' => ?_⟩
    rw [cutV_to]
    have q4 := same_new (o := .lst (((l1 ++ l2).take many).map V.str)) hp4'
    have ll : ((l1 ++ l2).take many).length ≤ 8 := by rw [List.length_take]; omega
    refine ⟨p4, _, rfl, sql upd_same, by omega, fun ys p5 perm srt hp5 => ⟨p5, _, rfl, .inl ⟨sql upd_same, fun t ht => ?_⟩⟩⟩
    have q5 := same_new (o := .lst (ys.map V.str)) hp5
    have qq := (q123.trans q4).trans q5
    refine fin _ p5 ys (s04.trans (.of qq)) (hB4.keep qq) upd_same (fun x hx => ?_) (by rw [perm.length_eq]; omega) t ht
    have hx := List.mem_of_mem_take (perm.mem_iff.mp hx)
    rcases List.mem_append.mp hx with z | z
    · exact menu_nmS x (m1 x z)
    · exact menu_nmS x (m2 x z)
  · refine iteE false (decide_eq_false (fun z => w0 (by injection z with z; omega))) (iteF ⟨_, rfl, rfl, _, rfl, ?_⟩)
    have mb : (((many : Nat) : Int)).toNat = many := by omega
    have mb1 : -(2 ^ 62) ≤ ((many : Nat) : Int) := by
      have : (0 : Int) ≤ (many : Int) := by omega
      exact Int.le_trans (by decide) this
    have mb2 : ((many : Nat) : Int) < 2 ^ 62 := Int.lt_of_le_of_lt (show ((many : Nat) : Int) ≤ 8 by omega) (by decide)
    by_cases w1 : way = 1
    · refine iteE true (decide_eq_true (by rw [w1] <;> rfl)) (iteT ?_)
      refine ⟨_, rfl, _, rfl, mb1, mb2, fun D hD => ?_⟩
      rw [mb]
      refine HL.lcR (n := many) (out := (List.range many).map fun k => V.str (S ((M.q "aaaaaaaa").take (k + 1)))) hD (by rw [List.length_map, List.length_range]) (small (by omega)) (fun k1 y1 H5 Q5 hk1 hy1 e5 _ hq5 => ?_) fun H5 e5 hD5 => ⟨D, _, rfl, .inl ⟨sql hD5, fun t ht => ?_⟩⟩
      · rw [List.getElem?_map, List.getElem?_range hk1] at hy1
        have hy1 : some (V.str (S ((M.q "aaaaaaaa").take (k1 + 1)))) = some y1 := hy1
        cases hy1
        refine ⟨_, rfl, _, _, rfl, rfl, _, congrArg V.int (show (0 : Int) + (k1 : Int) + 1 = ((k1 + 1 : Nat) : Int) by omega), _, rfl, by rw [ofq, S_len]; exact small (by decide), ?_⟩
        rw [oq, cut_j]
        exact hq5 _ (Same.refl _)
      · have e9 : ((List.range many).map fun k => V.str (S ((M.q "aaaaaaaa").take (k + 1)))) = ((List.range many).map fun k => S ((M.q "aaaaaaaa").take (k + 1))).map V.str := by rw [List.map_map] <;> rfl
        rw [e9]
        refine fin H5 D _ (s04.trans (.of e5)) (hB4.keep e5) (by rw [hD5, e9]) (fun x hx => ?_) (by rw [List.length_map, List.length_range]; omega) t ht
        obtain ⟨k1, hk1, rfl⟩ := List.mem_map.mp hx
        have hk1 := List.mem_range.mp hk1
        refine ⟨_, rfl, ?_, ?_, ?_⟩
        · rw [List.length_take, show (M.q "aaaaaaaa").length = 8 from by decide]
          omega
        · rw [List.length_take]
          omega
        · intro c hc
          have h8 : ∀ c ∈ M.q "aaaaaaaa", M.isLet c = true := by decide
          exact h8 c (List.mem_of_mem_take hc)
    · refine iteE false (decide_eq_false (fun z => w1 (by injection z with z; omega))) (iteF ?_)
      have hLsz : (Str.ofString "abcdefghijklmnopqrstuvwxyz").length ≤ sizeLine := by rw [ofq, S_len]; exact small (by decide)
      have hL : ∀ j, j < 26 → atI (Str.ofString "abcdefghijklmnopqrstuvwxyz").cps.toList ((j : Nat) : Int) = some (M.LET.getD j 0) := fun j hj => atI_nat (by rw [ofq_tl]; exact (let_at j hj).1)
      have key : ∃ stn : List Nat, atI [V.str (Str.ofString ""), V.str (Str.ofString ""), V.str ⟨#[M.LET.getD turn 0]⟩, V.str (Str.ofString "zzzzzzz")] (((way - 1 : Nat) : Int)) = some (V.str (S stn)) ∧ stn.length ≤ 7 ∧ ∀ c ∈ stn, M.isLet c = true := by
        have hw : way = 2 ∨ way = 3 ∨ way = 4 := by omega
        rcases hw with rfl | rfl | rfl
        · exact ⟨[], by rw [oq ""]; exact at1, by simp, fun c hc => by simp at hc⟩
        · exact ⟨[M.LET.getD turn 0], at2, by simp, fun c hc => by
            have : c = M.LET.getD turn 0 := by simpa using hc
            rw [this]
            exact (let_at turn (by omega)).2⟩
        · exact ⟨M.q "zzzzzzz", by rw [oq "zzzzzzz"]; exact at3, by decide, by decide⟩
      obtain ⟨stn, hst, hstl, hstc⟩ := key
      have ew : ((way : Nat) : Int) - 1 = ((way - 1 : Nat) : Int) := by omega
      refine ⟨_, rfl, _, rfl, _, _, _, rfl, rfl, hLsz, hL turn (by omega), by show 4 ≤ sizeLine; decide, fun l hl => ?_⟩
      have sl := same_new (o := .lst [V.str (Str.ofString ""), V.str (Str.ofString ""), V.str ⟨#[M.LET.getD turn 0]⟩, V.str (Str.ofString "zzzzzzz")]) hl
      refine ⟨_, rfl, _, _, rfl, rfl, l, _, _, _, rfl, congrArg V.int ew, sql upd_same, hst, ?_⟩
      refine ⟨_, rfl, _, rfl, mb1, mb2, fun D hD => ?_⟩
      rw [mb]
      refine HL.lcR (n := many) (out := (List.range many).map fun k => V.str (S (stn ++ [M.LET.getD ((turn + 3 * k) % 26) 0]))) hD (by rw [List.length_map, List.length_range]) (small (by omega)) (fun k1 y1 H5 Q5 hk1 hy1 e5 _ hq5 => ?_) fun H5 e5 hD5 => ?_
      · rw [List.getElem?_map, List.getElem?_range hk1] at hy1
        have hy1 : some (V.str (S (stn ++ [M.LET.getD ((turn + 3 * k1) % 26) 0]))) = some y1 := hy1
        cases hy1
        have em : (((turn : Nat) : Int) + 3 * ((0 : Int) + (k1 : Int))).fmod 26 = (((turn + 3 * k1) % 26 : Nat) : Int) := by
          rw [Int.fmod_eq_emod_of_nonneg _ (by decide)]
          omega
        refine ⟨_, rfl, _, rfl, _, rfl, _, rfl, _, _, rfl, rfl, .inl ⟨by decide, by decide⟩, _, _, rfl, rfl, .inl ⟨_, rfl, _, _, rfl, rfl, (by show (26 : Int) ≠ 0; decide), _, _, _, rfl, congrArg V.int em, hLsz, hL _ (Nat.mod_lt _ (by decide)), _, _, rfl, rfl, ?_, ?_⟩⟩
        · show (S stn).length + 1 ≤ _
          rw [S_len]
          exact small (by omega)
        · rw [show (⟨#[M.LET.getD ((turn + 3 * k1) % 26) 0]⟩ : Str) = S [M.LET.getD ((turn + 3 * k1) % 26) 0] from rfl, S_cat]
          exact hq5 _ (Same.refl _)
      · have e9 : ((List.range many).map fun k => V.str (S (stn ++ [M.LET.getD ((turn + 3 * k) % 26) 0]))) = ((List.range many).map fun k => S (stn ++ [M.LET.getD ((turn + 3 * k) % 26) 0])).map V.str := by rw [List.map_map] <;> rfl
        rw [e9] at hD5
        refine ⟨D, _, rfl, sql hD5, by rw [List.length_map, List.length_range]; omega, fun ys p5 perm srt hp5 => ⟨p5, _, rfl, .inl ⟨sql upd_same, fun t ht => ?_⟩⟩⟩
        have q5 := same_new (o := .lst (ys.map V.str)) hp5
        have qq := (sl.trans e5).trans q5
        refine fin _ p5 ys (s04.trans (.of qq)) (hB4.keep qq) upd_same (fun x hx => ?_) (by rw [perm.length_eq, List.length_map, List.length_range]; omega) t ht
        obtain ⟨k1, hk1, rfl⟩ := List.mem_map.mp (perm.mem_iff.mp hx)
        refine ⟨_, rfl, ?_, ?_, ?_⟩
        · rw [List.length_append]
          simp
        · rw [List.length_append]
          simp
          omega
        · intro c hc
          rcases List.mem_append.mp hc with z | z
          · exact hstc c z
          · have : c = M.LET.getD ((turn + 3 * k1) % 26) 0 := by simpa using z
            rw [this]
            exact (let_at _ (Nat.mod_lt _ (by decide))).2
end
end K91
end

section
set_option Elab.async false
set_option linter.all false
set_option maxRecDepth 100000
set_option maxHeartbeats 4000000
/-! k91: the conditions drawn. -/
namespace K91
open PySem PySem.Spec PyProof.Rows L2 He HL
/-- if c: t, what follows b -/
theorem sif {c : TT} {t b : TS} {D : Ends} {σ : L2.St} {H : Hp} (P : Prop) [Decidable P] (hc : ∀ Q' : Bool → Hp → Prop, (∀ H', Same H H' → Q' (decide P) H') → c σ H Q') (h1 : P → ∀ H', Same H H' → t { D with nx := b D } σ H') (h2 : ¬P → ∀ H', Same H H' → b D σ H') : tSeq (tIfS c t tNext) b D σ H := by
  refine hc _ fun H' e => ?_
  by_cases h : P
  · rw [decide_eq_true h]
    exact iteT (h1 h H' e)
  · rw [decide_eq_false h]
    exact iteF (h2 h H' e)
theorem eqv_tnil {α : Type} (dat : α → PyData) (l : List α) : PyData.eqv (.tuple (l.map dat)) (.tuple []) = l.isEmpty := by
  cases l <;> simp [PyData.eqv, PyData.eqvAll]
section
variable {w : World} {K : PySem.W.Frag} {mg : Str → Option Value} {base : Heap}
theorem names_dp {H : Hp} : ∀ ns : List (List Nat), DpAll K H (ns.map fun n => V.str (S n)) (ns.map fun n => PyData.str (S n))
  | [] => .nil
  | n :: ns => .cons (.str _) (names_dp ns)
theorem names_lay : ∀ {ns : List (List Nat)}, (∀ n ∈ ns, M.Nm n) → PyData.canLayAll0 (ns.map fun n => PyData.str (S n)) = true
  | [], _ => rfl
  | n :: ns, h => by
    show (PyData.strOk (S n) && PyData.canLayAll0 (ns.map fun n => PyData.str (S n))) = true
    rw [nm_ok (h n (by simp)), names_lay fun m hm => h m (by simp [hm])]
    rfl
theorem Names.keep {H H' : Hp} {t : Addr} {ns : List (List Nat)} (h : Names H t ns) (e : TupK H H') : Names H' t ns := ⟨e _ _ h.1, h.2⟩
theorem names_eq {H : Hp} {t t0 : Addr} {ns : List (List Nat)} {units : Nat} {Q : VK} (hN : Names H t ns) (h0 : H t0 = some (.tup [])) (hu : units + 10 < cLine) (h : Q (.bl ns.isEmpty) H) : XP.rEqE K units (.ref t) (.ref t0) H Q := by
  refine ⟨.tuple (ns.map fun n => .str (S n)), .tuple [], .tup (sqt hN.1) (names_dp ns), .tup (sqt h0) .nil, names_lay hN.2.1, rfl, ?_, ?_⟩
  · have h2 : (PyData.tuple []).depth = 1 := by simp [PyData.depth, PyData.depthAll]
    have h3 := Nat.min_le_right (PyData.tuple (ns.map fun n => PyData.str (S n))).depth (PyData.tuple []).depth
    omega
  · rw [eqv_tnil]
    exact h
theorem names_ne {H : Hp} {t t0 : Addr} {ns : List (List Nat)} {units : Nat} {Q : VK} (hN : Names H t ns) (h0 : H t0 = some (.tup [])) (hu : units + 10 < cLine) (h : Q (.bl (!ns.isEmpty)) H) : XP.rNeE K units (.ref t) (.ref t0) H Q := by
  refine ⟨.tuple (ns.map fun n => .str (S n)), .tuple [], .tup (sqt hN.1) (names_dp ns), .tup (sqt h0) .nil, names_lay hN.2.1, rfl, ?_, ?_⟩
  · have h2 : (PyData.tuple []).depth = 1 := by simp [PyData.depth, PyData.depthAll]
    have h3 := Nat.min_le_right (PyData.tuple (ns.map fun n => PyData.str (S n))).depth (PyData.tuple []).depth
    omega
  · rw [eqv_tnil]
    exact h
/-- one of the names is drawn -/
theorem one_name {H : Hp} {b c t : Addr} {ns : List (List Nat)} {Q : VK} {E : XK} (hB : Bag H b c) (hN : Names H t ns) (h0 : ns ≠ []) (h : ∀ n, M.Nm n → ∀ H', SameB b H H' → Bag H' b c → Q (.str (S n)) H') : spOne K [.ref b, .ref t] H Q E := by
  refine ⟨b, c, t, _, rfl, hB, by rw [List.length_map]; exact List.length_pos_iff.mpr h0, by rw [List.length_map]; have := hN.2.2; omega, .inr fun H' e => sqt (hB.tup e _ _ hN.1), fun x hx H' e hB' => ?_⟩
  obtain ⟨n, hn, rfl⟩ := List.mem_map.mp hx
  exact h n (hN.2.1 n hn) H' e hB'
def cO : Nat → Nat
  | 0 => 0
  | d + 1 => 3 * cO d + 5
def cL : Nat → Nat
  | 0 => 9
  | d + 1 => 3 * cL d + 9
theorem cL_pos (d : Nat) : 9 ≤ cL d := by
  cases d with
  | zero => exact Nat.le_refl _
  | succ d =>
    show 9 ≤ 3 * cL d + 9
    omega
theorem join_le {b : List Nat} {k : Nat} : ∀ {ys : List (List Nat)}, (∀ y ∈ ys, y.length ≤ k) → ys.length ≤ 3 → (TL.joinL b ys).length ≤ 3 * k + 2 * b.length
  | [], _, _ => by simp [TL.joinL]
  | [x], h, _ => by
    have := h x (by simp)
    simp only [TL.joinL]
    omega
  | [x, y], h, _ => by
    have h1 := h x (by simp)
    have h2 := h y (by simp)
    simp only [TL.joinL, List.length_append]
    omega
  | [x, y, z], h, _ => by
    have h1 := h x (by simp)
    have h2 := h y (by simp)
    have h3 := h z (by simp)
    simp only [TL.joinL, List.length_append]
    omega
  | _ :: _ :: _ :: _ :: _, _, h => by simp at h
theorem join_om {b : List Nat} {k : Nat} : ∀ {ys : List (List Nat)}, (∀ y ∈ ys, M.om y ≤ k) → ys.length ≤ 3 → M.om (TL.joinL b ys) ≤ 3 * k + 2 * M.om b
  | [], _, _ => by simp [TL.joinL, M.om_nil]
  | [x], h, _ => by
    have := h x (by simp)
    simp only [TL.joinL]
    omega
  | [x, y], h, _ => by
    have h1 := h x (by simp)
    have h2 := h y (by simp)
    simp only [TL.joinL, M.om_app]
    omega
  | [x, y, z], h, _ => by
    have h1 := h x (by simp)
    have h2 := h y (by simp)
    have h3 := h z (by simp)
    simp only [TL.joinL, M.om_app]
    omega
  | _ :: _ :: _ :: _ :: _, _, h => by simp at h
theorem nm_om {n : List Nat} (h : ∀ c ∈ n, M.isLet c = true) : M.om n = 0 := by
  induction n with
  | nil => rfl
  | cons c n ih =>
    have h1 := h c (by simp)
    have h2 := ih fun d hd => h d (by simp [hd])
    have hc : c ∈ M.LET := of_decide_eq_true h1
    have hw : ∀ d ∈ M.LET, M.wt d = 0 := by decide
    have h3 := M.om_app [c] n
    rw [show [c] ++ n = c :: n from rfl, h2] at h3
    rw [h3]
    show M.om [c] + 0 = 0
    simp [M.om, hw c hc]
/-- a drawn condition -/
def CD (d : Nat) (v : V) (c : M.Cond) (H : Hp) : Prop := CAt H c v ∧ c.wf ∧ M.om c.sh ≤ cO d ∧ c.sh.length ≤ cL d
abbrev n_law_condition : List Str := ["_law_bag_here", "_law_asks", "_law_deep", "_law_way", "_law_some", "_law_k"]
theorem sc_law_condition : FnScope n_law_condition ["_law_bag_here", "_law_asks", "_law_deep"] (defScope s_law_condition) := ⟨rfl, rfl, rfl, by decide +kernel, rfl, by decide +kernel, by decide +kernel⟩
theorem bi_law_condition : ∀ (kV doc pm : Value) (an : Option Addr) (cdv ct : Value) (us : List Value), us.length = 3 → bindArgs (PySem.W.fnOf d_law_condition.name d_law_condition.qual d_law_condition.params d_law_condition.body d_law_condition.scope .none kV doc pm an cdv ct) ⟨us, []⟩ = pure ([("_law_bag_here" : Str), ("_law_asks" : Str), ("_law_deep" : Str)].zip us) := fun kV doc pm an cdv ct us hu => by
  match us, hu with
  | [u0, u1, u2], _ => rfl
def spCnd (d : Nat) : Sp := fun vs H Q _ => ∃ b c t ns, vs = [.ref b, .ref t, .int (d : Nat)] ∧ Bag H b c ∧ Names H t ns ∧ ∀ v x H', SameB b H H' → Bag H' b c → CD d v x H' → Q v H'
theorem o_cnd (W : Wl K mg) : ∀ (d L : Nat), d + 3 ≤ L → OkD w K mg base CX0 L d_law_condition ["_law_bag_here", "_law_asks", "_law_deep"] (spCnd d) := by
  intro d
  induction d using Nat.strongRecOn with
  | _ d ih =>
  intro L hL
  obtain ⟨k, rfl⟩ : ∃ k, L = k + 1 := ⟨L - 1, by omega⟩
  have O__law_take := o_take (w := w) (base := base) W
  have O__law_one := o_one (w := w) (base := base) W
  have O__law_condition : OkD w K mg base CX0 k d_law_condition ["_law_bag_here", "_law_asks", "_law_deep"] (fun vs H Q E => ∃ d', d = d' + 1 ∧ spCnd d' vs H Q E) := by
    by_cases h0 : d = 0
    · obtain ⟨j, rfl⟩ : ∃ j, k = j + 1 := ⟨k - 1, by omega⟩
      exact o_vac W.D_law_condition sc_law_condition bi_law_condition fun vs H Q E ⟨d', z, _⟩ => by omega
    · obtain ⟨d', rfl⟩ : ∃ d', d = d' + 1 := ⟨d - 1, by omega⟩
      exact (ih d' (by omega) k (by omega)).imp fun vs H Q E ⟨d2, z, q⟩ => by
        obtain rfl : d' = d2 := by omega
        exact q
  refine HL.ok_of0 W.D_law_condition sc_law_condition (fun vs H Q E ⟨_, _, _, _, h, _⟩ => by rw [h]; rfl) bi_law_condition fun cdv A outer s H vs Q E hr h => ?_
  have nd := sc_law_condition.nd
  have hun := hr.un
  refine ⟨_, (pss_cons (ps_set (i := 3) nd rfl (Or.inl rfl) (pe_cal O__law_take (hr.mono (by omega)) W.g__law_take pass0 (pa_cons (pv 0) (pa_cons pe_int pa_nil))))
    (pss_cons (ps_if (PW.pt (pw_or (pt_cmpR op_lt (pv 3) pe_int (nomark _)) (pw_or1 (pt_cmpR op_lt (pv 2) pe_int (nomark _))))) (pss_cons (ps_if (PW.pt (pw_or (pt_cmpR op_eq (pv 3) pe_int (nomark _)) (pw_or1 (pt_cmpR XP.op_eqE (pv 1) (pe_tup pa_nil) (nomark _))))) (pss_one (ps_ret (pe_ix ix_list (pe_lst (pa_cons (pe_tup (pa_cons pe_str pa_nil)) (pa_cons (pe_tup (pa_cons pe_str pa_nil)) pa_nil))) (pe_cal O__law_take (hr.mono (by omega)) W.g__law_take pass0 (pa_cons (pv 0) (pa_cons pe_int pa_nil))) (fun _ _ => rfl)))) pss_nil)
      (pss_one (ps_ret (pe_tup (pa_cons pe_str (pa_cons (pe_cal O__law_one (hr.mono (by omega)) W.g__law_one pass0 (pa_cons (pv 0) (pa_cons (pv 1) pa_nil))) pa_nil)))))) pss_nil)
    (pss_cons (ps_if (pt_cmpR op_lt (pv 3) pe_int (nomark _)) (pss_one (ps_ret (pe_tup (pa_cons pe_str (pa_cons (pe_cal O__law_condition (hr.mono (by omega)) W.g__law_condition pass0 (pa_cons (pv 0) (pa_cons (pv 1) (pa_cons (pe_op op_sub (pv 2) pe_int) pa_nil)))) pa_nil))))) pss_nil)
    (pss_cons (ps_setLc (i := 4) (own := [("_law_k", 5)]) (g := gName 5) (tt := tYes) rfl nd rfl rfl (sw_true rfl rfl rfl (by decide +kernel)) (pi_range1 (by rfl) W.f_range (pa_cons (pe_cal O__law_take (hr.mono (by omega)) W.g__law_take pass0 (pa_cons (pv 0) (pa_cons pe_int pa_nil))) pa_nil)) (blkOk_by (own := [("_law_k", 5)]) (N := n_law_condition) (sc := defScope s_law_condition) (by decide +kernel)) (fun _ _ _ _ _ => pg_name (i := 5) nd rfl (Or.inl rfl)) (fun _ _ _ _ _ => pts_nil) (fun _ _ _ _ _ => (pe_cal O__law_condition (hr.mono (by omega)) W.g__law_condition pass0 (pa_cons (pv 0) (pa_cons (pv 1) (pa_cons (pe_op op_sub (pv 2) pe_int) pa_nil))))))
    (pss_one (ps_ret (pe_tup (pa_cons (pe_ix ix_list (pe_lst (pa_cons pe_str (pa_cons pe_str pa_nil))) (pe_op op_sub (pv 3) pe_int) (fun _ _ => rfl)) (pa_cons (pe_callTy call_tuple_of (by rfl) W.f_tuple (by decide +kernel) (pa_cons (pv 4) pa_nil)) pa_nil))))))))), ?_⟩
  obtain ⟨b, c, t, ns, rfl, hB, hN, hq⟩ := h
  refine ⟨_, rfl, b, c, 9, rfl, by decide, by decide, hB, fun way H1 hway e1 hB1 => ?_⟩
  have hN1 := hN.keep (hB.tup e1)
  dsimp only
  refine sif (way < 5 ∨ d = 0) (fun Q' hQ' => ?_) (fun hl H2 e2 => ?_) (fun hl H2 e2 => ?_)
  · refine ⟨_, rfl, _, _, rfl, rfl, _, rfl, ?_⟩
    by_cases h5 : way < 5
    · refine iteE true (decide_eq_true (by omega)) (iteT ?_)
      have := hQ' H1 (Same.refl _)
      rwa [decide_eq_true (.inl h5)] at this
    · refine iteE false (decide_eq_false (by omega)) (iteF ⟨_, rfl, _, _, rfl, rfl, _, rfl, ?_⟩)
      have e9 : decide (((d : Nat) : Int) < 1) = decide (way < 5 ∨ d = 0) := decide_eq_decide.mpr (by omega)
      have := hQ' H1 (Same.refl _)
      rw [← e9] at this
      exact this
  · -- a leaf
    have hB2 := hB1.keep e2
    have e12 : SameB b H H2 := e1.trans (.of e2)
    have hN2 := hN1.keep (.of e2)
    have hu2 : (A.deeper (envOfC d_law_condition.qual d_law_condition.scope s.heap.objs.size (fAd K d_law_condition.at_) cdv)).units + 10 < cLine := by omega
    refine sif (way = 0 ∨ ns = []) (fun Q' hQ' => ?_) (fun hl2 H3 e3 => ?_) (fun hl2 H3 e3 => ?_)
    · refine ⟨_, rfl, rfl, _, rfl, ?_⟩
      by_cases h5 : way = 0
      · refine iteE true (decide_eq_true (by rw [h5] <;> rfl)) (iteT ?_)
        have := hQ' H2 (Same.refl _)
        rwa [decide_eq_true (.inl h5)] at this
      · refine iteE false (decide_eq_false (fun z => h5 (by injection z with z; omega))) (iteF ⟨_, rfl, Nat.zero_le _, fun t0 ht0 => ?_⟩)
        refine names_eq (hN2.keep (.of (same_new ht0))) upd_same hu2 ⟨_, rfl, ?_⟩
        have e9 : ns.isEmpty = decide (way = 0 ∨ ns = []) := by
          cases ns with
          | nil => exact (decide_eq_true (.inr rfl)).symm
          | cons n ns => exact (decide_eq_false (by simp [h5])).symm
        have := hQ' _ (same_new (o := .tup []) ht0)
        rw [← e9] at this
        exact this
    · have hB3 := hB2.keep e3
      have e13 := e12.trans (.of e3)
      refine ⟨by show 1 ≤ sizeLine; decide, fun t1 ht1 => ⟨by show 1 ≤ sizeLine; decide, fun t2 ht2 => ⟨by show 2 ≤ sizeLine; decide, fun l hl => ?_⟩⟩⟩
      have s1 := same_new (o := .tup [V.str "yes"]) ht1
      have s2 := same_new (o := .tup [V.str "no"]) ht2
      have s3 := same_new (o := .lst [V.ref t1, V.ref t2]) hl
      have g1 := s3 _ _ (s2 _ _ (upd_same (H := H3) (a := t1) (o := .tup [V.str "yes"])))
      have g2 := s3 _ _ (upd_same (H := upd H3 t1 (.tup [V.str "yes"])) (a := t2) (o := .tup [V.str "no"]))
      have gl := upd_same (H := upd (upd H3 t1 (.tup [V.str "yes"])) t2 (.tup [V.str "no"])) (a := l) (o := .lst [V.ref t1, V.ref t2])
      have s123 := (s1.trans s2).trans s3
      have nlb : l ≠ b := ((((hB3.keep s1).keep s2)).ne hl).1
      have hB4 := hB3.keep s123
      generalize upd (upd (upd H3 t1 (.tup [V.str "yes"])) t2 (.tup [V.str "no"])) l (.lst [V.ref t1, V.ref t2]) = H4 at s123 g1 g2 gl hB4 ⊢
      refine ⟨_, rfl, b, c, 2, rfl, by decide, by decide, hB4, fun n H5 hn e5 hB5 => ?_⟩
      have tk := hB4.tup e5
      have e15 := e13.trans ((SameB.of s123).trans e5)
      have n2 : n = 0 ∨ n = 1 := by omega
      rcases n2 with rfl | rfl
      · refine ⟨l, _, _, _, rfl, rfl, sql (e5 _ _ gl nlb), at0, hq _ (.word true) H5 e15 hB5 ⟨?_, trivial, Nat.zero_le _, Nat.le_trans (show (M.yq true).length ≤ 9 by decide) (cL_pos d)⟩⟩
        unfold CAt
        exact ⟨t1, rfl, by rw [tk _ _ g1, sq "yes"]; rfl⟩
      · refine ⟨l, _, _, _, rfl, rfl, sql (e5 _ _ gl nlb), at1, hq _ (.word false) H5 e15 hB5 ⟨?_, trivial, Nat.zero_le _, Nat.le_trans (show (M.yq false).length ≤ 9 by decide) (cL_pos d)⟩⟩
        unfold CAt
        exact ⟨t2, rfl, by rw [tk _ _ g2, sq "no"]; rfl⟩
    · have hB3 := hB2.keep e3
      have hN3 := hN2.keep (.of e3)
      have e13 := e12.trans (.of e3)
      refine ⟨_, rfl, _, rfl, one_name (E := L2.E0) hB3 hN3 (fun z => hl2 (.inr z)) fun n hn H4 e4 hB4 => ⟨by show 2 ≤ sizeLine; decide, fun a ha => ?_⟩⟩
      refine hq _ (.ask n) _ ((e13.trans e4).new ha) (hB4.keep (same_new ha)) ⟨?_, hn, ?_, ?_⟩
      · unfold CAt
        exact ⟨a, rfl, by rw [upd_same, sq "ask"]⟩
      · show M.om (M.q "?" ++ n) ≤ _
        rw [M.om_app, nm_om hn.all, show M.om (M.q "?") = 0 from by decide]
        omega
      · show (M.q "?" ++ n).length ≤ _
        rw [List.length_append, show (M.q "?").length = 1 from by decide]
        have := hn.most
        have := cL_pos d
        omega
  · obtain ⟨d', rfl⟩ : ∃ d', d = d' + 1 := ⟨d - 1, by omega⟩
    have hway5 : 5 ≤ way := by omega
    have hB2 := hB1.keep e2
    have e12 : SameB b H H2 := e1.trans (.of e2)
    have hN2 := hN1.keep (.of e2)
    have ed : (((d' + 1 : Nat) : Int) - 1) = ((d' : Nat) : Int) := by omega
    have args : ∀ x y : V, [x, y, V.int (((d' + 1 : Nat) : Int) - 1)] = [x, y, V.int (d' : Nat)] := fun x y => by rw [ed]
    refine sif (way < 7) (fun Q' hQ' => ?_) (fun h7 H3 e3 => ?_) (fun h7 H3 e3 => ?_)
    · refine ⟨_, rfl, _, _, rfl, rfl, _, rfl, ?_⟩
      have := hQ' H2 (Same.refl _)
      rwa [show decide (way < 7) = decide (((way : Nat) : Int) < 7) from decide_eq_decide.mpr (by omega)] at this
    · have hB3 := hB2.keep e3
      refine ⟨_, rfl, _, rfl, _, rfl, _, _, rfl, rfl, d', rfl, b, c, t, ns, args _ _, hB3, hN2.keep (.of e3), fun v x H4 e4 hB4 hx => ⟨by show 2 ≤ sizeLine; decide, fun a ha => ?_⟩⟩
      obtain ⟨x1, x2, x3, x4⟩ := hx
      refine hq _ (.neg x) _ (((e12.trans (.of e3)).trans e4).new ha) (hB4.keep (same_new ha)) ⟨?_, x2, ?_, ?_⟩
      · unfold CAt
        exact ⟨a, v, rfl, by rw [upd_same, sq "not"], x1.keep (.of (same_new ha))⟩
      · show M.om (M.q "not" ++ (M.q "(" ++ (x.sh ++ M.q ")"))) ≤ 3 * cO d' + 5
        rw [M.om_app, M.om_app, M.om_app, show M.om (M.q "not") = 0 from by decide, show M.om (M.q "(") = 3 from by decide, show M.om (M.q ")") = 0 from by decide]
        omega
      · show (M.q "not" ++ (M.q "(" ++ (x.sh ++ M.q ")"))).length ≤ 3 * cL d' + 9
        simp only [List.length_append, show (M.q "not").length = 3 from by decide, show (M.q "(").length = 1 from by decide, show (M.q ")").length = 1 from by decide]
        omega
    · have hB3 := hB2.keep e3
      refine ⟨_, rfl, b, c, 4, rfl, by decide, by decide, hB3, fun m H4 hm e4 hB4 => ?_⟩
      have e14 : SameB b H H4 := (e12.trans (.of e3)).trans e4
      have hN4 := (hN2.keep (.of e3)).keep (hB3.tup e4)
      have mb : (((m : Nat) : Int)).toNat = m := by omega
      have mb1 : -(2 ^ 62) ≤ ((m : Nat) : Int) := Int.le_trans (by decide) (show (0 : Int) ≤ (m : Int) by omega)
      have mb2 : ((m : Nat) : Int) < 2 ^ 62 := Int.lt_of_le_of_lt (show ((m : Nat) : Int) ≤ 4 by omega) (by decide)
      refine ⟨_, rfl, mb1, mb2, fun D hD => ?_⟩
      rw [mb]
      obtain ⟨nDb, nDc⟩ := hB4.ne hD
      have nDt : D ≠ t := (ne_of_none hN4.1 hD).symm
      refine HL.lcRR (n := m) (X := XB b) (I := fun H => Bag H b c) (R := CD d') hD (fun l => nDb) (hB4.keep (same_new hD)) (fun H l h _ l' => h.put nDb nDc) (small (by omega)) (fun v x H H' r e h => ⟨r.1.keep (h.tup e), r.2⟩)
        (fun v x H l l' r h => ⟨r.1.keep ((TupK.refl H).mut h (fun xs q => nomatch q)), r.2⟩) (fun k1 H5 Q5 hk1 e5 hB5 hq5 => ?_) fun H5 vs5 cs5 e5 hB5 hD5 hlen5 hA5 => ?_
      · refine ⟨_, rfl, _, rfl, _, rfl, _, _, rfl, rfl, d', rfl, b, c, t, ns, args _ _, hB5, hN4.keep (hB4.tup e5), fun v x H6 e6 hB6 hx => hq5 v x H6 e6 hB6 hx⟩
      · have e15 : SameB b H H5 := e14.trans e5
        have hL5 := hA5.length
        have n2 : way = 7 ∨ way = 8 := by omega
        refine ⟨by show 2 ≤ sizeLine; decide, fun l hl => ⟨_, rfl, _, _, rfl, rfl, ?_⟩⟩
        have sl := same_new (o := .lst [V.str "all", V.str "any"]) hl
        have hD6 := sl _ _ hD5
        have fin : ∀ bb : Bool, ∀ u, upd H5 l (.lst [V.str "all", V.str "any"]) u = none → ∀ a, upd (upd H5 l (.lst [V.str "all", V.str "any"])) u (.tup vs5) a = none → Q (.ref a) (upd (upd (upd H5 l (.lst [V.str "all", V.str "any"])) u (.tup vs5)) a (.tup [.str (S (M.nq bb)), .ref u])) := by
          intro bb u hu a ha
          have su := same_new (o := .tup vs5) hu
          have sa := same_new (o := .tup [.str (S (M.nq bb)), .ref u]) ha
          have sall := (sl.trans su).trans sa
          have hsh : ∀ f : List Nat → Nat, ∀ k, (∀ v x H, CD d' v x H → f x.sh ≤ k) → ∀ y ∈ M.shC cs5, f y ≤ k := by
            intro f k hf y hy
            rw [M.shC_map] at hy
            obtain ⟨x, hx, rfl⟩ := List.mem_map.mp hy
            obtain ⟨i, hi⟩ := List.getElem?_of_mem hx
            obtain ⟨v, _, r⟩ := hA5.getR hi
            exact hf v x _ r
          have hl3 : (M.shC cs5).length ≤ 3 := by
            rw [M.shC_map, List.length_map]
            omega
          refine hq _ (.many bb cs5) _ (e15.trans (.of sall)) (hB5.keep sall) ⟨?_, ?_, ?_, ?_⟩
          · unfold CAt
            refine ⟨a, u, vs5, rfl, upd_same, sa _ _ upd_same, cAtL_iff.mpr (hA5.imp fun v x r => r.1.keep (.of sall))⟩
          · show M.wfC cs5
            rw [M.wfC_iff]
            intro x hx
            obtain ⟨i, hi⟩ := List.getElem?_of_mem hx
            obtain ⟨v, _, r⟩ := hA5.getR hi
            exact r.2.1
          · show M.om (M.nq bb ++ (M.q "(" ++ (TL.joinL (M.q ", ") (M.shC cs5) ++ M.q ")"))) ≤ 3 * cO d' + 5
            have h1 := join_om (b := M.q ", ") (k := cO d') (hsh M.om _ fun v x H r => r.2.2.1) hl3
            rw [M.om_app, M.om_app, M.om_app, show M.om (M.nq bb) = 0 from by cases bb <;> decide, show M.om (M.q "(") = 3 from by decide, show M.om (M.q ")") = 0 from by decide]
            rw [show M.om (M.q ", ") = 1 from by decide] at h1
            omega
          · show (M.nq bb ++ (M.q "(" ++ (TL.joinL (M.q ", ") (M.shC cs5) ++ M.q ")"))).length ≤ 3 * cL d' + 9
            have h1 := join_le (b := M.q ", ") (k := cL d') (hsh List.length _ fun v x H r => r.2.2.2) hl3
            simp only [List.length_append, show (M.nq bb).length = 3 from by cases bb <;> decide, show (M.q "(").length = 1 from by decide, show (M.q ")").length = 1 from by decide]
            rw [show (M.q ", ").length = 2 from by decide] at h1
            omega
        rcases n2 with rfl | rfl
        · refine ⟨l, _, _, _, rfl, rfl, sql upd_same, at0, _, rfl, D, vs5, rfl, .inl ⟨sql hD6, fun u hu => ⟨by show 2 ≤ sizeLine; decide, fun a ha => ?_⟩⟩⟩
          have := fin true u hu a ha
          rw [show M.nq true = M.q "all" from rfl, ← sq "all"] at this
          exact this
        · refine ⟨l, _, _, _, rfl, rfl, sql upd_same, at1, _, rfl, D, vs5, rfl, .inl ⟨sql hD6, fun u hu => ⟨by show 2 ≤ sizeLine; decide, fun a ha => ?_⟩⟩⟩
          have := fin false u hu a ha
          rw [show M.nq false = M.q "any" from rfl, ← sq "any"] at this
          exact this
end
end K91
end

section
set_option Elab.async false
set_option linter.all false
set_option maxRecDepth 100000
set_option maxHeartbeats 4000000
/-! k91: the parts drawn. -/
namespace K91
open PySem PySem.Spec PyProof.Rows L2 He HL
theorem joinN {f : List Nat → Nat} (hf0 : f [] = 0) (hf : ∀ a b, f (a ++ b) = f a + f b) {b : List Nat} {k : Nat} : ∀ {ys : List (List Nat)}, (∀ y ∈ ys, f y ≤ k) → f (TL.joinL b ys) ≤ ys.length * (k + f b)
  | [], _ => by simp [TL.joinL, hf0]
  | [x], h => by
    have := h x (by simp)
    simp only [TL.joinL, List.length_cons, List.length_nil]
    omega
  | x :: y :: r, h => by
    have h1 := h x (by simp)
    have ih := joinN hf0 hf (b := b) (k := k) (ys := y :: r) fun z hz => h z (by simp [List.mem_cons.mp hz])
    have e : TL.joinL b (x :: y :: r) = x ++ (b ++ TL.joinL b (y :: r)) := rfl
    rw [e, hf, hf, List.length_cons, Nat.succ_mul]
    omega
theorem num_small : ∀ k, k < 200 → (TL.numL k).length ≤ 3 ∧ M.om (TL.numL k) = 0 := by decide +kernel
section
variable {w : World} {K : PySem.W.Frag} {mg : Str → Option Value} {base : Heap}
/-- what parts are drawn from -/
def Kit (H : Hp) (k : Addr) : Prop := ∃ (t1 t2 t3 : Addr) (n1 n2 n3 : List (List Nat)) (e : Nat), H k = some (.tup [.ref t1, .ref t2, .ref t3, .int (e : Nat)]) ∧ Names H t1 n1 ∧ Names H t2 n2 ∧ Names H t3 n3 ∧ e ≤ 10
theorem Kit.keep {H H' : Hp} {k : Addr} (h : Kit H k) (e : TupK H H') : Kit H' k := let ⟨t1, t2, t3, n1, n2, n3, x, h1, h2, h3, h4, h5⟩ := h; ⟨t1, t2, t3, n1, n2, n3, x, e _ _ h1, h2.keep e, h3.keep e, h4.keep e, h5⟩
/-- a drawn part -/
def PD (room : Nat) (v : V) (p : M.Part) (H : Hp) : Prop := PAt H p v ∧ p.wf ∧ M.om p.sh ≤ 10 * room ∧ p.sh.length ≤ 60 * room
abbrev n_law_leaf : List Str := ["_law_bag_here", "_law_kit", "_law_loops", "_law_asks", "_law_steps", "_law_calls", "_law_beyond", "_law_way"]
theorem sc_law_leaf : FnScope n_law_leaf ["_law_bag_here", "_law_kit", "_law_loops"] (defScope s_law_leaf) := ⟨rfl, rfl, rfl, by decide +kernel, rfl, by decide +kernel, by decide +kernel⟩
theorem bi_law_leaf : ∀ (kV doc pm : Value) (an : Option Addr) (cdv ct : Value) (us : List Value), us.length = 3 → bindArgs (PySem.W.fnOf d_law_leaf.name d_law_leaf.qual d_law_leaf.params d_law_leaf.body d_law_leaf.scope .none kV doc pm an cdv ct) ⟨us, []⟩ = pure ([("_law_bag_here" : Str), ("_law_kit" : Str), ("_law_loops" : Str)].zip us) := fun kV doc pm an cdv ct us hu => by
  match us, hu with
  | [u0, u1, u2], _ => rfl
def spLeaf : Sp := fun vs H Q _ => ∃ b c k loops, vs = [.ref b, .ref k, .int (loops : Nat)] ∧ Bag H b c ∧ Kit H k ∧ loops ≤ 100 ∧ ∀ v p H', SameB b H H' → Bag H' b c → PD 1 v p H' → Q v H'
theorem o_leaf (W : Wl K mg) : OkD w K mg base CX0 3 d_law_leaf ["_law_bag_here", "_law_kit", "_law_loops"] spLeaf := by
  have O__law_take := o_take (w := w) (base := base) W
  have O__law_one := o_one (w := w) (base := base) W
  refine HL.ok_of0 W.D_law_leaf sc_law_leaf (fun vs H Q E ⟨_, _, _, _, h, _⟩ => by rw [h]; rfl) bi_law_leaf fun cdv A outer s H vs Q E hr h => ?_
  have nd := sc_law_leaf.nd
  have hun := hr.un
  refine ⟨_, (pss_cons (ps_asg (pv 1) (pg_tup (by rfl) (pgs_cons (pg_name (i := 3) nd rfl (Or.inl rfl)) (pgs_cons (pg_name (i := 4) nd rfl (Or.inl rfl)) (pgs_cons (pg_name (i := 5) nd rfl (Or.inl rfl)) (pgs_cons (pg_name (i := 6) nd rfl (Or.inl rfl)) pgs_nil))))))
    (pss_cons (ps_set (i := 7) nd rfl (Or.inl rfl) (pe_cal O__law_take (hr.mono (by omega)) W.g__law_take pass0 (pa_cons (pv 0) (pa_cons pe_int pa_nil))))
    (pss_cons (ps_if (pt_cmpR op_lt (pv 7) pe_int (nomark _)) (pss_one (ps_ret (pe_ix ix_list (pe_lst (pa_cons (pe_tup (pa_cons pe_str (pa_cons (pe_tup pa_nil) pa_nil))) (pa_cons (pe_tup (pa_cons pe_str pa_nil)) pa_nil))) (pv 7) (fun _ _ => rfl)))) pss_nil)
    (pss_cons (ps_if (PW.pt (pw_and (pt_cmpR op_lt (pv 7) pe_int (nomark _)) (pw_and1 (pt_cmpR op_gt (pe_op op_add (pv 2) (pv 6)) pe_int (nomark _))))) (pss_one (ps_ret (pe_tup (pa_cons pe_str (pa_cons (pe_op op_add pe_int (pe_cal O__law_take (hr.mono (by omega)) W.g__law_take pass0 (pa_cons (pv 0) (pa_cons (pe_op op_add (pv 2) (pv 6)) pa_nil)))) pa_nil))))) pss_nil)
    (pss_cons (ps_if (PW.pt (pw_and (pt_cmpR op_lt (pv 7) pe_int (nomark _)) (pw_and1 (pt_cmpR XP.op_neE (pv 5) (pe_tup pa_nil) (nomark _))))) (pss_one (ps_ret (pe_tup (pa_cons pe_str (pa_cons (pe_cal O__law_one (hr.mono (by omega)) W.g__law_one pass0 (pa_cons (pv 0) (pa_cons (pv 5) pa_nil))) pa_nil))))) pss_nil)
    (pss_one (ps_ret (pe_ifExp (pt_cmpR XP.op_neE (pv 4) (pe_tup pa_nil) (nomark _)) (pe_tup (pa_cons pe_str (pa_cons (pe_cal O__law_one (hr.mono (by omega)) W.g__law_one pass0 (pa_cons (pv 0) (pa_cons (pv 4) pa_nil))) pa_nil))) (pe_tup (pa_cons pe_str (pa_cons (pe_tup pa_nil) pa_nil))))))))))), ?_⟩
  obtain ⟨b, c, k, loops, rfl, hB, ⟨t1, t2, t3, n1, n2, n3, e, hk, hN1, hN2, hN3, he⟩, hlo, hq⟩ := h
  refine ⟨_, rfl, k, _, rfl, sqt hk, rfl, _, _, rfl, _, _, rfl, _, _, rfl, _, _, rfl, rfl, _, rfl, b, c, 9, rfl, by decide, by decide, hB, fun way H1 hway e1 hB1 => ?_⟩
  have tk1 := hB.tup e1
  have hN2' := hN2.keep tk1
  have hN3' := hN3.keep tk1
  have hu2 : (A.deeper (envOfC d_law_leaf.qual d_law_leaf.scope s.heap.objs.size (fAd K d_law_leaf.at_) cdv)).units + 10 < cLine := by omega
  have el : ((loops : Nat) : Int) + ((e : Nat) : Int) = ((loops + e : Nat) : Int) := by omega
  dsimp only
  refine sif (way < 2) (fun Q' hQ' => ?_) (fun h2 H2 e2 => ?_) (fun h2 H2 e2 => ?_)
  · refine ⟨_, rfl, _, _, rfl, rfl, _, rfl, ?_⟩
    have := hQ' H1 (Same.refl _)
    rwa [show decide (way < 2) = decide (((way : Nat) : Int) < 2) from decide_eq_decide.mpr (by omega)] at this
  · have hB2 := hB1.keep e2
    have e02 : SameB b H H2 := e1.trans (.of e2)
    refine ⟨Nat.zero_le _, fun x0 hx0 => ⟨by show 2 ≤ sizeLine; decide, fun x1 hx1 => ⟨by show 1 ≤ sizeLine; decide, fun x2 hx2 => ⟨by show 2 ≤ sizeLine; decide, fun l hl => ?_⟩⟩⟩⟩
    have s0 := same_new (o := .tup []) hx0
    have s1 := same_new (o := .tup [V.str "row", V.ref x0]) hx1
    have s2 := same_new (o := .tup [V.str "back"]) hx2
    have s3 := same_new (o := .lst [V.ref x1, V.ref x2]) hl
    have sall := ((s0.trans s1).trans s2).trans s3
    have n2 : way = 0 ∨ way = 1 := by omega
    rcases n2 with rfl | rfl
    · refine ⟨_, rfl, l, _, _, _, rfl, rfl, sql upd_same, at0, hq _ (.row []) _ (e02.trans (.of sall)) (hB2.keep sall) ⟨?_, trivial, by decide, by decide⟩⟩
      unfold PAt
      refine ⟨x1, x0, [], rfl, ?_, s3 _ _ (s2 _ _ (s1 _ _ upd_same)), by unfold PAtL; rfl⟩
      rw [← sq "row"]
      exact s3 _ _ (s2 _ _ upd_same)
    · refine ⟨_, rfl, l, _, _, _, rfl, rfl, sql upd_same, at1, hq _ .back _ (e02.trans (.of sall)) (hB2.keep sall) ⟨?_, trivial, by decide, by decide⟩⟩
      unfold PAt
      refine ⟨x2, rfl, ?_⟩
      rw [← sq "back"]
      exact s3 _ _ upd_same
  refine sif (way < 4 ∧ loops + e > 0) (fun Q' hQ' => ?_) (fun h4 H3 e3 => ?_) (fun h4 H3 e3 => ?_)
  · refine ⟨_, rfl, _, _, rfl, rfl, _, rfl, ?_⟩
    by_cases hw : way < 4
    · refine iteE true (decide_eq_true (by omega)) (iteT ⟨_, rfl, _, rfl, _, _, rfl, rfl, _, _, rfl, rfl, _, rfl, ?_⟩)
      have := hQ' H2 (Same.refl _)
      rwa [show decide (way < 4 ∧ loops + e > 0) = decide (((loops : Nat) : Int) + ((e : Nat) : Int) > 0) from decide_eq_decide.mpr (by omega)] at this
    · refine iteE false (decide_eq_false (by omega)) (iteF ?_)
      have := hQ' H2 (Same.refl _)
      rwa [decide_eq_false (fun z => hw z.1)] at this
  · have hB3 := (hB1.keep e2).keep e3
    have e03 : SameB b H H3 := e1.trans (.of (e2.trans e3))
    refine ⟨_, rfl, _, rfl, _, rfl, _, _, rfl, rfl, b, c, loops + e, (congrArg (fun z => [V.ref b, V.int z]) el), h4.2, by omega, hB3, fun n H4 hn e4 hB4 => ⟨_, _, rfl, rfl, by show 2 ≤ sizeLine; decide, fun a ha => ?_⟩⟩
    have en : (1 : Int) + ((n : Nat) : Int) = ((1 + n : Nat) : Int) := by omega
    obtain ⟨q1, q2⟩ := num_small (1 + n) (by omega)
    refine hq _ (.leave (1 + n)) _ ((e03.trans e4).new ha) (hB4.keep (same_new ha)) ⟨?_, ?_, ?_, ?_⟩
    · unfold PAt
      refine ⟨a, rfl, ?_⟩
      rw [upd_same, sq "leave", ← en]
    · show 1 + n < 1000000000
      omega
    · show M.om (M.q "leave" ++ (M.q " " ++ TL.numL (1 + n))) ≤ _
      rw [M.om_app, M.om_app, q2, show M.om (M.q "leave") = 0 from by decide, show M.om (M.q " ") = 1 from by decide]
      omega
    · show (M.q "leave" ++ (M.q " " ++ TL.numL (1 + n))).length ≤ _
      simp only [List.length_append, show (M.q "leave").length = 5 from by decide, show (M.q " ").length = 1 from by decide]
      omega
  refine sif (way < 6 ∧ n3 ≠ []) (fun Q' hQ' => ?_) (fun h6 H4 e4 => ?_) (fun h6 H4 e4 => ?_)
  · refine ⟨_, rfl, _, _, rfl, rfl, _, rfl, ?_⟩
    by_cases hw : way < 6
    · refine iteE true (decide_eq_true (by omega)) (iteT ⟨_, rfl, Nat.zero_le _, fun t0 ht0 => ?_⟩)
      refine names_ne (hN3'.keep (.of ((e2.trans e3).trans (same_new ht0)))) upd_same hu2 ⟨_, rfl, ?_⟩
      have e9 : (!n3.isEmpty) = decide (way < 6 ∧ n3 ≠ []) := by
        cases n3 with
        | nil => exact (decide_eq_false (by simp)).symm
        | cons n ns => exact (decide_eq_true ⟨hw, by simp⟩).symm
      have := hQ' _ (same_new (o := .tup []) ht0)
      rw [← e9] at this
      exact this
    · refine iteE false (decide_eq_false (by omega)) (iteF ?_)
      have := hQ' H3 (Same.refl _)
      rwa [decide_eq_false (fun z => hw z.1)] at this
  · have s24 := (e2.trans e3).trans e4
    have hB4 := hB1.keep s24
    have e04 : SameB b H H4 := e1.trans (.of s24)
    refine ⟨_, rfl, _, rfl, one_name (E := L2.E0) hB4 (hN3'.keep (.of s24)) h6.2 fun n hn H5 e5 hB5 => ⟨by show 2 ≤ sizeLine; decide, fun a ha => ?_⟩⟩
    refine hq _ (.call n) _ ((e04.trans e5).new ha) (hB5.keep (same_new ha)) ⟨?_, hn, ?_, ?_⟩
    · unfold PAt
      exact ⟨a, rfl, by rw [upd_same, sq "call"]⟩
    · show M.om (M.q "call" ++ (M.q " " ++ n)) ≤ _
      rw [M.om_app, M.om_app, nm_om hn.all, show M.om (M.q "call") = 0 from by decide, show M.om (M.q " ") = 1 from by decide]
      omega
    · show (M.q "call" ++ (M.q " " ++ n)).length ≤ _
      simp only [List.length_append, show (M.q "call").length = 4 from by decide, show (M.q " ").length = 1 from by decide]
      have := hn.most
      omega
  have s24 := (e2.trans e3).trans e4
  have hB4 := hB1.keep s24
  have e04 : SameB b H H4 := e1.trans (.of s24)
  have hN2'' := hN2'.keep (.of s24)
  refine ⟨_, rfl, Nat.zero_le _, fun t0 ht0 => ?_⟩
  have st0 := same_new (o := .tup []) ht0
  refine names_ne (hN2''.keep (.of st0)) upd_same hu2 ⟨_, rfl, ?_⟩
  have hB5 := hB4.keep st0
  have e05 := e04.trans (.of st0)
  cases n2 with
  | nil =>
    refine iteE false rfl (iteF ⟨Nat.zero_le _, fun x0 hx0 => ⟨by show 2 ≤ sizeLine; decide, fun a ha => ?_⟩⟩)
    have s0 := same_new (o := .tup []) hx0
    have s1 := same_new (o := .tup [V.str "row", V.ref x0]) ha
    refine hq _ (.row []) _ (e05.trans (.of (s0.trans s1))) (hB5.keep (s0.trans s1)) ⟨?_, trivial, by decide, by decide⟩
    unfold PAt
    refine ⟨a, x0, [], rfl, by rw [upd_same, sq "row"], s1 _ _ upd_same, by unfold PAtL; rfl⟩
  | cons n0 ns0 =>
    refine iteE true rfl (iteT ⟨_, rfl, _, rfl, one_name (E := L2.E0) hB5 (hN2''.keep (.of st0)) (by simp) fun n hn H6 e6 hB6 => ⟨by show 2 ≤ sizeLine; decide, fun a ha => ?_⟩⟩)
    refine hq _ (.step n) _ ((e05.trans e6).new ha) (hB6.keep (same_new ha)) ⟨?_, hn, ?_, ?_⟩
    · unfold PAt
      exact ⟨a, rfl, by rw [upd_same, sq "step"]⟩
    · show M.om (M.q "do" ++ (M.q " " ++ n)) ≤ _
      rw [M.om_app, M.om_app, nm_om hn.all, show M.om (M.q "do") = 0 from by decide, show M.om (M.q " ") = 1 from by decide]
      omega
    · show (M.q "do" ++ (M.q " " ++ n)).length ≤ _
      simp only [List.length_append, show (M.q "do").length = 2 from by decide, show (M.q " ").length = 1 from by decide]
      have := hn.most
      omega
abbrev n_law_part : List Str := ["_law_bag_here", "_law_kit", "_law_room", "_law_deep", "_law_loops", "_law_way", "_law_many", "_law_size", "_law_condition_here", "_law_half", "_law_one_here", "_law_k"]
theorem sc_law_part : FnScope n_law_part ["_law_bag_here", "_law_kit", "_law_room", "_law_deep", "_law_loops"] (defScope s_law_part) := ⟨rfl, rfl, rfl, by decide +kernel, rfl, by decide +kernel, by decide +kernel⟩
theorem bi_law_part : ∀ (kV doc pm : Value) (an : Option Addr) (cdv ct : Value) (us : List Value), us.length = 5 → bindArgs (PySem.W.fnOf d_law_part.name d_law_part.qual d_law_part.params d_law_part.body d_law_part.scope .none kV doc pm an cdv ct) ⟨us, []⟩ = pure ([("_law_bag_here" : Str), ("_law_kit" : Str), ("_law_room" : Str), ("_law_deep" : Str), ("_law_loops" : Str)].zip us) := fun kV doc pm an cdv ct us hu => by
  match us, hu with
  | [u0, u1, u2, u3, u4], _ => rfl
def spDraw (d : Nat) : Sp := fun vs H Q _ => ∃ b c k room loops, vs = [.ref b, .ref k, .int (room : Nat), .int (d : Nat), .int (loops : Nat)] ∧ Bag H b c ∧ Kit H k ∧ 1 ≤ room ∧ room ≤ 1000 ∧ loops + d ≤ 100 ∧ ∀ v p H', SameB b H H' → Bag H' b c → PD room v p H' → Q v H'
theorem o_draw (W : Wl K mg) : ∀ (d L : Nat), d + 5 ≤ L → OkD w K mg base CX0 L d_law_part ["_law_bag_here", "_law_kit", "_law_room", "_law_deep", "_law_loops"] (spDraw d) := by
  intro d
  induction d using Nat.strongRecOn with
  | _ d ih =>
  intro L hL
  obtain ⟨k0, rfl⟩ : ∃ k, L = k + 1 := ⟨L - 1, by omega⟩
  have O__law_take := o_take (w := w) (base := base) W
  have O__law_leaf := o_leaf (w := w) (base := base) W
  have O__law_condition := o_cnd (w := w) (base := base) W 1 4 (by omega)
  have O__law_part : OkD w K mg base CX0 k0 d_law_part ["_law_bag_here", "_law_kit", "_law_room", "_law_deep", "_law_loops"] (fun vs H Q E => ∃ d', d = d' + 1 ∧ spDraw d' vs H Q E) := by
    by_cases h0 : d = 0
    · obtain ⟨j, rfl⟩ : ∃ j, k0 = j + 1 := ⟨k0 - 1, by omega⟩
      exact o_vac W.D_law_part sc_law_part bi_law_part fun vs H Q E ⟨d', z, _⟩ => by omega
    · obtain ⟨d', rfl⟩ : ∃ d', d = d' + 1 := ⟨d - 1, by omega⟩
      exact (ih d' (by omega) k0 (by omega)).imp fun vs H Q E ⟨d2, z, q⟩ => by
        obtain rfl : d' = d2 := by omega
        exact q
  refine HL.ok_of0 W.D_law_part sc_law_part (fun vs H Q E ⟨_, _, _, _, _, h, _⟩ => by rw [h]; rfl) bi_law_part fun cdv A outer s H vs Q E hr h => ?_
  have nd := sc_law_part.nd
  refine ⟨_, (pss_cons (ps_set (i := 5) nd rfl (Or.inl rfl) (pe_cal O__law_take (hr.mono (by omega)) W.g__law_take pass0 (pa_cons (pv 0) (pa_cons pe_int pa_nil))))
    (pss_cons (ps_if (PW.pt (pw_or (pt_cmpR op_lt (pv 2) pe_int (nomark _)) (pw_or (pt_cmpR op_lt (pv 3) pe_int (nomark _)) (pw_or1 (pt_cmpR op_lt (pv 5) pe_int (nomark _)))))) (pss_one (ps_ret (pe_cal O__law_leaf (hr.mono (by omega)) W.g__law_leaf pass0 (pa_cons (pv 0) (pa_cons (pv 1) (pa_cons (pv 4) pa_nil)))))) pss_nil)
    (pss_cons (ps_if (pt_cmpR op_lt (pv 5) pe_int (nomark _)) (pss_cons (ps_set (i := 6) nd rfl (Or.inl rfl) (pe_op op_add pe_int (pe_cal O__law_take (hr.mono (by omega)) W.g__law_take pass0 (pa_cons (pv 0) (pa_cons (pe_callB (call_min2 rfl) (by rfl) W.f_min (by decide +kernel) (pa_cons (pe_op op_sub (pv 2) pe_int) (pa_cons pe_int pa_nil))) pa_nil)))))
      (pss_cons (ps_set (i := 7) nd rfl (Or.inr rfl) (pe_op op_fdivN (pe_callTy call_int1 (by rfl) W.f_int (by decide +kernel) (pa_cons (pe_op op_sub (pv 2) pe_int) pa_nil)) (pv 6)))
      (pss_one (ps_ret (pe_tup (pa_cons pe_str (pa_cons (pe_callTy call_tuple_of (by rfl) W.f_tuple (by decide +kernel) (pa_cons (pe_lc (own := [("_law_k", 11)]) (g := gName 11) (tt := tYes) (by rfl) nd (pi_range1 (by rfl) W.f_range (pa_cons (pv 6) pa_nil)) (blkOk_by (own := [("_law_k", 11)]) (N := n_law_part) (sc := defScope s_law_part) (by decide +kernel)) (fun _ _ _ _ _ => pg_name (i := 11) nd rfl (Or.inl rfl)) (fun _ _ _ _ _ => pts_nil) (fun _ _ _ _ _ => (pe_cal O__law_part (hr.mono (by omega)) W.g__law_part pass0 (pa_cons (pv 0) (pa_cons (pv 1) (pa_cons (pv 7) (pa_cons (pe_op op_sub (pv 3) pe_int) (pa_cons (pv 4) pa_nil)))))))) pa_nil)) pa_nil))))))) pss_nil)
    (pss_cons (ps_par (i := 8) (j := 9) (by rfl) nd rfl rfl (by decide) rfl rfl (pa_cons (pe_cal O__law_condition (hr.mono (by omega)) W.g__law_condition pass0 (pa_cons (pv 0) (pa_cons (pe_ix ix_tup (pv 1) pe_int (fun _ _ => rfl)) (pa_cons pe_int pa_nil)))) (pa_cons (pe_op op_fdivN (pe_callTy call_int1 (by rfl) W.f_int (by decide +kernel) (pa_cons (pe_op op_sub (pv 2) pe_int) pa_nil)) pe_int) pa_nil)) (by rfl))
    (pss_cons (ps_if (PW.pt (pw_and (pt_cmpR op_lt (pv 5) pe_int (nomark _)) (pw_and1 (pt_cmpR op_gt (pv 9) pe_int (nomark _))))) (pss_cons (ps_set (i := 10) nd rfl (Or.inl rfl) (pe_cal O__law_part (hr.mono (by omega)) W.g__law_part pass0 (pa_cons (pv 0) (pa_cons (pv 1) (pa_cons (pv 9) (pa_cons (pe_op op_sub (pv 3) pe_int) (pa_cons (pv 4) pa_nil)))))))
      (pss_one (ps_ret (pe_tup (pa_cons pe_str (pa_cons (pv 8) (pa_cons (pv 10) (pa_cons (pe_cal O__law_part (hr.mono (by omega)) W.g__law_part pass0 (pa_cons (pv 0) (pa_cons (pv 1) (pa_cons (pv 9) (pa_cons (pe_op op_sub (pv 3) pe_int) (pa_cons (pv 4) pa_nil)))))) pa_nil)))))))) pss_nil)
    (pss_one (ps_ret (pe_tup (pa_cons pe_str (pa_cons (pv 8) (pa_cons (pe_cal O__law_part (hr.mono (by omega)) W.g__law_part pass0 (pa_cons (pv 0) (pa_cons (pv 1) (pa_cons (pe_op op_sub (pv 2) pe_int) (pa_cons (pe_op op_sub (pv 3) pe_int) (pa_cons (pe_op op_add (pv 4) pe_int) pa_nil)))))) pa_nil))))))))))), ?_⟩
  obtain ⟨b, c, k, room, loops, rfl, hB, hK, hr1, hr2, hlo, hq⟩ := h
  refine ⟨_, rfl, b, c, 10, rfl, by decide, by decide, hB, fun way H1 hway e1 hB1 => ?_⟩
  have hK1 := hK.keep (hB.tup e1)
  dsimp only
  refine sif (room < 2 ∨ d = 0 ∨ way < 2) (fun Q' hQ' => ?_) (fun hl H2 e2 => ?_) (fun hl H2 e2 => ?_)
  · have hh := hQ' H1 (Same.refl _)
    refine ⟨_, rfl, _, _, rfl, rfl, _, rfl, ?_⟩
    by_cases h5 : room < 2
    · refine iteE true (decide_eq_true (by omega)) (iteT ?_)
      rwa [decide_eq_true (.inl h5)] at hh
    · refine iteE false (decide_eq_false (by omega)) (iteF ⟨_, rfl, _, _, rfl, rfl, _, rfl, ?_⟩)
      by_cases h6 : d = 0
      · refine iteE true (decide_eq_true (by omega)) (iteT ?_)
        rwa [decide_eq_true (.inr (.inl h6))] at hh
      · refine iteE false (decide_eq_false (by omega)) (iteF ⟨_, rfl, _, _, rfl, rfl, _, rfl, ?_⟩)
        rwa [show decide (room < 2 ∨ d = 0 ∨ way < 2) = decide (((way : Nat) : Int) < 2) from decide_eq_decide.mpr (by omega)] at hh
  · refine ⟨_, rfl, _, rfl, _, rfl, b, c, k, loops, rfl, hB1.keep e2, hK1.keep (.of e2), by omega, fun v p H3 e3 hB3 hp => hq v p H3 (e1.trans ((SameB.of e2).trans e3)) hB3 ⟨hp.1, hp.2.1, by have := hp.2.2.1; omega, by have := hp.2.2.2; omega⟩⟩
  obtain ⟨d', rfl⟩ : ∃ d', d = d' + 1 := ⟨d - 1, by omega⟩
  have hroom2 : 2 ≤ room := by omega
  have hB2 := hB1.keep e2
  have hK2 := hK1.keep (.of e2)
  have e02 : SameB b H H2 := e1.trans (.of e2)
  have er : ((room : Nat) : Int) - 1 = ((room - 1 : Nat) : Int) := by omega
  have ed : (((d' + 1 : Nat) : Int) - 1) = ((d' : Nat) : Int) := by omega
  have fd : ∀ n m : Nat, 0 < m → ((n : Nat) : Int).fdiv ((m : Nat) : Int) = ((n / m : Nat) : Int) := fun n m hm => by
    rw [Int.fdiv_eq_ediv_of_nonneg _ (by omega)]
    exact (Int.natCast_ediv n m).symm
  refine sif (way < 5) (fun Q' hQ' => ?_) (fun h5 H3 e3 => ?_) (fun h5 H3 e3 => ?_)
  · refine ⟨_, rfl, _, _, rfl, rfl, _, rfl, ?_⟩
    have := hQ' H2 (Same.refl _)
    rwa [show decide (way < 5) = decide (((way : Nat) : Int) < 5) from decide_eq_decide.mpr (by omega)] at this
  · -- a row
    have hB3 := hB2.keep e3
    have hK3 := hK2.keep (.of e3)
    have e03 : SameB b H H3 := e02.trans (.of e3)
    obtain ⟨m0, hm0⟩ : ∃ m0 : Nat, m0 = if 4 < room - 1 then 4 else room - 1 := ⟨_, rfl⟩
    have em0 : (if (4 : Int) < ((room : Nat) : Int) - 1 then (4 : Int) else ((room : Nat) : Int) - 1) = ((m0 : Nat) : Int) := by
      rw [hm0]
      split <;> split <;> omega
    have hm1 : 1 ≤ m0 := by rw [hm0]; split <;> omega
    have hm2 : m0 ≤ 4 := by rw [hm0]; split <;> omega
    have hm3 : m0 ≤ room - 1 := by rw [hm0]; split <;> omega
    refine ⟨_, rfl, _, rfl, _, _, rfl, rfl, _, _, rfl, b, c, m0, (congrArg (fun z => [V.ref b, V.int z]) em0), by omega, by omega, hB3, fun n H4 hn e4 hB4 => ⟨_, _, rfl, rfl, ?_⟩⟩
    have hK4 := hK3.keep (hB3.tup e4)
    have e04 := e03.trans e4
    have en : (1 : Int) + ((n : Nat) : Int) = ((1 + n : Nat) : Int) := by omega
    obtain ⟨size, hsize⟩ : ∃ size : Nat, size = (room - 1) / (1 + n) := ⟨_, rfl⟩
    have es : (((room : Nat) : Int) - 1).fdiv ((1 : Int) + ((n : Nat) : Int)) = ((size : Nat) : Int) := by rw [er, en, fd _ _ (by omega), hsize]
    have hs1 : 1 ≤ size := by
      rw [hsize]
      exact (Nat.le_div_iff_mul_le (by omega)).mpr (by omega)
    have hs2 : (1 + n) * size ≤ room - 1 := by
      rw [hsize]
      exact Nat.mul_div_le _ _
    refine ⟨_, rfl, _, _, rfl, rfl, .inl ⟨_, rfl, _, rfl, _, _, rfl, rfl, ⟨by show (1 : Int) + ((n : Nat) : Int) ≠ 0; omega, by show ((1 : Int) + ((n : Nat) : Int)).natAbs < _; omega⟩, ?_⟩⟩
    have mb : ((1 : Int) + ((n : Nat) : Int)).toNat = 1 + n := by omega
    have mb1 : -(2 ^ 62) ≤ (1 : Int) + ((n : Nat) : Int) := Int.le_trans (by decide) (show (0 : Int) ≤ 1 + (n : Int) by omega)
    have mb2 : (1 : Int) + ((n : Nat) : Int) < 2 ^ 62 := Int.lt_of_le_of_lt (show (1 : Int) + ((n : Nat) : Int) ≤ 5 by omega) (by decide)
    refine ⟨_, rfl, _, rfl, mb1, mb2, fun D hD => ?_⟩
    rw [mb]
    obtain ⟨nDb, nDc⟩ := hB4.ne hD
    refine HL.lcRR (n := 1 + n) (X := XB b) (I := fun H => Bag H b c ∧ Kit H k) (R := PD size) hD (fun l => nDb) ⟨hB4.keep (same_new hD), hK4.keep (.of (same_new hD))⟩
      (fun H l h hl l' => ⟨h.1.put nDb nDc, h.2.keep ((TupK.refl H).mut hl (fun xs q => nomatch q))⟩) (small (by omega)) (fun v x H H' r e h => ⟨r.1.keep (h.1.tup e), r.2⟩)
      (fun v x H l l' r h => ⟨r.1.keep ((TupK.refl H).mut h (fun xs q => nomatch q)), r.2⟩) (fun k1 H5 Q5 hk1 e5 hB5 hq5 => ?_) fun H5 vs5 cs5 e5 hB5 hD5 hlen5 hA5 => ?_
    · refine ⟨_, rfl, _, rfl, _, rfl, _, rfl, _, _, rfl, rfl, _, rfl, d', rfl, b, c, k, size, loops, ?_, hB5.1, hB5.2, hs1, ?_, by omega, fun v x H6 e6 hB6 hx => hq5 v x H6 e6 ⟨hB6, hB5.2.keep (hB5.1.tup e6)⟩ hx⟩
      · show [V.ref b, V.ref k, V.int _, V.int _, V.int _] = _
        rw [es, ed]
      · have := Nat.div_le_self (room - 1) (1 + n)
        omega
    · have e05 : SameB b H H5 := e04.trans e5
      have hL5 := hA5.length
      refine ⟨D, vs5, rfl, .inl ⟨sql hD5, fun u hu => ⟨by show 2 ≤ sizeLine; decide, fun a ha => ?_⟩⟩⟩
      have su := same_new (o := .tup vs5) hu
      have sa := same_new (o := .tup [V.str "row", V.ref u]) ha
      have sall := su.trans sa
      have hsh : ∀ f : List Nat → Nat, ∀ k, (∀ v x H, PD size v x H → f x.sh ≤ k) → ∀ y ∈ M.shP cs5, f y ≤ k := by
        intro f k hf y hy
        rw [M.shP_map] at hy
        obtain ⟨x, hx, rfl⟩ := List.mem_map.mp hy
        obtain ⟨i, hi⟩ := List.getElem?_of_mem hx
        obtain ⟨v, _, r⟩ := hA5.getR hi
        exact hf v x _ r
      have hl3 : (M.shP cs5).length = 1 + n := by
        rw [M.shP_map, List.length_map]
        omega
      have hmul : ∀ z : Nat, (1 + n) * (z * size) ≤ z * (room - 1) := fun z => by
        rw [Nat.mul_left_comm]
        exact Nat.mul_le_mul_left z hs2
      refine hq _ (.row cs5) _ (e05.trans (.of sall)) (hB5.1.keep sall) ⟨?_, ?_, ?_, ?_⟩
      · unfold PAt
        refine ⟨a, u, vs5, rfl, by rw [upd_same, sq "row"], sa _ _ upd_same, pAtL_iff.mpr (hA5.imp fun v x r => r.1.keep (.of sall))⟩
      · show M.wfP cs5
        rw [M.wfP_iff]
        intro x hx
        obtain ⟨i, hi⟩ := List.getElem?_of_mem hx
        obtain ⟨v, _, r⟩ := hA5.getR hi
        exact r.2.1
      · show M.om (M.q "[" ++ (TL.joinL (M.q "; ") (M.shP cs5) ++ M.q "]")) ≤ 10 * room
        have h1 := joinN M.om_nil M.om_app (b := M.q "; ") (k := 10 * size) (hsh M.om _ fun v x H r => r.2.2.1)
        rw [M.om_app, M.om_app, show M.om (M.q "[") = 3 from by decide, show M.om (M.q "]") = 0 from by decide]
        rw [show M.om (M.q "; ") = 1 from by decide, hl3, Nat.mul_add] at h1
        have := hmul 10
        omega
      · show (M.q "[" ++ (TL.joinL (M.q "; ") (M.shP cs5) ++ M.q "]")).length ≤ 60 * room
        have h1 := joinN (f := List.length) rfl (fun a b => List.length_append) (b := M.q "; ") (k := 60 * size) (hsh List.length _ fun v x H r => r.2.2.2)
        simp only [List.length_append, show (M.q "[").length = 1 from by decide, show (M.q "]").length = 1 from by decide]
        rw [show (M.q "; ").length = 2 from by decide, hl3, Nat.mul_add] at h1
        have := hmul 60
        omega
  -- an if, a while
  have hB3 := hB2.keep e3
  have hK3 := hK2.keep (.of e3)
  have e03 : SameB b H H3 := e02.trans (.of e3)
  obtain ⟨t1, t2, t3, n1, n2, n3, e, hk, hN1, hN2, hN3, he⟩ := id hK3
  obtain ⟨half, hhalf⟩ : ∃ half : Nat, half = (room - 1) / 2 := ⟨_, rfl⟩
  have eh : (((room : Nat) : Int) - 1).fdiv 2 = ((half : Nat) : Int) := by rw [er, show (2 : Int) = ((2 : Nat) : Int) from rfl, fd _ _ (by decide), hhalf]
  refine ⟨_, rfl, _, rfl, k, _, _, _, rfl, rfl, sqt hk, at0, b, c, t1, n1, rfl, hB3, hN1, fun v4 x4 H4 e4 hB4 hx4 => ?_⟩
  have hK4 := hK3.keep (hB3.tup e4)
  have e04 := e03.trans e4
  refine ⟨_, rfl, _, _, rfl, rfl, .inl ⟨_, rfl, _, _, rfl, rfl, ⟨by show (2 : Int) ≠ 0; decide, by decide⟩, _, _, rfl, ?_⟩⟩
  dsimp only
  refine sif (way < 8 ∧ 0 < half) (fun Q' hQ' => ?_) (fun h8 H5 e5 => ?_) (fun h8 H5 e5 => ?_)
  · have hh := hQ' H4 (Same.refl _)
    refine ⟨_, rfl, _, _, rfl, rfl, _, rfl, ?_⟩
    by_cases hw : way < 8
    · refine iteE true (decide_eq_true (by omega)) (iteT ⟨_, rfl, _, _, congrArg V.int eh, rfl, _, rfl, ?_⟩)
      rwa [show decide (way < 8 ∧ 0 < half) = decide (((half : Nat) : Int) > 0) from decide_eq_decide.mpr (by omega)] at hh
    · refine iteE false (decide_eq_false (by omega)) (iteF ?_)
      rwa [decide_eq_false (fun z => hw z.1)] at hh
  · have hB5 := hB4.keep e5
    have hK5 := hK4.keep (.of e5)
    have e05 : SameB b H H5 := e04.trans (.of e5)
    have hh2 : 2 * half ≤ room - 1 := by rw [hhalf]; exact Nat.mul_div_le _ _
    have a5 : [V.ref b, V.ref k, V.int ((((room : Nat) : Int) - 1).fdiv 2), V.int (((d' + 1 : Nat) : Int) - 1), V.int (loops : Nat)] = [V.ref b, V.ref k, V.int (half : Nat), V.int (d' : Nat), V.int (loops : Nat)] := by rw [eh, ed]
    refine ⟨_, rfl, _, rfl, _, rfl, _, rfl, _, _, rfl, rfl, _, rfl, d', rfl, b, c, k, half, loops, a5, hB5, hK5, h8.2, by omega, by omega, fun v6 x6 H6 e6 hB6 hx6 => ?_⟩
    have tk6 := hB5.tup e6
    refine ⟨_, rfl, _, rfl, _, rfl, _, rfl, _, rfl, _, rfl, _, _, rfl, rfl, _, rfl, d', rfl, b, c, k, half, loops, a5, hB6, hK5.keep tk6, h8.2, by omega, by omega, fun v7 x7 H7 e7 hB7 hx7 => ⟨by show 4 ≤ sizeLine; decide, fun a ha => ?_⟩⟩
    have tk7 := hB6.tup e7
    have ta := TupK.of (same_new (o := .tup [V.str "if", v4, v6, v7]) ha)
    refine hq _ (.ite x4 x6 x7) _ (((e05.trans e6).trans e7).new ha) (hB7.keep (same_new ha)) ⟨?_, ⟨hx4.2.1, hx6.2.1, hx7.2.1⟩, ?_, ?_⟩
    · unfold PAt
      exact ⟨a, v4, v6, v7, rfl, by rw [upd_same, sq "if"], hx4.1.keep (((TupK.of e5).trans (tk6.trans tk7)).trans ta), hx6.1.keep (tk7.trans ta), hx7.1.keep ta⟩
    · show M.om (M.q "if " ++ (x4.sh ++ (M.q " then " ++ (x6.sh ++ (M.q " else " ++ x7.sh))))) ≤ _
      rw [M.om_app, M.om_app, M.om_app, M.om_app, M.om_app, show M.om (M.q "if ") = 1 from by decide, show M.om (M.q " then ") = 2 from by decide, show M.om (M.q " else ") = 2 from by decide]
      have q1 : M.om x4.sh ≤ 5 := hx4.2.2.1
      have q2 := hx6.2.2.1
      have q3 := hx7.2.2.1
      omega
    · show (M.q "if " ++ (x4.sh ++ (M.q " then " ++ (x6.sh ++ (M.q " else " ++ x7.sh))))).length ≤ _
      simp only [List.length_append, show (M.q "if ").length = 3 from by decide, show (M.q " then ").length = 6 from by decide, show (M.q " else ").length = 6 from by decide]
      have q1 : x4.sh.length ≤ 36 := hx4.2.2.2
      have q2 := hx6.2.2.2
      have q3 := hx7.2.2.2
      omega
  · have hB5 := hB4.keep e5
    have hK5 := hK4.keep (.of e5)
    have e05 : SameB b H H5 := e04.trans (.of e5)
    have el : ((loops : Nat) : Int) + 1 = ((loops + 1 : Nat) : Int) := by omega
    have a5 : [V.ref b, V.ref k, V.int (((room : Nat) : Int) - 1), V.int (((d' + 1 : Nat) : Int) - 1), V.int (((loops : Nat) : Int) + 1)] = [V.ref b, V.ref k, V.int (room - 1 : Nat), V.int (d' : Nat), V.int (loops + 1 : Nat)] := by rw [er, ed, el]
    refine ⟨_, rfl, _, rfl, _, rfl, _, rfl, _, _, rfl, rfl, _, rfl, _, _, rfl, rfl, _, rfl, _, _, rfl, rfl, d', rfl, b, c, k, room - 1, loops + 1, a5, hB5, hK5, by omega, by omega, by omega, fun v6 x6 H6 e6 hB6 hx6 => ⟨by show 3 ≤ sizeLine; decide, fun a ha => ?_⟩⟩
    have tk6 := hB5.tup e6
    have ta := TupK.of (same_new (o := .tup [V.str "while", v4, v6]) ha)
    refine hq _ (.whil x4 x6) _ ((e05.trans e6).new ha) (hB6.keep (same_new ha)) ⟨?_, ⟨hx4.2.1, hx6.2.1⟩, ?_, ?_⟩
    · unfold PAt
      exact ⟨a, v4, v6, rfl, by rw [upd_same, sq "while"], hx4.1.keep (((TupK.of e5).trans tk6).trans ta), hx6.1.keep ta⟩
    · show M.om (M.q "while " ++ (x4.sh ++ (M.q ": " ++ x6.sh))) ≤ _
      rw [M.om_app, M.om_app, M.om_app, show M.om (M.q "while ") = 1 from by decide, show M.om (M.q ": ") = 1 from by decide]
      have q1 : M.om x4.sh ≤ 5 := hx4.2.2.1
      have q2 := hx6.2.2.1
      omega
    · show (M.q "while " ++ (x4.sh ++ (M.q ": " ++ x6.sh))).length ≤ _
      simp only [List.length_append, show (M.q "while ").length = 6 from by decide, show (M.q ": ").length = 2 from by decide]
      have q1 : x4.sh.length ≤ 36 := hx4.2.2.2
      have q2 := hx6.2.2.2
      omega
end
end K91
end

section
set_option Elab.async false
set_option linter.all false
set_option maxRecDepth 100000
set_option maxHeartbeats 4000000
/-! k91: the texts drawn and spoilt. -/
namespace K91
open PySem PySem.Spec PyProof.Rows L2 He HL
section
variable {w : World} {K : PySem.W.Frag} {mg : Str → Option Value} {base : Heap}
theorem PAt.isTup {H : Hp} {p : M.Part} {v : V} (h : PAt H p v) : ∃ a xs, v = .ref a ∧ H a = some (.tup xs) := by
  cases p with
  | back => unfold PAt at h; obtain ⟨a, r, h⟩ := h; exact ⟨a, _, r, h⟩
  | leave k => unfold PAt at h; obtain ⟨a, r, h⟩ := h; exact ⟨a, _, r, h⟩
  | step n => unfold PAt at h; obtain ⟨a, r, h⟩ := h; exact ⟨a, _, r, h⟩
  | call n => unfold PAt at h; obtain ⟨a, r, h⟩ := h; exact ⟨a, _, r, h⟩
  | row ps => unfold PAt at h; obtain ⟨a, t, us, r, h, _⟩ := h; exact ⟨a, _, r, h⟩
  | whil c p => unfold PAt at h; obtain ⟨a, u, x, r, h, _⟩ := h; exact ⟨a, _, r, h⟩
  | ite c p q => unfold PAt at h; obtain ⟨a, u, x, y, r, h, _⟩ := h; exact ⟨a, _, r, h⟩
theorem CAt.isTup {H : Hp} {p : M.Cond} {v : V} (h : CAt H p v) : ∃ a xs, v = .ref a ∧ H a = some (.tup xs) := by
  cases p with
  | word b => unfold CAt at h; obtain ⟨a, r, h⟩ := h; exact ⟨a, _, r, h⟩
  | ask n => unfold CAt at h; obtain ⟨a, r, h⟩ := h; exact ⟨a, _, r, h⟩
  | neg c => unfold CAt at h; obtain ⟨a, u, r, h, _⟩ := h; exact ⟨a, _, r, h⟩
  | many b cs => unfold CAt at h; obtain ⟨a, t, us, r, h, _⟩ := h; exact ⟨a, _, r, h⟩
/-- no text, and none later -/
def NoTx (H : Hp) (b : Addr) (v : V) : Prop := v = .non ∨ (∃ i, v = .int i) ∨ (∃ a xs, v = .ref a ∧ H a = some (.tup xs)) ∨ ∃ a xs, v = .ref a ∧ H a = some (.lst xs) ∧ a ≠ b
theorem NoTx.no {H : Hp} {b : Addr} {v : V} (h : NoTx H b v) : NoStr K H v := by
  rcases h with rfl | ⟨i, rfl⟩ | ⟨a, xs, rfl, h⟩ | ⟨a, xs, rfl, h, _⟩
  · exact ⟨_, .base .non, kit_ty (by decide +kernel)⟩
  · exact ⟨_, .base (.int i), kit_ty (by decide +kernel)⟩
  · exact ⟨_, ty_tup h, kit_ty (by decide +kernel)⟩
  · exact ⟨_, .base (.lst h), kit_ty (by decide +kernel)⟩
theorem NoTx.keepB {H H' : Hp} {b c : Addr} {v : V} (h : NoTx H b v) (hB : Bag H b c) (e : SameB b H H') : NoTx H' b v := by
  rcases h with rfl | ⟨i, rfl⟩ | ⟨a, xs, rfl, h⟩ | ⟨a, xs, rfl, h, n⟩
  · exact .inl rfl
  · exact .inr (.inl ⟨i, rfl⟩)
  · exact .inr (.inr (.inl ⟨a, xs, rfl, hB.tup e _ _ h⟩))
  · exact .inr (.inr (.inr ⟨a, xs, rfl, e _ _ h n, n⟩))
/-- a text to read, or none -/
def Tx (H : Hp) (b : Addr) (v : V) : Prop := (∃ s, v = .str (S s) ∧ s.length ≤ 1000 ∧ M.om s ≤ 130) ∨ NoTx H b v
abbrev n_law_text : List Str := ["_law_bag_here", "_law_asks", "_law_steps", "_law_part_here", "_law_condition_here", "_law_some"]
theorem sc_law_text : FnScope n_law_text ["_law_bag_here"] (defScope s_law_text) := ⟨rfl, rfl, rfl, by decide +kernel, rfl, by decide +kernel, by decide +kernel⟩
theorem bi_law_text : ∀ (kV doc pm : Value) (an : Option Addr) (cdv ct : Value) (us : List Value), us.length = 1 → bindArgs (PySem.W.fnOf d_law_text.name d_law_text.qual d_law_text.params d_law_text.body d_law_text.scope .none kV doc pm an cdv ct) ⟨us, []⟩ = pure ([("_law_bag_here" : Str)].zip us) := fun kV doc pm an cdv ct us hu => by
  match us, hu with
  | [u0], _ => rfl
def spText : Sp := fun vs H Q _ => ∃ b c, vs = [.ref b] ∧ Bag H b c ∧ ∀ v H', SameB b H H' → Bag H' b c → Tx H' b v → Q v H'
theorem o_text (W : Wl K mg) : OkD w K mg base CX0 150 d_law_text ["_law_bag_here"] spText := by
  have O__law_take := o_take (w := w) (base := base) W
  have O__law_one := o_one (w := w) (base := base) W
  have O__law_names := o_names (w := w) (base := base) W
  have O__law_part := o_draw (w := w) (base := base) W 5 10 (by omega)
  have O__law_condition := o_cnd (w := w) (base := base) W 2 5 (by omega)
  have O__law_part_text := o_ptext (w := w) (base := base) W 140 142 (fun _ => by omega) (fun _ => by omega)
  have O__law_condition_text := o_ctext (w := w) (base := base) W 140 142 (fun _ => by omega) (fun _ => by omega)
  refine HL.ok_of0 W.D_law_text sc_law_text (fun vs H Q E ⟨_, _, h, _⟩ => by rw [h]; rfl) bi_law_text fun cdv A outer s H vs Q E hr h => ?_
  have nd := sc_law_text.nd
  refine ⟨_, (pss_cons (ps_par (i := 1) (j := 2) (by rfl) nd rfl rfl (by decide) rfl rfl (pa_cons (pe_cal O__law_names (hr.mono (by omega)) W.g__law_names pass0 (pa_cons (pv 0) (pa_cons (pe_cal O__law_take (hr.mono (by omega)) W.g__law_take pass0 (pa_cons (pv 0) (pa_cons pe_int pa_nil))) pa_nil))) (pa_cons (pe_cal O__law_names (hr.mono (by omega)) W.g__law_names pass0 (pa_cons (pv 0) (pa_cons (pe_cal O__law_take (hr.mono (by omega)) W.g__law_take pass0 (pa_cons (pv 0) (pa_cons pe_int pa_nil))) pa_nil))) pa_nil)) (by rfl))
    (pss_cons (ps_set (i := 3) nd rfl (Or.inl rfl) (pe_cal O__law_part (hr.mono (by omega)) W.g__law_part pass0 (pa_cons (pv 0) (pa_cons (pe_tup (pa_cons (pv 1) (pa_cons (pv 2) (pa_cons (pe_cal O__law_names (hr.mono (by omega)) W.g__law_names pass0 (pa_cons (pv 0) (pa_cons pe_int pa_nil))) (pa_cons pe_int pa_nil))))) (pa_cons (pe_ix ix_list (pe_lst (pa_cons pe_int (pa_cons pe_int pa_nil))) (pe_cal O__law_take (hr.mono (by omega)) W.g__law_take pass0 (pa_cons (pv 0) (pa_cons pe_int pa_nil))) (fun _ _ => rfl)) (pa_cons pe_int (pa_cons pe_int pa_nil)))))))
    (pss_cons (ps_set (i := 4) nd rfl (Or.inl rfl) (pe_cal O__law_condition (hr.mono (by omega)) W.g__law_condition pass0 (pa_cons (pv 0) (pa_cons (pv 1) (pa_cons pe_int pa_nil)))))
    (pss_cons (ps_set (i := 5) nd rfl (Or.inl rfl) (pe_lst (pa_cons (pe_cal O__law_part_text (hr.mono (by omega)) W.g__law_part_text pass0 (pa_cons (pv 3) pa_nil)) (pa_cons (pe_cal O__law_part_text (hr.mono (by omega)) W.g__law_part_text pass0 (pa_cons (pv 3) pa_nil)) (pa_cons (pe_cal O__law_condition_text (hr.mono (by omega)) W.g__law_condition_text pass0 (pa_cons (pv 4) pa_nil)) (pa_cons pe_str (pa_cons pe_str (pa_cons pe_str (pa_cons pe_str (pa_cons pe_str pa_nil))))))))))
    (pss_one (ps_ret (pe_cal O__law_one (hr.mono (by omega)) W.g__law_one pass0 (pa_cons (pv 0) (pa_cons (pe_op op_cat (pv 5) (pe_lst (pa_cons pe_non (pa_cons pe_int (pa_cons (pv 3) (pa_cons (pv 4) (pa_cons (pe_lst pa_nil) (pa_cons pe_str (pa_cons pe_str (pa_cons pe_str pa_nil)))))))))) pa_nil))))))))), ?_⟩
  obtain ⟨b, c, rfl, hB, hq⟩ := h
  refine ⟨_, rfl, _, rfl, b, c, 5, rfl, by decide, by decide, hB, fun m1 H1 hm1 e1 hB1 => ⟨b, c, m1, rfl, by omega, hB1, fun t1 n1 H2 e2 hB2 hN1 => ?_⟩⟩
  refine ⟨_, rfl, _, rfl, b, c, 6, rfl, by decide, by decide, hB2, fun m2 H3 hm2 e3 hB3 => ⟨b, c, m2, rfl, by omega, hB3, fun t2 n2 H4 e4 hB4 hN2 => ⟨_, _, rfl, ?_⟩⟩⟩
  have hN1' := hN1.keep ((hB2.tup e3).trans (hB3.tup e4))
  have e04 : SameB b H H4 := e1.trans (e2.trans (e3.trans e4))
  refine ⟨_, rfl, _, rfl, _, rfl, _, rfl, b, c, 2, rfl, by decide, hB4, fun t3 n3 H5 e5 hB5 hN3 => ⟨by show 4 ≤ sizeLine; decide, fun k hk => ?_⟩⟩
  have tk5 := hB4.tup e5
  have hN1'' := hN1'.keep tk5
  have hN2'' := hN2.keep tk5
  have sk := same_new (o := .tup [V.ref t1, V.ref t2, V.ref t3, V.int 2]) hk
  have hkit : Kit (upd H5 k (.tup [V.ref t1, V.ref t2, V.ref t3, V.int 2])) k := ⟨t1, t2, t3, n1, n2, n3, 2, upd_same, hN1''.keep (.of sk), hN2''.keep (.of sk), hN3.keep (.of sk), by decide⟩
  refine ⟨by show 2 ≤ sizeLine; decide, fun l hl => ?_⟩
  have sl := same_new (o := .lst [V.int 12, V.int 3]) hl
  have s56 := sk.trans sl
  have hkit6 := hkit.keep (.of sl)
  have hB6 := hB5.keep s56
  have hl6 : upd (upd H5 k (.tup [V.ref t1, V.ref t2, V.ref t3, V.int 2])) l (.lst [V.int 12, V.int 3]) l = some (.lst [V.int 12, V.int 3]) := upd_same
  have nlb : l ≠ b := ((hB5.keep sk).ne hl).1
  have e06 : SameB b H _ := e04.trans (e5.trans (.of s56))
  have hN16 := hN1''.keep (.of s56)
  generalize upd (upd H5 k (.tup [V.ref t1, V.ref t2, V.ref t3, V.int 2])) l (.lst [V.int 12, V.int 3]) = H6 at s56 hkit6 hB6 hl6 e06 hN16 ⊢
  refine ⟨_, rfl, b, c, 2, rfl, by decide, by decide, hB6, fun n H7 hn e7 hB7 => ?_⟩
  have key : ∃ room : Nat, atI [V.int 12, V.int 3] ((n : Nat) : Int) = some (V.int (room : Nat)) ∧ 1 ≤ room ∧ room ≤ 12 := by
    have h2 : n = 0 ∨ n = 1 := by omega
    rcases h2 with rfl | rfl
    · exact ⟨12, at0, by decide, by decide⟩
    · exact ⟨3, at1, by decide, by decide⟩
  obtain ⟨room, hroom, hr1, hr2⟩ := key
  have tk7 := hB6.tup e7
  have hN17 := hN16.keep tk7
  have e07 := e06.trans e7
  refine ⟨l, _, _, _, rfl, rfl, sql (e7 _ _ hl6 nlb), hroom, b, c, k, room, 0, rfl, hB7, hkit6.keep tk7, hr1, by omega, by decide, fun v8 p8 H8 e8 hB8 hp8 => ?_⟩
  have tk8 := hB7.tup e8
  refine ⟨_, rfl, _, rfl, b, c, t1, n1, rfl, hB8, hN17.keep tk8, fun v9 x9 H9 e9 hB9 hx9 => ?_⟩
  have tk9 := hB8.tup e9
  have hp9 := hp8.1.keep tk9
  have e09 := (e07.trans e8).trans e9
  have o8 := hp8.2.2.1
  have l8 := hp8.2.2.2
  have o9 : M.om x9.sh ≤ 20 := hx9.2.2.1
  have l9 : x9.sh.length ≤ 117 := hx9.2.2.2
  refine ⟨_, rfl, v8, p8, rfl, hp9, hp8.2.1, by omega, by omega, fun H10 e10 => ?_⟩
  refine ⟨_, rfl, v8, p8, rfl, hp9.keep (.of e10), hp8.2.1, by omega, by omega, fun H11 e11 => ?_⟩
  refine ⟨_, rfl, v9, x9, rfl, hx9.1.keep (.of (e10.trans e11)), by omega, by omega, fun H12 e12 => ⟨by show 8 ≤ sizeLine; decide, fun l1 hl1 => ?_⟩⟩
  have s912 := (e10.trans e11).trans e12
  have sl1 := same_new (o := .lst [.str (S p8.sh), .str (S p8.sh), .str (S x9.sh), V.str "", V.str "yes", V.str "no", V.str "-", V.str ":"]) hl1
  refine ⟨_, rfl, _, rfl, _, rfl, _, rfl, Nat.zero_le _, fun l2 hl2 => ⟨by show 8 ≤ sizeLine; decide, fun l3 hl3 => ?_⟩⟩
  have sl2 := same_new (o := .lst []) hl2
  have sl3 := same_new (o := .lst [V.non, V.int 5, v8, v9, V.ref l2, V.str "do ninesigns", V.str "?", V.str "leave 1000000000"]) hl3
  refine ⟨l1, l3, _, _, rfl, rfl, sl3 _ _ (sl2 _ _ upd_same), upd_same, by show 16 ≤ sizeLine; decide, fun l4 hl4 => ?_⟩
  have sl4 := same_new (o := .lst ([.str (S p8.sh), .str (S p8.sh), .str (S x9.sh), V.str "", V.str "yes", V.str "no", V.str "-", V.str ":"] ++ [V.non, V.int 5, v8, v9, V.ref l2, V.str "do ninesigns", V.str "?", V.str "leave 1000000000"])) hl4
  have s13 := ((sl1.trans sl2).trans sl3).trans sl4
  have hB12 := hB9.keep s912
  have hB13 := hB12.keep s13
  have nl4 : l4 ≠ b := (((hB12.keep ((sl1.trans sl2).trans sl3))).ne hl4).1
  have nl2 : l2 ≠ b := ((hB12.keep sl1).ne hl2).1
  have hl2v := sl4 _ _ (sl3 _ _ (upd_same (H := upd H12 l1 (.lst [.str (S p8.sh), .str (S p8.sh), .str (S x9.sh), V.str "", V.str "yes", V.str "no", V.str "-", V.str ":"])) (a := l2) (o := .lst [])))
  have hl4v := upd_same (H := upd (upd (upd H12 l1 (.lst [.str (S p8.sh), .str (S p8.sh), .str (S x9.sh), V.str "", V.str "yes", V.str "no", V.str "-", V.str ":"])) l2 (.lst [])) l3 (.lst [V.non, V.int 5, v8, v9, V.ref l2, V.str "do ninesigns", V.str "?", V.str "leave 1000000000"])) (a := l4) (o := .lst ([.str (S p8.sh), .str (S p8.sh), .str (S x9.sh), V.str "", V.str "yes", V.str "no", V.str "-", V.str ":"] ++ [V.non, V.int 5, v8, v9, V.ref l2, V.str "do ninesigns", V.str "?", V.str "leave 1000000000"]))
  have e013 := e09.trans (.of (s912.trans s13))
  have hp13 := hp9.keep (.of (s912.trans s13))
  have hx13 := hx9.1.keep (.of (s912.trans s13))
  generalize upd (upd (upd (upd H12 l1 _) l2 _) l3 _) l4 _ = H13 at s13 hB13 hl2v hl4v e013 hp13 hx13 ⊢
  refine ⟨b, c, l4, _, rfl, hB13, by show 0 < 16; decide, by show 16 < 1000000; decide, .inl fun H' e => sql (e _ _ hl4v nl4), fun x hx H' e hB' => hq x H' (e013.trans e) hB' ?_⟩
  have lit : ∀ st : String, (decide ((M.q st).length ≤ 1000) && decide (M.om (M.q st) ≤ 130)) = true → Tx H' b (.str (Str.ofString st)) := fun st h => .inl ⟨M.q st, sq st, by simpa using (Bool.and_eq_true_iff.mp h).1, by simpa using (Bool.and_eq_true_iff.mp h).2⟩
  have tk := hB13.tup e
  simp only [List.cons_append, List.nil_append, List.mem_cons, List.not_mem_nil, or_false] at hx
  rcases hx with rfl | rfl | rfl | rfl | rfl | rfl | rfl | rfl | rfl | rfl | rfl | rfl | rfl | rfl | rfl | rfl
  · exact .inl ⟨_, rfl, by omega, by omega⟩
  · exact .inl ⟨_, rfl, by omega, by omega⟩
  · exact .inl ⟨_, rfl, by omega, by omega⟩
  · exact lit "" (by decide)
  · exact lit "yes" (by decide)
  · exact lit "no" (by decide)
  · exact lit "-" (by decide)
  · exact lit ":" (by decide)
  · exact .inr (.inl rfl)
  · exact .inr (.inr (.inl ⟨5, rfl⟩))
  · obtain ⟨a, xs, r, h⟩ := hp13.isTup
    exact .inr (.inr (.inr (.inl ⟨a, xs, r, tk _ _ h⟩)))
  · obtain ⟨a, xs, r, h⟩ := hx13.isTup
    exact .inr (.inr (.inr (.inl ⟨a, xs, r, tk _ _ h⟩)))
  · exact .inr (.inr (.inr (.inr ⟨l2, [], rfl, e _ _ hl2v nl2, nl2⟩)))
  · exact lit "do ninesigns" (by decide)
  · exact lit "?" (by decide)
  · exact lit "leave 1000000000" (by decide)
abbrev n_law_spoilt : List Str := ["_law_bag_here", "_law_text_here", "_law_at", "_law_way", "_law_words", "_law_size"]
theorem sc_law_spoilt : FnScope n_law_spoilt ["_law_bag_here", "_law_text_here"] (defScope s_law_spoilt) := ⟨rfl, rfl, rfl, by decide +kernel, rfl, by decide +kernel, by decide +kernel⟩
theorem bi_law_spoilt : ∀ (kV doc pm : Value) (an : Option Addr) (cdv ct : Value) (us : List Value), us.length = 2 → bindArgs (PySem.W.fnOf d_law_spoilt.name d_law_spoilt.qual d_law_spoilt.params d_law_spoilt.body d_law_spoilt.scope .none kV doc pm an cdv ct) ⟨us, []⟩ = pure ([("_law_bag_here" : Str), ("_law_text_here" : Str)].zip us) := fun kV doc pm an cdv ct us hu => by
  match us, hu with
  | [u0, u1], _ => rfl
def wordsS : List String := [" ", "(", ")", "[", "]", ", ", "; ", ": ", "?", "yes", "no", "not(", "all()", "do a", "call ", "back", "+", "leave 1", "leave 0", "leave 01", "0", "1", "if yes then ", " else back", "while no: ", "> ", "A", "a", ".", ":", "-", "\n", "[]", "always ", "makes a "]
theorem wordsS_ok : ∀ s ∈ wordsS, (M.q s).length ≤ 20 ∧ M.om (M.q s) ≤ 3 := by
  have h : (wordsS.all fun s => decide ((M.q s).length ≤ 20) && decide (M.om (M.q s) ≤ 3)) = true := by decide +kernel
  intro s hs
  have := List.all_eq_true.mp h s hs
  simpa using this
def spSpoilt : Sp := fun vs H Q _ => ∃ b c s, vs = [.ref b, .str (S s)] ∧ Bag H b c ∧ s.length ≤ 10000 ∧ ∀ s' H', SameB b H H' → Bag H' b c → s'.length ≤ s.length + 20 → M.om s' ≤ M.om s + 3 → Q (.str (S s')) H'
theorem o_spoilt (W : Wl K mg) : OkD w K mg base CX0 3 d_law_spoilt ["_law_bag_here", "_law_text_here"] spSpoilt := by
  have O__law_take := o_take (w := w) (base := base) W
  have O__law_one := o_one (w := w) (base := base) W
  refine HL.ok_of0 W.D_law_spoilt sc_law_spoilt (fun vs H Q E ⟨_, _, _, h, _⟩ => by rw [h]; rfl) bi_law_spoilt fun cdv A outer s H vs Q E hr h => ?_
  have nd := sc_law_spoilt.nd
  refine ⟨_, (pss_cons (ps_par (i := 2) (j := 3) (by rfl) nd rfl rfl (by decide) rfl rfl (pa_cons (pe_cal O__law_take (hr.mono (by omega)) W.g__law_take pass0 (pa_cons (pv 0) (pa_cons (pe_op op_add (pe_callB call_len_str (by rfl) W.f_len (by decide +kernel) (pa_cons (pv 1) pa_nil)) pe_int) pa_nil))) (pa_cons (pe_cal O__law_take (hr.mono (by omega)) W.g__law_take pass0 (pa_cons (pv 0) (pa_cons pe_int pa_nil))) pa_nil)) (by rfl))
    (pss_cons (ps_set (i := 4) nd rfl (Or.inl rfl) (pe_lst (pa_cons pe_str (pa_cons pe_str (pa_cons pe_str (pa_cons pe_str (pa_cons pe_str (pa_cons pe_str (pa_cons pe_str (pa_cons pe_str (pa_cons pe_str (pa_cons pe_str (pa_cons pe_str (pa_cons pe_str (pa_cons pe_str (pa_cons pe_str (pa_cons pe_str (pa_cons pe_str (pa_cons pe_str pa_nil)))))))))))))))))))
    (pss_cons (ps_set (i := 4) nd rfl (Or.inl rfl) (pe_op op_cat (pv 4) (pe_lst (pa_cons pe_str (pa_cons pe_str (pa_cons pe_str (pa_cons pe_str (pa_cons pe_str (pa_cons pe_str (pa_cons pe_str (pa_cons pe_str (pa_cons pe_str (pa_cons pe_str pa_nil)))))))))))))
    (pss_cons (ps_set (i := 4) nd rfl (Or.inl rfl) (pe_op op_cat (pv 4) (pe_lst (pa_cons pe_str (pa_cons pe_str (pa_cons pe_str (pa_cons pe_str (pa_cons pe_str (pa_cons pe_str (pa_cons pe_str (pa_cons pe_str pa_nil)))))))))))
    (pss_cons (ps_if (pt_cmpR op_lt (pv 3) pe_int (nomark _)) (pss_one (ps_ret (pe_op op_add_str (pe_op op_add_str (pe_slice sl_str (pv 1) po_none (po_some (pv 2))) (pe_cal O__law_one (hr.mono (by omega)) W.g__law_one pass0 (pa_cons (pv 0) (pa_cons (pv 4) pa_nil)))) (pe_slice sl_str (pv 1) (po_some (pv 2)) po_none)))) pss_nil)
    (pss_cons (ps_set (i := 5) nd rfl (Or.inl rfl) (pe_op op_add pe_int (pe_cal O__law_take (hr.mono (by omega)) W.g__law_take pass0 (pa_cons (pv 0) (pa_cons pe_int pa_nil)))))
    (pss_cons (ps_if (pt_cmpR op_lt (pv 3) pe_int (nomark _)) (pss_one (ps_ret (pe_op op_add_str (pe_slice sl_str (pv 1) po_none (po_some (pv 2))) (pe_slice sl_str (pv 1) (po_some (pe_op op_add (pv 2) (pv 5))) po_none)))) pss_nil)
    (pss_cons (ps_if (pt_cmpR op_eq (pv 3) pe_int (nomark _)) (pss_one (ps_ret (pe_op op_add_str (pe_op op_add_str (pe_slice sl_str (pv 1) po_none (po_some (pv 2))) (pe_cal O__law_one (hr.mono (by omega)) W.g__law_one pass0 (pa_cons (pv 0) (pa_cons (pv 4) pa_nil)))) (pe_slice sl_str (pv 1) (po_some (pe_op op_add (pv 2) (pv 5))) po_none)))) pss_nil)
    (pss_one (ps_ret (pe_op op_add_str (pe_slice sl_str (pv 1) (po_some (pv 2)) po_none) (pe_slice sl_str (pv 1) po_none (po_some (pv 2)))))))))))))), ?_⟩
  obtain ⟨b, c, s, rfl, hB, hs, hq⟩ := h
  have sl : (S s).length ≤ sizeLine := by rw [S_len]; exact small (by omega)
  have e1 : (((S s).length : Nat) : Int) + 1 = ((s.length + 1 : Nat) : Int) := by rw [S_len]; omega
  refine ⟨_, rfl, _, rfl, _, rfl, sl, _, _, rfl, rfl, b, c, s.length + 1, (congrArg (fun z => [V.ref b, V.int z]) e1), by omega, by omega, hB, fun i H1 hi e1 hB1 => ?_⟩
  refine ⟨_, rfl, b, c, 7, rfl, by decide, by decide, hB1, fun way H2 hway e2 hB2 => ⟨_, _, rfl, ?_⟩⟩
  have e02 : SameB b H H2 := e1.trans e2
  refine ⟨by show 17 ≤ sizeLine; decide, fun w1 hw1 => ?_⟩
  refine ⟨_, rfl, by show 10 ≤ sizeLine; decide, fun w2 hw2 => ?_⟩
  refine ⟨w1, w2, _, _, rfl, rfl, same_new hw2 _ _ upd_same, upd_same, by show 27 ≤ sizeLine; decide, fun w3 hw3 => ?_⟩
  refine ⟨_, rfl, by show 8 ≤ sizeLine; decide, fun w4 hw4 => ?_⟩
  refine ⟨w3, w4, _, _, rfl, rfl, same_new hw4 _ _ upd_same, upd_same, by show 35 ≤ sizeLine; decide, fun w5 hw5 => ?_⟩
  refine (fun (K5 : ∀ H5, Same H2 H5 → H5 w5 = some (HO.lst (wordsS.map fun s => V.str (Str.ofString s))) → w5 ≠ b → gName 4 (.ref w5) _ H5 _) => K5 _ ((((same_new hw1).trans (same_new hw2)).trans (same_new hw3)).trans ((same_new hw4).trans (same_new hw5))) upd_same
    ((hB2.keep ((((same_new hw1).trans (same_new hw2)).trans (same_new hw3)).trans (same_new hw4))).ne hw5).1) ?_
  intro H5 s5 hw5v nw5
  have hB5 := hB2.keep s5
  have e05 : SameB b H H5 := e02.trans (.of s5)
  have words : ∀ (H6 : Hp) (Q' : VK) (E' : XK), SameB b H5 H6 → Bag H6 b c → (∀ x : List Nat, x.length ≤ 20 → M.om x ≤ 3 → ∀ H', SameB b H6 H' → Bag H' b c → Q' (.str (S x)) H') → spOne K [.ref b, .ref w5] H6 Q' E' := fun H6 Q' E' e6 hB6 h =>
    ⟨b, c, w5, _, rfl, hB6, by decide, by decide, .inl fun H' e => sql (e _ _ (e6 _ _ hw5v nw5) nw5), fun x hx H' e hB' => by
      obtain ⟨st, hst, rfl⟩ := List.mem_map.mp hx
      obtain ⟨h1, h2⟩ := wordsS_ok st hst
      rw [sq st]
      exact h _ h1 h2 H' e hB'⟩
  have otd : ∀ j, M.om (s.take j) + M.om (s.drop j) = M.om s := fun j => by
    rw [← M.om_app, List.take_append_drop]
  have ltd : ∀ j, (s.take j).length ≤ s.length := fun j => by rw [List.length_take]; omega
  have ldd : ∀ j, (s.drop j).length ≤ s.length := fun j => by rw [List.length_drop]; omega
  have ltt : ∀ j, (s.take j).length + (s.drop j).length = s.length := fun j => by rw [← List.length_append, List.take_append_drop]
  have odd : ∀ j k, M.om (s.drop (j + k)) ≤ M.om (s.drop j) ∧ (s.drop (j + k)).length ≤ (s.drop j).length := fun j k => by
    rw [← List.drop_drop]
    refine ⟨om_suf (a := (s.drop j).take k) (by rw [List.take_append_drop]), by rw [List.length_drop]; omega⟩
  dsimp only [gName]
  refine sif (way < 3) (fun Q' hQ' => ?_) (fun h3 H6 e6 => ?_) (fun h3 H6 e6 => ?_)
  · refine ⟨_, rfl, _, _, rfl, rfl, _, rfl, ?_⟩
    have := hQ' H5 (Same.refl _)
    rwa [show decide (way < 3) = decide (((way : Nat) : Int) < 3) from decide_eq_decide.mpr (by omega)] at this
  · refine ⟨_, rfl, _, rfl, _, rfl, _, rfl, sl, ?_⟩
    rw [cut_j]
    refine ⟨_, rfl, _, rfl, words H6 _ L2.E0 (.of e6) (hB5.keep e6) fun x hx1 hx2 H7 e7 hB7 => ⟨_, _, rfl, rfl, ?_, _, rfl, _, rfl, _, rfl, _, rfl, sl, ?_⟩⟩
    · rw [S_len, S_len]
      have := ltd i
      exact small (by omega)
    · rw [S_cat, cut_i]
      refine ⟨_, _, rfl, rfl, ?_, ?_⟩
      · rw [S_len, S_len, List.length_append]
        have := ltt i
        exact small (by omega)
      · rw [S_cat]
        refine hq _ H7 (e05.trans ((SameB.of e6).trans e7)) hB7 ?_ ?_
        · have := ltt i
          simp only [List.length_append]
          omega
        · have := otd i
          simp only [M.om_app]
          omega
  have hB6 := hB5.keep e6
  refine ⟨_, rfl, b, c, 4, rfl, by decide, by decide, hB6, fun n H7 hn e7 hB7 => ⟨_, _, rfl, rfl, ?_⟩⟩
  have e57 : SameB b H5 H7 := (SameB.of e6).trans e7
  have e9 : ((i : Nat) : Int) + (1 + ((n : Nat) : Int)) = ((i + (1 + n) : Nat) : Int) := by omega
  dsimp only [gName]
  refine sif (way < 5) (fun Q' hQ' => ?_) (fun h5 H8 e8 => ?_) (fun h5 H8 e8 => ?_)
  · refine ⟨_, rfl, _, _, rfl, rfl, _, rfl, ?_⟩
    have := hQ' H7 (Same.refl _)
    rwa [show decide (way < 5) = decide (((way : Nat) : Int) < 5) from decide_eq_decide.mpr (by omega)] at this
  · refine ⟨_, rfl, _, rfl, _, rfl, _, rfl, sl, ?_⟩
    rw [cut_j]
    refine ⟨_, rfl, _, rfl, _, rfl, _, _, rfl, rfl, _, congrArg V.int e9, _, rfl, sl, ?_⟩
    rw [cut_i]
    have h1 := odd i (1 + n)
    have h2 := ltt i
    have h3' := otd i
    refine ⟨_, _, rfl, rfl, ?_, ?_⟩
    · rw [S_len, S_len]
      exact small (by omega)
    · rw [S_cat]
      refine hq _ H8 (e05.trans (e57.trans (.of e8))) (hB7.keep e8) ?_ ?_
      · simp only [List.length_append]
        omega
      · simp only [M.om_app]
        omega
  have hB8 := hB7.keep e8
  have e58 := e57.trans (SameB.of e8)
  refine sif (way = 5) (fun Q' hQ' => ?_) (fun h6 H9 e9' => ?_) (fun h6 H9 e9' => ?_)
  · refine ⟨_, rfl, rfl, _, rfl, ?_⟩
    have := hQ' H8 (Same.refl _)
    rwa [show decide (way = 5) = decide (V.int ((way : Nat) : Int) = V.int 5) from decide_eq_decide.mpr ⟨fun z => by rw [z] <;> rfl, fun z => by injection z with z; omega⟩] at this
  · refine ⟨_, rfl, _, rfl, _, rfl, _, rfl, sl, ?_⟩
    rw [cut_j]
    refine ⟨_, rfl, _, rfl, words H9 _ L2.E0 (e58.trans (.of e9')) (hB8.keep e9') fun x hx1 hx2 H10 e10 hB10 => ⟨_, _, rfl, rfl, ?_, _, rfl, _, rfl, _, rfl, _, _, rfl, rfl, _, congrArg V.int e9, _, rfl, sl, ?_⟩⟩
    · rw [S_len, S_len]
      have := ltd i
      exact small (by omega)
    · rw [S_cat, cut_i]
      have h1 := odd i (1 + n)
      have h2 := ltt i
      have h3' := otd i
      refine ⟨_, _, rfl, rfl, ?_, ?_⟩
      · rw [S_len, S_len, List.length_append]
        exact small (by omega)
      · rw [S_cat]
        refine hq _ H10 (e05.trans (e58.trans ((SameB.of e9').trans e10))) hB10 ?_ ?_
        · simp only [List.length_append]
          omega
        · simp only [M.om_app]
          omega
  · refine ⟨_, rfl, _, rfl, _, rfl, _, rfl, sl, ?_⟩
    rw [cut_i]
    refine ⟨_, rfl, _, rfl, _, rfl, _, rfl, sl, ?_⟩
    rw [cut_j]
    have h2 := ltt i
    have h3' := otd i
    refine ⟨_, _, rfl, rfl, ?_, ?_⟩
    · rw [S_len, S_len]
      exact small (by omega)
    · rw [S_cat]
      refine hq _ H9 (e05.trans (e58.trans (.of e9'))) (hB8.keep e9') ?_ ?_
      · simp only [List.length_append]
        omega
      · simp only [M.om_app]
        omega
end
end K91
end

section
set_option Elab.async false
set_option linter.all false
set_option maxRecDepth 100000
set_option maxHeartbeats 4000000
set_option exponentiation.threshold 3000
/-! k91: how deep the data are, how long they are shown. -/
namespace K91
open PySem PySem.Spec PyProof.Rows L2 He HL M TL
mutual
theorem cd_deep : ∀ c : Cond, (cd c).depth ≤ om c.sh + 1
  | .word b => by
    unfold cd
    simp [PyData.depth, PyData.depthAll]
  | .ask n => by
    unfold cd
    simp [PyData.depth, PyData.depthAll]
  | .neg c => by
    have ih := cd_deep c
    unfold cd
    have e : om (Cond.neg c).sh = om c.sh + 3 := by
      show om (q "not" ++ (q "(" ++ (c.sh ++ q ")"))) = _
      rw [om_app, om_app, om_app, show om (q "not") = 0 from by decide, show om (q "(") = 3 from by decide, show om (q ")") = 0 from by decide]
      omega
    simp only [PyData.depth, PyData.depthAll]
    omega
  | .many b cs => by
    have ih := cdL_deep cs
    unfold cd
    have e : om (joinL (q ", ") (shC cs)) + 3 ≤ om (Cond.many b cs).sh := by
      show _ ≤ om (nq b ++ (q "(" ++ (joinL (q ", ") (shC cs) ++ q ")")))
      rw [om_app, om_app, om_app, show om (q "(") = 3 from by decide]
      omega
    simp only [PyData.depth, PyData.depthAll]
    omega
theorem cdL_deep : ∀ cs : List Cond, PyData.depthAll (cdL cs) ≤ om (joinL (q ", ") (shC cs)) + 1
  | [] => by
    unfold cdL
    simp [PyData.depthAll]
  | [c] => by
    have ih := cd_deep c
    simp only [cdL, PyData.depthAll, shC, joinL]
    omega
  | c :: d :: cs => by
    have ih := cd_deep c
    have ih2 := cdL_deep (d :: cs)
    unfold cdL
    have e : joinL (q ", ") (shC (c :: d :: cs)) = c.sh ++ (q ", " ++ joinL (q ", ") (shC (d :: cs))) := rfl
    rw [e, om_app, om_app]
    simp only [PyData.depthAll]
    omega
end
mutual
theorem pd_deep : ∀ c : Part, (pd c).depth ≤ om c.sh + 1
  | .back => by
    unfold pd
    simp [PyData.depth, PyData.depthAll]
  | .leave k => by
    unfold pd
    simp [PyData.depth, PyData.depthAll]
  | .step n => by
    unfold pd
    simp [PyData.depth, PyData.depthAll]
  | .call n => by
    unfold pd
    simp [PyData.depth, PyData.depthAll]
  | .row cs => by
    have ih := pdL_deep cs
    unfold pd
    have e : om (joinL (q "; ") (shP cs)) + 3 ≤ om (Part.row cs).sh := by
      show _ ≤ om (q "[" ++ (joinL (q "; ") (shP cs) ++ q "]"))
      rw [om_app, om_app, show om (q "[") = 3 from by decide]
      omega
    simp only [PyData.depth, PyData.depthAll]
    omega
  | .whil c p => by
    have ih := cd_deep c
    have ih2 := pd_deep p
    unfold pd
    have e : om c.sh + om p.sh + 2 ≤ om (Part.whil c p).sh := by
      show _ ≤ om (q "while " ++ (c.sh ++ (q ": " ++ p.sh)))
      rw [om_app, om_app, om_app, show om (q "while ") = 1 from by decide, show om (q ": ") = 1 from by decide]
      omega
    simp only [PyData.depth, PyData.depthAll]
    omega
  | .ite c p r => by
    have ih := cd_deep c
    have ih2 := pd_deep p
    have ih3 := pd_deep r
    unfold pd
    have e : om c.sh + om p.sh + om r.sh + 5 ≤ om (Part.ite c p r).sh := by
      show _ ≤ om (q "if " ++ (c.sh ++ (q " then " ++ (p.sh ++ (q " else " ++ r.sh)))))
      rw [om_app, om_app, om_app, om_app, om_app, show om (q "if ") = 1 from by decide, show om (q " then ") = 2 from by decide, show om (q " else ") = 2 from by decide]
      omega
    simp only [PyData.depth, PyData.depthAll]
    omega
theorem pdL_deep : ∀ cs : List Part, PyData.depthAll (pdL cs) ≤ om (joinL (q "; ") (shP cs)) + 1
  | [] => by
    unfold pdL
    simp [PyData.depthAll]
  | [c] => by
    have ih := pd_deep c
    simp only [pdL, PyData.depthAll, shP, joinL]
    omega
  | c :: d :: cs => by
    have ih := pd_deep c
    have ih2 := pdL_deep (d :: cs)
    unfold pdL
    have e : joinL (q "; ") (shP (c :: d :: cs)) = c.sh ++ (q "; " ++ joinL (q "; ") (shP (d :: cs))) := rfl
    rw [e, om_app, om_app]
    simp only [PyData.depthAll]
    omega
end
/-! ### showable -/
mutual
theorem cd_show : ∀ c : Cond, (cd c).showable = true
  | .word b => by
    unfold cd
    simp [PyData.showable, PyData.showableAll]
  | .ask n => by
    unfold cd
    simp [PyData.showable, PyData.showableAll]
  | .neg c => by
    unfold cd
    simp [PyData.showable, PyData.showableAll, cd_show c]
  | .many b cs => by
    unfold cd
    simp [PyData.showable, PyData.showableAll, cdL_show cs]
theorem cdL_show : ∀ cs : List Cond, PyData.showableAll (cdL cs) = true
  | [] => by
    unfold cdL
    simp [PyData.showableAll]
  | c :: cs => by
    unfold cdL
    simp [PyData.showableAll, cd_show c, cdL_show cs]
end
theorem num_log' {k : Nat} (h : k < 1000000000) : (k : Int).natAbs.log2 < 1920 := by
  show k.log2 < 1920
  by_cases h0 : k = 0
  · rw [h0]
    decide
  · rw [Nat.log2_lt h0]
    exact Nat.lt_of_lt_of_le h (Nat.le_trans (show 1000000000 ≤ 2 ^ 30 by decide) (Nat.pow_le_pow_right (by decide) (by decide)))
mutual
theorem pd_show : ∀ c : Part, c.wf → (pd c).showable = true
  | .back, _ => by
    unfold pd
    simp [PyData.showable, PyData.showableAll]
  | .leave k, h => by
    unfold pd
    have := num_log' (show k < 1000000000 from by simpa [Part.wf] using h)
    simp only [PyData.showable, PyData.showableAll, decide_eq_true this, Bool.and_true]
  | .step n, _ => by
    unfold pd
    simp [PyData.showable, PyData.showableAll]
  | .call n, _ => by
    unfold pd
    simp [PyData.showable, PyData.showableAll]
  | .row cs, h => by
    unfold pd
    simp [PyData.showable, PyData.showableAll, pdL_show cs (by simpa [Part.wf] using h)]
  | .whil c p, h => by
    have h1 : c.wf ∧ p.wf := by simpa [Part.wf] using h
    unfold pd
    simp [PyData.showable, PyData.showableAll, cd_show c, pd_show p h1.2]
  | .ite c p r, h => by
    have h1 : c.wf ∧ p.wf ∧ r.wf := by simpa [Part.wf] using h
    unfold pd
    simp [PyData.showable, PyData.showableAll, cd_show c, pd_show p h1.2.1, pd_show r h1.2.2]
theorem pdL_show : ∀ cs : List Part, wfP cs → PyData.showableAll (pdL cs) = true
  | [], _ => by
    unfold pdL
    simp [PyData.showableAll]
  | c :: cs, h => by
    have h1 : c.wf ∧ wfP cs := by simpa [wfP] using h
    unfold pdL
    simp [PyData.showableAll, pd_show c h1.1, pdL_show cs h1.2]
end
/-! ### lengths -/
theorem rt_len {l : List Nat} (h : PyData.strOk (HL.S l) = true) : (reprText (HL.S l)).length ≤ 10 * l.length + 2 := by
  have := StrLaws.reprText_len (HL.S l) fun c hc => by
    unfold PyData.strOk at h
    rw [Array.all_eq_true'] at h
    have h2 := of_decide_eq_true (h c (by simpa using hc))
    exact Nat.lt_of_lt_of_le h2 (by decide)
  rw [HL.S_len] at this
  exact this
theorem tt1 (a : Str) : (tupleText [a]).length ≤ a.length + 5 := by
  have := tupleText_len_le [a]
  simp at this
  omega
theorem tt2 (a b : Str) : (tupleText [a, b]).length ≤ a.length + b.length + 7 := by
  have := tupleText_len_le [a, b]
  simp at this
  omega
theorem tt3 (a b c : Str) : (tupleText [a, b, c]).length ≤ a.length + b.length + c.length + 9 := by
  have := tupleText_len_le [a, b, c]
  simp at this
  omega
theorem tt4 (a b c d : Str) : (tupleText [a, b, c, d]).length ≤ a.length + b.length + c.length + d.length + 11 := by
  have := tupleText_len_le [a, b, c, d]
  simp at this
  omega
mutual
theorem cd_len : ∀ c : Cond, c.wf → (cd c).shown.length ≤ 100 * c.sh.length
  | .word b, _ => by
    unfold cd
    simp only [PyData.shown, PyData.shownAll]
    have h1 := tt1 (reprText (HL.S (yq b)))
    have h2 := rt_len (ok_yq b)
    have h3 : (yq b).length ≤ 3 ∧ 2 ≤ (yq b).length := by cases b <;> decide
    show _ ≤ 100 * (yq b).length
    omega
  | .ask n, h => by
    unfold cd
    simp only [PyData.shown, PyData.shownAll]
    have h1 := tt2 (reprText (HL.S (q "ask"))) (reprText (HL.S n))
    have h2 := rt_len ok_ask
    have h3 := rt_len (nm_ok (show Nm n by simpa [Cond.wf] using h))
    have h4 : (q "ask").length = 3 := by decide
    show _ ≤ 100 * (q "?" ++ n).length
    rw [List.length_append, show (q "?").length = 1 from by decide]
    omega
  | .neg c, h => by
    have ih := cd_len c (by simpa [Cond.wf] using h)
    unfold cd
    simp only [PyData.shown, PyData.shownAll]
    have h1 := tt2 (reprText (HL.S (q "not"))) (cd c).shown
    have h2 := rt_len ok_not
    have h4 : (q "not").length = 3 := by decide
    show _ ≤ 100 * (q "not" ++ (q "(" ++ (c.sh ++ q ")"))).length
    simp only [List.length_append, h4, show (q "(").length = 1 from by decide, show (q ")").length = 1 from by decide]
    omega
  | .many b cs, h => by
    have ih := cdL_len cs (by simpa [Cond.wf] using h)
    unfold cd
    simp only [PyData.shown, PyData.shownAll]
    have h1 := tt2 (reprText (HL.S (nq b))) (tupleText (PyData.shownAll (cdL cs)))
    have h2 := rt_len (ok_nq b)
    have h4 : (nq b).length = 3 := by cases b <;> decide
    show _ ≤ 100 * (nq b ++ (q "(" ++ (joinL (q ", ") (shC cs) ++ q ")"))).length
    simp only [List.length_append, h4, show (q "(").length = 1 from by decide, show (q ")").length = 1 from by decide]
    omega
theorem cdL_len : ∀ cs : List Cond, wfC cs → (tupleText (PyData.shownAll (cdL cs))).length ≤ 100 * (joinL (q ", ") (shC cs)).length + 50 := fun cs h => by
  have h1 := tupleText_len_le (PyData.shownAll (cdL cs))
  have h2 := cdL_sum cs h
  have h3 := joinL_len (q ", ") (shC cs)
  have h4 : (q ", ").length = 2 := by decide
  have h5 : (PyData.shownAll (cdL cs)).length = cs.length := cdL_cnt cs
  have h6 : (shC cs).length = cs.length := by rw [shC_map, List.length_map]
  rw [h4, h6] at h3
  rw [h5] at h1
  by_cases hc : cs = []
  · subst hc
    have e0 : PyData.shownAll (cdL []) = [] := by
      unfold cdL
      simp [PyData.shownAll]
    rw [e0]
    have := tupleText_len_le []
    simp at this
    omega
  · have hc1 : 1 ≤ cs.length := List.length_pos_iff.mpr hc
    generalize ((shC cs).map (·.length)).sum = z at h2 h3
    omega
theorem cdL_sum : ∀ cs : List Cond, wfC cs → ((PyData.shownAll (cdL cs)).map (·.length)).sum ≤ 100 * ((shC cs).map (·.length)).sum
  | [], _ => by
    unfold cdL
    simp [PyData.shownAll]
  | c :: cs, h => by
    have h1 : c.wf ∧ wfC cs := by simpa [wfC] using h
    have ih := cd_len c h1.1
    have ih2 := cdL_sum cs h1.2
    unfold cdL shC
    simp only [PyData.shownAll, List.map_cons, List.sum_cons]
    omega
theorem cdL_cnt : ∀ cs : List Cond, (PyData.shownAll (cdL cs)).length = cs.length
  | [] => by
    unfold cdL
    simp [PyData.shownAll]
  | c :: cs => by
    unfold cdL
    simp only [PyData.shownAll, List.length_cons, cdL_cnt cs]
end
mutual
theorem pd_len : ∀ c : Part, c.wf → (pd c).shown.length ≤ 100 * c.sh.length
  | .back, _ => by
    unfold pd
    simp only [PyData.shown, PyData.shownAll]
    have h1 := tt1 (reprText (HL.S (q "back")))
    have h2 := rt_len ok_back
    have h3 : (q "back").length = 4 := by decide
    show _ ≤ 100 * (q "back").length
    omega
  | .leave k, h => by
    unfold pd
    simp only [PyData.shown, PyData.shownAll]
    have h1 := tt2 (reprText (HL.S (q "leave"))) (toString ((k : Nat) : Int) : String)
    have h2 := rt_len ok_leave
    have h3 : (q "leave").length = 5 := by decide
    have h4 : (Str.ofString (toString ((k : Nat) : Int))).length = (numL k).length := by rw [SX.num_S k, HL.S_len]
    show _ ≤ 100 * (q "leave" ++ (q " " ++ numL k)).length
    simp only [List.length_append, h3, show (q " ").length = 1 from by decide]
    have h5 : (Str.ofString (toString ((k : Nat) : Int))).length ≤ (numL k).length := Nat.le_of_eq h4
    omega
  | .step n, h => by
    unfold pd
    simp only [PyData.shown, PyData.shownAll]
    have h1 := tt2 (reprText (HL.S (q "step"))) (reprText (HL.S n))
    have h2 := rt_len ok_step
    have h3 := rt_len (nm_ok (show Nm n by simpa [Part.wf] using h))
    have h4 : (q "step").length = 4 := by decide
    show _ ≤ 100 * (q "do" ++ (q " " ++ n)).length
    simp only [List.length_append, show (q "do").length = 2 from by decide, show (q " ").length = 1 from by decide]
    omega
  | .call n, h => by
    unfold pd
    simp only [PyData.shown, PyData.shownAll]
    have h1 := tt2 (reprText (HL.S (q "call"))) (reprText (HL.S n))
    have h2 := rt_len ok_call
    have h3 := rt_len (nm_ok (show Nm n by simpa [Part.wf] using h))
    have h4 : (q "call").length = 4 := by decide
    show _ ≤ 100 * (q "call" ++ (q " " ++ n)).length
    simp only [List.length_append, h4, show (q " ").length = 1 from by decide]
    omega
  | .row cs, h => by
    have ih := pdL_len cs (by simpa [Part.wf] using h)
    unfold pd
    simp only [PyData.shown, PyData.shownAll]
    have h1 := tt2 (reprText (HL.S (q "row"))) (tupleText (PyData.shownAll (pdL cs)))
    have h2 := rt_len ok_row
    have h4 : (q "row").length = 3 := by decide
    show _ ≤ 100 * (q "[" ++ (joinL (q "; ") (shP cs) ++ q "]")).length
    simp only [List.length_append, show (q "[").length = 1 from by decide, show (q "]").length = 1 from by decide]
    omega
  | .whil c p, h => by
    have h1 : c.wf ∧ p.wf := by simpa [Part.wf] using h
    have i1 := cd_len c h1.1
    have i2 := pd_len p h1.2
    unfold pd
    simp only [PyData.shown, PyData.shownAll]
    have h1 := tt3 (reprText (HL.S (q "while"))) (cd c).shown (pd p).shown
    have h2 := rt_len ok_while
    have h4 : (q "while").length = 5 := by decide
    show _ ≤ 100 * (q "while " ++ (c.sh ++ (q ": " ++ p.sh))).length
    simp only [List.length_append, show (q "while ").length = 6 from by decide, show (q ": ").length = 2 from by decide]
    omega
  | .ite c p r, h => by
    have h1 : c.wf ∧ p.wf ∧ r.wf := by simpa [Part.wf] using h
    have i1 := cd_len c h1.1
    have i2 := pd_len p h1.2.1
    have i3 := pd_len r h1.2.2
    unfold pd
    simp only [PyData.shown, PyData.shownAll]
    have h1 := tt4 (reprText (HL.S (q "if"))) (cd c).shown (pd p).shown (pd r).shown
    have h2 := rt_len ok_if
    have h4 : (q "if").length = 2 := by decide
    show _ ≤ 100 * (q "if " ++ (c.sh ++ (q " then " ++ (p.sh ++ (q " else " ++ r.sh))))).length
    simp only [List.length_append, show (q "if ").length = 3 from by decide, show (q " then ").length = 6 from by decide, show (q " else ").length = 6 from by decide]
    omega
theorem pdL_len : ∀ cs : List Part, wfP cs → (tupleText (PyData.shownAll (pdL cs))).length ≤ 100 * (joinL (q "; ") (shP cs)).length + 50 := fun cs h => by
  have h1 := tupleText_len_le (PyData.shownAll (pdL cs))
  have h2 := pdL_sum cs h
  have h3 := joinL_len (q "; ") (shP cs)
  have h4 : (q "; ").length = 2 := by decide
  have h5 : (PyData.shownAll (pdL cs)).length = cs.length := pdL_cnt cs
  have h6 : (shP cs).length = cs.length := by rw [shP_map, List.length_map]
  rw [h4, h6] at h3
  rw [h5] at h1
  by_cases hc : cs = []
  · subst hc
    have e0 : PyData.shownAll (pdL []) = [] := by
      unfold pdL
      simp [PyData.shownAll]
    rw [e0]
    have := tupleText_len_le []
    simp at this
    omega
  · have hc1 : 1 ≤ cs.length := List.length_pos_iff.mpr hc
    generalize ((shP cs).map (·.length)).sum = z at h2 h3
    omega
theorem pdL_sum : ∀ cs : List Part, wfP cs → ((PyData.shownAll (pdL cs)).map (·.length)).sum ≤ 100 * ((shP cs).map (·.length)).sum
  | [], _ => by
    unfold pdL
    simp [PyData.shownAll]
  | c :: cs, h => by
    have h1 : c.wf ∧ wfP cs := by simpa [wfP] using h
    have ih := pd_len c h1.1
    have ih2 := pdL_sum cs h1.2
    unfold pdL shP
    simp only [PyData.shownAll, List.map_cons, List.sum_cons]
    omega
theorem pdL_cnt : ∀ cs : List Part, (PyData.shownAll (pdL cs)).length = cs.length
  | [] => by
    unfold pdL
    simp [PyData.shownAll]
  | c :: cs => by
    unfold pdL
    simp only [PyData.shownAll, List.length_cons, pdL_cnt cs]
end
end K91
end

section
set_option Elab.async false
set_option linter.all false
set_option maxRecDepth 100000
set_option maxHeartbeats 4000000
/-! Rules of our own: a def called, its body read where it is called; an exception's wish by slots that are there. -/
namespace XP
open PySem PySem.Spec PyProof.Rows L2
theorem takes_len {X : Cx} {W : WX} (t : Takes X W) : Takes X (fun cls d σ H => σ.length = X.N.length → W cls d σ H) := fun u s' ⟨a, B, sI, pins, σ, H, cls, d, e, I, nb, up, sky, na, os, ag, w⟩ =>
  t u s' ⟨a, B, sI, pins, σ, H, cls, d, e, I, nb, up, sky, na, os, ag, w I.len⟩
section
variable {X : Cx}
/-- repr of a list or a tuple that holds data of any depth -/
def rReprC (K : PySem.W.Frag) (units : Nat) : List V → Hp → VK → Prop := fun xs H Q => ∃ (a : Addr) (d : PyData), xs = [.ref a] ∧ Dp K H (.ref a) d ∧ d.canLay0 = true ∧ d.showable = true ∧ units + (d.depth + 1) < cLine ∧ d.shown.length ≤ sizeLine ∧ Q (.str d.shown) H
theorem call_reprC (hg : X.A.guards = some []) : CallR X (.builtin "repr") (rReprC X.K X.A.units) := by
  intro pins s σ H xs us Q I r h
  obtain ⟨a, d, rfl, hd, sh, sw, hu, hz, q⟩ := h
  obtain ⟨u, rfl, ru⟩ := vals1 r
  obtain rfl : u = Value.ref a := ru
  obtain ⟨as, rd⟩ := Dp.reads I d (.ref a) (.ref a) hd rfl
  have nd : d.hasDict = false := PyData.hasDict_of_canLay d sh
  exact repr_of_reads' rd sw (PyData.noDict_hsm nd) hg hu (fun b o e => e) (fun h' u tk k => ⟨.str d.shown, H, I.kept k, ⟨_, rfl⟩, q⟩) hz
/-- f(e, ..): f's body is read for this very caller -/
theorem pe_calA {CX : CXT} {x name qual : Str} {params : Arguments} {body : List Stmt} {scope : Scope} {g : Addr} {fd : FuncData} {N ps : List Str} {sp : Sp} {k : Nat} {E : XK} {p pos : Pos} {e : Expr} {es : List Expr} {t : TA}
    (D : FunD X.K name qual params body scope [] [] g fd) (b : L2.Binds X.K fd ps []) (S : FnScope N ps scope) (len : ∀ vs H Q E, sp vs H Q E → vs.length = ps.length) (hr : Room (k + 1) X.A) (hm : X.mg x = some (.ref g)) (hx : Passes CX X E) (ha : PA X (e :: es) t)
    (hbody : ∀ (cdv : Value) (s : Shared) (H : Hp) (vs : List V) (Q : VK), Room k (X.A.deeper (envOfC qual scope s.heap.objs.size g cdv)) → sp vs H Q E →
      ∃ t, PSs (cxOf CX X.prog X.w X.K X.mg X.base N qual scope g cdv X.A X.stack s H E) body t ∧ t { nx := fun _ H' => Q .non H', rt := Q } (L2.start N vs) H)
    (hg : Gl X x := by rfl) (hdb : (x == ("__debug__" : Str)) = false := by decide) (he : starEach (e :: es) X.env = (false, eval e X.env) :: starEach es X.env := by rfl) (hpl : (backTo pos (starEach es X.env)).any (·.1) = false := by rfl) :
    PE X (.Call (.Name x p) (e :: es) [] pos) (tCall sp [] E t) := by
  refine ⟨fun pins s σ H Q I h => ?_⟩
  refine wpAny_Call_Name_kw (ld_glob I hg hm ?_ hdb)
  refine PySem.W.callWith_K (h₀ := X.base) I.ok.mod.kin D.kp (thn (ha.run pos pins s σ H _ I h) fun us s1 ⟨vs, H1, I1, r, q⟩ => ⟨I1.kIn, ?_⟩) he hpl
  have q : sp vs H1 Q E := by
    have q' : sp (vs ++ []) H1 Q E := q
    rwa [List.append_nil] at q'
  obtain ⟨oc, od, dV, kV, doc, pm, an, cdv, ct, osl, rfl, lk, hcg, _, _⟩ := D.ex
  have hl := len _ _ _ _ q
  have rc : codeAny (model X.prog X.w) X.A (.call (.ref g) ⟨us, []⟩) (CR CX X.stack X.prog X.w H1 s1 Q E) s1 :=
    LamX.run_ofS (N := N) (ps := ps) (us := us ++ []) (vs := vs) lk hcg S hr I1.env0 (b s1 us I1.kIn (by rw [← hl]; simpa using r.length.symm)) (by simpa using r) hl fun hr' => hbody cdv s1 H1 vs Q hr' q
  refine wpAny_call (codeAny_mono rc fun r s5 hq => ?_)
  cases r with
  | error e => exact hx pins σ H1 s1 e s5 I1 hq
  | ok fl =>
    cases fl with
    | ret u => exact I1.after hq
    | next => exact False.elim hq
    | brk => exact False.elim hq
    | cont => exact False.elim hq
end
end XP
end

section
set_option Elab.async false
set_option linter.all false
set_option maxRecDepth 100000
set_option maxHeartbeats 4000000
/-! k91: alike, read. -/
namespace K91
open PySem PySem.Spec PyProof.Rows L2 He HL
section
variable {w : World} {K : PySem.W.Frag} {mg : Str → Option Value} {base : Heap}
abbrev n_law_alike : List Str := ["_law_found", "_law_due"]
theorem sc_law_alike : FnScope n_law_alike ["_law_found", "_law_due"] (defScope s_law_alike) := ⟨rfl, rfl, rfl, by decide +kernel, rfl, by decide +kernel, by decide +kernel⟩
theorem bi_law_alike : ∀ (kV doc pm : Value) (an : Option Addr) (cdv ct : Value) (us : List Value), us.length = 2 → bindArgs (PySem.W.fnOf d_law_alike.name d_law_alike.qual d_law_alike.params d_law_alike.body d_law_alike.scope .none kV doc pm an cdv ct) ⟨us, []⟩ = pure ([("_law_found" : Str), ("_law_due" : Str)].zip us) := fun kV doc pm an cdv ct us hu => by
  match us, hu with
  | [u0, u1], _ => rfl
/-- two lists of the same data -/
def spAlike (K : PySem.W.Frag) (units : Nat) : Sp := fun vs H Q _ => ∃ (l1 l2 : Addr) (d : PyData), vs = [.ref l1, .ref l2] ∧ Dp K H (.ref l1) d ∧ Dp K H (.ref l2) d ∧ d.canLay0 = true ∧ d.showable = true ∧ d.depth ≤ 200 ∧ d.shown.length ≤ sizeLine ∧ Q (.bl true) H
theorem alike_body (W : Wl K mg) {A : Around} {outer : List Env} {cdv : Value} {s : Shared} {H : Hp} {vs : List V} {Q : VK} {E : XK} {u0 : Nat} (hgd : A.guards = some []) (hu : A.units + 3 + 210 < cLine) (h : spAlike K u0 vs H Q E) :
    ∃ t, PSs (cxOf CX0 P0 w K mg base n_law_alike d_law_alike.qual d_law_alike.scope (fAd K d_law_alike.at_) cdv A outer s H E) d_law_alike.body t ∧ t { nx := fun _ H' => Q .non H', rt := Q } (L2.start n_law_alike vs) H := by
  have hgd : (cxOf CX0 P0 w K mg base n_law_alike d_law_alike.qual d_law_alike.scope (fAd K d_law_alike.at_) cdv A outer s H E).A.guards = some [] := hgd
  refine ⟨_, (pss_one (ps_ret (pe_and (pe_cmpR XP.op_eqE (pv 0) (pv 1) (nomark _)) (pe_one (pe_cmpR op_eq (pe_callB (XP.call_reprC hgd) (by rfl) W.f_repr (by decide +kernel) (pa_cons (pv 0) pa_nil)) (pe_callB (XP.call_reprC hgd) (by rfl) W.f_repr (by decide +kernel) (pa_cons (pv 1) pa_nil)) (nomark _)))))), ?_⟩
  obtain ⟨l1, l2, d, rfl, h1, h2, hl, hs, hd, hz, hq⟩ := h
  have hu' : (A.deeper (envOfC d_law_alike.qual d_law_alike.scope s.heap.objs.size (fAd K d_law_alike.at_) cdv)).units + (d.depth + 1) < cLine := by
    show A.units + 3 + (d.depth + 1) < cLine
    omega
  refine ⟨_, rfl, _, rfl, d, d, h1, h2, hl, hl, ?_, ?_⟩
  · have := Nat.min_le_left d.depth d.depth
    show A.units + 3 + min d.depth d.depth < cLine
    omega
  · rw [SeqAt.eqv_refl d hl]
    refine ⟨_, rfl, iteT ⟨_, rfl, l1, d, rfl, h1, hl, hs, hu', hz, _, rfl, l2, d, rfl, h2, hl, hs, hu', hz, rfl, ?_⟩⟩
    rw [decide_eq_true rfl]
    exact hq
abbrev n_law_read : List Str := ["_law_act", "e"]
theorem sc_law_read : FnScope n_law_read ["_law_act"] (defScope s_law_read) := ⟨rfl, rfl, rfl, by decide +kernel, rfl, by decide +kernel, by decide +kernel⟩
theorem bi_law_read : ∀ (kV doc pm : Value) (an : Option Addr) (cdv ct : Value) (us : List Value), us.length = 1 → bindArgs (PySem.W.fnOf d_law_read.name d_law_read.qual d_law_read.params d_law_read.body d_law_read.scope .none kV doc pm an cdv ct) ⟨us, []⟩ = pure ([("_law_act" : Str)].zip us) := fun kV doc pm an cdv ct us hu => by
  match us, hu with
  | [u0], _ => rfl
/-- what _law_read makes of its callable: ('told', x), or ('none', None) where a NoText is let out -/
def TTr (K : PySem.W.Frag) : (XK → Hp → VK → Prop) → Hp → VK → Prop := fun tl H Q =>
  tl (fun cls d H' => cls = .ref (CN K) ∧ d = none ∧ ∀ p, H' p = none → Q (.ref p) (upd H' p (.tup [.str "none", .non]))) H fun v H' => [V.str "told", v].length ≤ sizeLine ∧ ∀ p, H' p = none → Q (.ref p) (upd H' p (.tup [.str "told", v]))
def tsRead (K : PySem.W.Frag) (a : Addr) : TS := tRet (tIf (tAnd (tB (tCB (rIsE K (CN K) a) (tCons (tVar 1) (tCons (tC (.ref (ga K "NoText"))) tNil)))) (tNot (tB (tCB (rIsE K (CN K) a) (tCons (tVar 1) (tCons (tC (.ref (ga K "Wrong"))) tNil))))))
  (tTup (tCons (tC (.str "none")) (tCons (tC .non) tNil))) (tTup (tCons (tC (.str "other")) (tCons (tC .non) tNil))))
theorem read_gives (W : Wl K mg) {N : List Str} {qual : Str} {scope : Scope} {f0 : Addr} {cdv0 : Value} {A : Around} {outer : List Env} {s0 : Shared} {H0 : Hp} {E0 : L2.XK} {cdg : Value} {q : Str} :
    LamX.GivesTo (cxOf (CXN w) P0 w K mg base N qual scope f0 cdv0 A outer s0 H0 E0).nox n_law_read "_law_read" (defScope s_law_read) (ga K "_law_read") cdg (defBody s_law_read) "_law_act" q (TTr K) := by
  intro f c' s H Q tl act hc h
  have nd := sc_law_read.nd
  have e1 : PySem.W.kitOne K (.ref (CN K)) (.ref (ga K "NoText")) = some true := W.kit (p := ("NoText", "NoText", true)) (by simp [ks])
  have e2 : PySem.W.kitOne K (.ref (CN K)) (.ref (ga K "Wrong")) = some false := W.kit (p := ("NoText", "Wrong", false)) (by simp [ks])
  refine ⟨_, pss_one (ps_try_as (i := 1) (c := .ref (ga K "AloneError")) (ts := fun a cls d => if cls = .ref (CN K) ∧ d = none then tsRead K a else fun _ _ _ => False)
      (tb := fun W D σ H => ∃ Ech : L2.XK, (∀ cls d σ' H', Ech cls d H' → σ'.length = 2 → W cls d σ' H') ∧ tRet (tTup (tCons (tC (.str "told")) (tCons (fun σZ HZ Q => σZ[0]? = some (some (.ref f)) ∧ HZ c' = some (LamX.CodeO c' q) ∧ tl Ech HZ Q) tNil))) D σ H)
      rfl rfl nd rfl rfl ⟨rfl, by decide, .inl W.g_AloneError⟩ LamX.takes0 (fun Wx pn xe tk _ => ?_) (fun a oe cls d pn hz hf => ?_)), ?_⟩
  · refine ⟨fun pins s' σ H' D I h' => ?_⟩
    obtain ⟨Ech, hW, h1⟩ := h'
    have hp := fun p1 p2 => act _ pn xe Ech p1 p2 (XP.takes_len tk) (fun cls d σ' H' z => hW cls d σ' H' z)
    refine PSs.run ?_ pins s' σ H' D I h1
    exact pss_one (ps_ret (pe_tup (pa_cons pe_str (pa_cons (hp _ _) pa_nil))))
  · by_cases hcd : cls = .ref (CN K) ∧ d = none
    · rw [if_pos hcd]
      obtain ⟨rfl, rfl⟩ := hcd
      exact pss_one (ps_ret (pe_ifExp (PW.pt (pw_and (pt_val (pe_callB (call_isE W.cat_x_NoText hz hf) (by rfl) W.f_isinstance (by decide +kernel) (pa_cons (pv 1) (pa_cons (pe_glob (v := .ref (ga K "NoText")) (by rfl) W.g_NoText rfl) pa_nil))))
        (pw_and1 (pt_not (pt_val (pe_callB (call_isE W.cat_x_NoText hz hf) (by rfl) W.f_isinstance (by decide +kernel) (pa_cons (pv 1) (pa_cons (pe_glob (v := .ref (ga K "Wrong")) (by rfl) W.g_Wrong rfl) pa_nil))))))))
        (pe_tup (pa_cons pe_str (pa_cons pe_non pa_nil))) (pe_tup (pa_cons pe_str (pa_cons pe_non pa_nil)))))
    · rw [if_neg hcd]
      exact pss_never
  · refine ⟨fun cls d H' => cls = .ref (CN K) ∧ d = none ∧ ∀ p, H' p = none → Q (.ref p) (upd H' p (.tup [.str "none", .non])), ?_, rfl, hc, ?_⟩
    · rintro cls d σ' H' ⟨rfl, rfl, hq⟩ hlen
      refine ⟨true, W.x_NoText_AloneError, fun _ a ha => ?_, nofun⟩
      obtain ⟨x0, x1, rfl⟩ : ∃ x0 x1, σ' = [x0, x1] := by
        match σ', hlen with
        | [x0, x1], _ => exact ⟨x0, x1, rfl⟩
      rw [if_pos ⟨rfl, rfl⟩]
      refine ⟨_, rfl, _, _, true, rfl, fun u r => r, e1, true, rfl, iteT ⟨_, rfl, _, _, false, rfl, fun u r => r, e2, false, rfl, ?_⟩⟩
      exact iteE true rfl (iteT ⟨by show 2 ≤ sizeLine; decide, fun p hp => hq p hp⟩)
    · exact h
end
end K91
end

section
set_option Elab.async false
set_option linter.all false
set_option maxRecDepth 100000
set_option maxHeartbeats 8000000
/-! k91: the law. -/
namespace K91
open PySem PySem.Spec PyProof.Rows L2 He HL
section
variable {w : World} {K : PySem.W.Frag} {mg : Str → Option Value} {base : Heap}
def dueC : Option M.Cond → PyData
  | none => .tuple [.str (S (M.q "none")), .none]
  | some c => .tuple [.str (S (M.q "told")), cd c]
def dueP : Option M.Part → PyData
  | none => .tuple [.str (S (M.q "none")), .none]
  | some c => .tuple [.str (S (M.q "told")), pd c]
def DueC (H : Hp) (u : Addr) : Option M.Cond → Prop
  | none => H u = some (.tup [.str (S (M.q "none")), .non])
  | some c => ∃ v, H u = some (.tup [.str (S (M.q "told")), v]) ∧ CAt H c v
def DueP (H : Hp) (u : Addr) : Option M.Part → Prop
  | none => H u = some (.tup [.str (S (M.q "none")), .non])
  | some c => ∃ v, H u = some (.tup [.str (S (M.q "told")), v]) ∧ PAt H c v
theorem DueC.keep {H H' : Hp} {u : Addr} {r : Option M.Cond} (h : DueC H u r) (e : TupK H H') : DueC H' u r := by
  cases r with
  | none => exact e _ _ h
  | some c => obtain ⟨v, h1, h2⟩ := h; exact ⟨v, e _ _ h1, h2.keep e⟩
theorem DueP.keep {H H' : Hp} {u : Addr} {r : Option M.Part} (h : DueP H u r) (e : TupK H H') : DueP H' u r := by
  cases r with
  | none => exact e _ _ h
  | some c => obtain ⟨v, h1, h2⟩ := h; exact ⟨v, e _ _ h1, h2.keep e⟩
theorem DueC.dp {H : Hp} {u : Addr} {r : Option M.Cond} (h : DueC H u r) : Dp K H (.ref u) (dueC r) := by
  cases r with
  | none => exact .tup (sqt h) (.cons (.str _) (.cons .non .nil))
  | some c => obtain ⟨v, h1, h2⟩ := h; exact .tup (sqt h1) (.cons (.str _) (.cons h2.dp .nil))
theorem DueP.dp {H : Hp} {u : Addr} {r : Option M.Part} (h : DueP H u r) : Dp K H (.ref u) (dueP r) := by
  cases r with
  | none => exact .tup (sqt h) (.cons (.str _) (.cons .non .nil))
  | some c => obtain ⟨v, h1, h2⟩ := h; exact .tup (sqt h1) (.cons (.str _) (.cons h2.dp .nil))
theorem ok_told : PyData.strOk (S (M.q "told")) = true := okS _ (by decide)
theorem ok_none : PyData.strOk (S (M.q "none")) = true := okS _ (by decide)
/-- what the law compares -/
theorem due_ok {rc : Option M.Cond} {rp : Option M.Part} (hC : ∀ c, rc = some c → c.wf ∧ M.om c.sh ≤ 139 ∧ c.sh.length ≤ 2000) (hP : ∀ c, rp = some c → c.wf ∧ M.om c.sh ≤ 139 ∧ c.sh.length ≤ 2000) :
    (PyData.list [dueC rc, dueP rp]).canLay0 = true ∧ (PyData.list [dueC rc, dueP rp]).showable = true ∧ (PyData.list [dueC rc, dueP rp]).depth ≤ 200 ∧ (PyData.list [dueC rc, dueP rp]).shown.length ≤ sizeLine := by
  have t1 := rt_len ok_told
  have t2 := rt_len ok_none
  have l1 : (M.q "told").length = 4 := by decide
  have l2 : (M.q "none").length = 4 := by decide
  have c1 : (dueC rc).canLay0 = true ∧ (dueC rc).showable = true ∧ (dueC rc).depth ≤ 150 ∧ (dueC rc).shown.length ≤ 300000 := by
    cases rc with
    | none =>
      refine ⟨?_, ?_, ?_, ?_⟩
      · simp only [dueC, PyData.canLay0, PyData.canLayAll0, ok_none, Bool.and_true]
      · simp [dueC, PyData.showable, PyData.showableAll]
      · simp [dueC, PyData.depth, PyData.depthAll]
      · simp only [dueC, PyData.shown, PyData.shownAll]
        have := tt2 (reprText (S (M.q "none"))) ("None" : Str)
        have h3 : (Str.ofString "None").length = 4 := by rw [ofq, S_len]; decide
        have h4 : ("None" : Str).length = 4 := h3
        omega
    | some c =>
      obtain ⟨h1, h2, h3⟩ := hC c rfl
      have q1 := cd_deep c
      have q2 := cd_len c h1
      refine ⟨?_, ?_, ?_, ?_⟩
      · simp only [dueC, PyData.canLay0, PyData.canLayAll0, ok_told, cd_lay c h1, Bool.and_true]
      · simp [dueC, PyData.showable, PyData.showableAll, cd_show c]
      · simp only [dueC, PyData.depth, PyData.depthAll]
        omega
      · simp only [dueC, PyData.shown, PyData.shownAll]
        have := tt2 (reprText (S (M.q "told"))) (cd c).shown
        omega
  have c2 : (dueP rp).canLay0 = true ∧ (dueP rp).showable = true ∧ (dueP rp).depth ≤ 150 ∧ (dueP rp).shown.length ≤ 300000 := by
    cases rp with
    | none =>
      refine ⟨?_, ?_, ?_, ?_⟩
      · simp only [dueP, PyData.canLay0, PyData.canLayAll0, ok_none, Bool.and_true]
      · simp [dueP, PyData.showable, PyData.showableAll]
      · simp [dueP, PyData.depth, PyData.depthAll]
      · simp only [dueP, PyData.shown, PyData.shownAll]
        have := tt2 (reprText (S (M.q "none"))) ("None" : Str)
        have h3 : (Str.ofString "None").length = 4 := by rw [ofq, S_len]; decide
        have h4 : ("None" : Str).length = 4 := h3
        omega
    | some c =>
      obtain ⟨h1, h2, h3⟩ := hP c rfl
      have q1 := pd_deep c
      have q2 := pd_len c h1
      refine ⟨?_, ?_, ?_, ?_⟩
      · simp only [dueP, PyData.canLay0, PyData.canLayAll0, ok_told, pd_lay c h1, Bool.and_true]
      · simp [dueP, PyData.showable, PyData.showableAll, pd_show c h1]
      · simp only [dueP, PyData.depth, PyData.depthAll]
        omega
      · simp only [dueP, PyData.shown, PyData.shownAll]
        have := tt2 (reprText (S (M.q "told"))) (pd c).shown
        omega
  obtain ⟨a1, a2, a3, a4⟩ := c1
  obtain ⟨b1, b2, b3, b4⟩ := c2
  refine ⟨?_, ?_, ?_, ?_⟩
  · simp only [PyData.canLay0, PyData.canLayAll0, a1, b1, Bool.and_true]
  · simp only [PyData.showable, PyData.showableAll, a2, b2, Bool.and_true]
  · simp only [PyData.depth, PyData.depthAll]
    omega
  · simp only [PyData.shown, PyData.shownAll]
    have := listText_len_le [(dueC rc).shown, (dueP rp).shown]
    simp at this
    exact small (by omega)
/-! ### frames -/
theorem extT {H H' : Hp} (e : LamX.ExtN H H') : TupK H H' := fun b xs h => e b _ h (fun _ z => nomatch z)
theorem Bag.ext {H H' : Hp} {b c : Addr} (h : Bag H b c) (e : LamX.ExtN H H') : Bag H' b c := let ⟨d, m, k, ks, h1, h2, h3, h4⟩ := h; ⟨d, m, k, ks, e _ _ h1 (fun _ z => nomatch z), e _ _ h2 (fun _ z => nomatch z), h3, h4⟩
theorem NoTx.ext {H H' : Hp} {b : Addr} {v : V} (h : NoTx H b v) (e : LamX.ExtN H H') : NoTx H' b v := by
  rcases h with rfl | ⟨i, rfl⟩ | ⟨a, xs, rfl, h⟩ | ⟨a, xs, rfl, h, n⟩
  · exact .inl rfl
  · exact .inr (.inl ⟨i, rfl⟩)
  · exact .inr (.inr (.inl ⟨a, xs, rfl, e _ _ h (fun _ z => nomatch z)⟩))
  · exact .inr (.inr (.inr ⟨a, xs, rfl, e _ _ h (fun _ z => nomatch z), n⟩))
theorem tabL {T : List (Addr × Str)} {b c : Addr} {H H' : Hp} (t : LamX.Tabs T H) (e : SameB b H H') (hB : Bag H b c) : LamX.Tabs T H' := fun x hx => by
  obtain ⟨xs, h⟩ := hB.lst
  obtain ⟨ps, h1, h2, h3⟩ := t x hx
  refine ⟨ps, e _ _ h1 (fun z => by rw [z, h] at h1; cases h1), h2, fun pos cv hc => ?_⟩
  obtain ⟨c, e1, e2⟩ := h3 pos cv hc
  exact ⟨c, e1, e _ _ e2 (fun z => by rw [z, h] at e2; exact codeO_lst (Option.some.inj e2).symm)⟩
/-- the text that is read, and what it tells -/
def TV (H : Hp) (b : Addr) (v : V) (rc : Option M.Cond) (rp : Option M.Part) : Prop :=
  (∃ s, v = .str (S s) ∧ s.length ≤ 1040 ∧ M.om s ≤ 136 ∧ rc = M.readC 140 s ∧ rp = M.readP 140 s) ∨ (NoTx H b v ∧ rc = none ∧ rp = none)
theorem TV.ext {H H' : Hp} {b : Addr} {v : V} {rc : Option M.Cond} {rp : Option M.Part} (h : TV H b v rc rp) (e : LamX.ExtN H H') : TV H' b v rc rp := by
  rcases h with h | ⟨h, h2⟩
  · exact .inl h
  · exact .inr ⟨h.ext e, h2⟩
theorem TV.c {H : Hp} {b : Addr} {v : V} {rc : Option M.Cond} {rp : Option M.Part} (h : TV H b v rc rp) : ∀ c, rc = some c → (c.wf ∧ M.om c.sh ≤ 139 ∧ c.sh.length ≤ 2000) ∧ v = .str (S c.sh) := fun c hc => by
  rcases h with ⟨s, rfl, h1, h2, h3, h4⟩ | ⟨h, h1, h2⟩
  · rw [h3, M.readC_eq (n' := 140) (m := s.length) (by omega) (by omega) (Nat.le_refl _)] at hc
    obtain ⟨e1, e2⟩ := M.lawC_sh hc
    rw [e1]
    exact ⟨⟨e2, by omega, by omega⟩, rfl⟩
  · rw [h1] at hc
    cases hc
theorem TV.p {H : Hp} {b : Addr} {v : V} {rc : Option M.Cond} {rp : Option M.Part} (h : TV H b v rc rp) : ∀ c, rp = some c → (c.wf ∧ M.om c.sh ≤ 139 ∧ c.sh.length ≤ 2000) ∧ v = .str (S c.sh) := fun c hc => by
  rcases h with ⟨s, rfl, h1, h2, h3, h4⟩ | ⟨h, h1, h2⟩
  · rw [h4, M.readP_eq (n' := 140) (m := s.length) (by omega) (by omega) (Nat.le_refl _)] at hc
    obtain ⟨e1, e2, _⟩ := M.lawP_sh hc
    rw [e1]
    exact ⟨⟨e2, by omega, by omega⟩, rfl⟩
  · rw [h2] at hc
    cases hc
/-! ### readings -/
theorem dueC_none {H : Hp} {p : Addr} : DueC (upd H p (.tup [.str (Str.ofString "none"), .non])) p none := by
  unfold DueC
  rw [upd_same, sq "none"]
theorem dueC_some {H : Hp} {p : Addr} {v : V} {c : M.Cond} (h : CAt H c v) (hp : H p = none) : DueC (upd H p (.tup [.str (Str.ofString "told"), v])) p (some c) := by
  unfold DueC
  exact ⟨v, by rw [upd_same, sq "told"], h.keep (.of (same_new hp))⟩
theorem dueP_none {H : Hp} {p : Addr} : DueP (upd H p (.tup [.str (Str.ofString "none"), .non])) p none := by
  unfold DueP
  rw [upd_same, sq "none"]
theorem dueP_some {H : Hp} {p : Addr} {v : V} {c : M.Part} (h : PAt H c v) (hp : H p = none) : DueP (upd H p (.tup [.str (Str.ofString "told"), v])) p (some c) := by
  unfold DueP
  exact ⟨v, by rw [upd_same, sq "told"], h.keep (.of (same_new hp))⟩
theorem lam_c {σ : L2.St} {H : Hp} {b : Addr} {v : V} {rc : Option M.Cond} {rp : Option M.Part} {Q : VK} (hT : LamX.Tabs (TK K) H) (hσ : σ[3]? = some (some v)) (hv : TV H b v rc rp) (h : ∀ p H', LamX.ExtN H H' → LamX.Tabs (TK K) H' → DueC H' p rc → Q (.ref p) H') :
    LamX.tLam (TK K) (TTr K) (fun E' => tCall (spReadC K 140) [] E' (tCons (tVar 3) tNil)) σ H Q := by
  refine ⟨hT, fun H1 e1 T1 => ?_⟩
  refine ⟨v, hσ, v, rfl, T1, ?_⟩
  have fr : ∀ H2 p o, LamX.ExtN H1 H2 → H2 p = none → LamX.ExtN H (upd H2 p o) := fun H2 p o e hp => (e1.trans e).trans (.of (same_new hp))
  rcases hv.ext e1 with ⟨s, rfl, h1, h2, h3, h4⟩ | ⟨hn, rfl, _⟩
  · refine .inl ⟨s, rfl, by omega, by omega, fun hc H2 e2 T2 => ⟨rfl, rfl, fun p hp => ?_⟩, fun c hc u H2 e2 T2 hAt => ⟨by show 2 ≤ sizeLine; decide, fun p hp => ?_⟩⟩
    · exact h p _ (fr H2 p _ e2 hp) (T2.ext (same_new hp)) (by rw [h3, hc]; exact dueC_none)
    · exact h p _ (fr H2 p _ e2 hp) (T2.ext (same_new hp)) (by rw [h3, hc]; exact dueC_some hAt hp)
  · exact .inr ⟨hn.no, rfl, rfl, fun p hp => h p _ (fr H1 p _ (.refl _) hp) (T1.ext (same_new hp)) dueC_none⟩
theorem lam_p {σ : L2.St} {H : Hp} {b : Addr} {v : V} {rc : Option M.Cond} {rp : Option M.Part} {Q : VK} (hT : LamX.Tabs (TK K) H) (hσ : σ[3]? = some (some v)) (hv : TV H b v rc rp) (h : ∀ p H', LamX.ExtN H H' → LamX.Tabs (TK K) H' → DueP H' p rp → Q (.ref p) H') :
    LamX.tLam (TK K) (TTr K) (fun E' => tCall (spReadP K 140) [] E' (tCons (tVar 3) tNil)) σ H Q := by
  refine ⟨hT, fun H1 e1 T1 => ?_⟩
  refine ⟨v, hσ, v, rfl, T1, ?_⟩
  have fr : ∀ H2 p o, LamX.ExtN H1 H2 → H2 p = none → LamX.ExtN H (upd H2 p o) := fun H2 p o e hp => (e1.trans e).trans (.of (same_new hp))
  rcases hv.ext e1 with ⟨s, rfl, h1, h2, h3, h4⟩ | ⟨hn, _, rfl⟩
  · refine .inl ⟨s, rfl, by omega, by omega, fun hc H2 e2 T2 => ⟨rfl, rfl, fun p hp => ?_⟩, fun c hc u H2 e2 T2 hAt => ⟨by show 2 ≤ sizeLine; decide, fun p hp => ?_⟩⟩
    · exact h p _ (fr H2 p _ e2 hp) (T2.ext (same_new hp)) (by rw [h4, hc]; exact dueP_none)
    · exact h p _ (fr H2 p _ e2 hp) (T2.ext (same_new hp)) (by rw [h4, hc]; exact dueP_some hAt hp)
  · exact .inr ⟨hn.no, rfl, rfl, fun p hp => h p _ (fr H1 p _ (.refl _) hp) (T1.ext (same_new hp)) dueP_none⟩
theorem extMut {H H5 H6 : Hp} {l : Addr} {o : HO} (e1 : LamX.ExtN H H5) (h5 : H5 l = none) (e2 : LamX.ExtN H5 H6) : LamX.ExtN H (upd H6 l o) := fun b o' h n => by
  have z := e1 b o' h n
  rw [upd_ne (ne_of_none z h5)]
  exact e2 b o' z n
theorem tabU {T : List (Addr × Str)} {l : Addr} {xs : List V} {o : HO} {H : Hp} (t : LamX.Tabs T H) (h : H l = some (.lst xs)) : LamX.Tabs T (upd H l o) := fun x hx => by
  obtain ⟨ps, h1, h2, h3⟩ := t x hx
  refine ⟨ps, by rw [upd_ne (fun z => by rw [z, h] at h1; cases h1)]; exact h1, h2, fun pos cv hc => ?_⟩
  obtain ⟨c, e1, e2⟩ := h3 pos cv hc
  exact ⟨c, e1, by rw [upd_ne (fun z => by rw [z, h] at e2; exact codeO_lst (Option.some.inj e2).symm)]; exact e2⟩
/-- is it a text? -/
theorem is_str {H : Hp} {b : Addr} {v : V} {Q : VK} (h1 : ∀ s, v = .str (S s) → Q (.bl true) H) (h2 : NoTx H b v → Q (.bl false) H) (h : (∃ s, v = .str (S s)) ∨ NoTx H b v) : rIsi K [v, .ty "str"] H Q := by
  rcases h with ⟨s, rfl⟩ | h
  · exact ⟨_, _, _, _, true, rfl, .ty _, .base (.str _), kit_ty (by decide +kernel), h1 s rfl⟩
  · obtain ⟨t, ht, hk⟩ := h.no (K := K)
    exact ⟨_, _, _, _, false, rfl, .ty _, ht, hk, h2 h⟩
theorem whole_c {s : List Nat} {H : Hp} {Q : VK} (hs : s.length ≤ 1040) (hom : M.om s ≤ 136) (h : ∀ p H', Same H H' → DueC H' p (M.readC 140 s) → Q (.ref p) H') :
    spLC 140 [.str (S s), .int 0] H (fun x H1 => spWhole [.str (S s), x] H1 Q L2.E0) L2.E0 := by
  have hr : M.readC 140 s = M.lawC 140 s.length s := M.readC_eq (by omega) (by omega) (Nat.le_refl _)
  refine ⟨s, 0, s, rfl, ⟨Nat.zero_le _, rfl⟩, by omega, by omega, fun hc H1 e1 => ?_, fun c r hc u v j H1 e1 _ hP hu hAt => ?_⟩
  · refine ⟨s, .non, rfl, by omega, .inl ⟨rfl, fun p hp => h p _ (HL.Same.new e1 hp) ?_⟩⟩
    rw [hr]
    unfold M.lawC
    rw [hc]
    exact dueC_none
  · refine ⟨s, .ref u, rfl, by omega, .inr ⟨u, v, j, r, rfl, hu, hP, fun hn p hp => h p _ (HL.Same.new e1 hp) ?_, fun hn p hp => h p _ (HL.Same.new e1 hp) ?_⟩⟩
    · rw [hr]
      unfold M.lawC
      rw [hc]
      dsimp only
      rw [if_pos hn]
      exact dueC_some hAt hp
    · rw [hr]
      unfold M.lawC
      rw [hc]
      dsimp only
      rw [if_neg hn]
      exact dueC_none
theorem whole_p {s : List Nat} {H : Hp} {Q : VK} (hs : s.length ≤ 1040) (hom : M.om s ≤ 136) (h : ∀ p H', Same H H' → DueP H' p (M.readP 140 s) → Q (.ref p) H') :
    spLP 140 [.str (S s), .int 0] H (fun x H1 => spWhole [.str (S s), x] H1 Q L2.E0) L2.E0 := by
  have hr : M.readP 140 s = M.lawP 140 s.length s := M.readP_eq (by omega) (by omega) (Nat.le_refl _)
  refine ⟨s, 0, s, rfl, ⟨Nat.zero_le _, rfl⟩, by omega, by omega, fun hc H1 e1 => ?_, fun c r hc u v j H1 e1 _ hP hu hAt => ?_⟩
  · refine ⟨s, .non, rfl, by omega, .inl ⟨rfl, fun p hp => h p _ (HL.Same.new e1 hp) ?_⟩⟩
    rw [hr]
    unfold M.lawP
    rw [hc]
    exact dueP_none
  · refine ⟨s, .ref u, rfl, by omega, .inr ⟨u, v, j, r, rfl, hu, hP, fun hn p hp => h p _ (HL.Same.new e1 hp) ?_, fun hn p hp => h p _ (HL.Same.new e1 hp) ?_⟩⟩
    · rw [hr]
      unfold M.lawP
      rw [hc]
      dsimp only
      rw [if_pos hn]
      exact dueP_some hAt hp
    · rw [hr]
      unfold M.lawP
      rw [hc]
      dsimp only
      rw [if_neg hn]
      exact dueP_none
theorem TV.is {H : Hp} {b : Addr} {v : V} {rc : Option M.Cond} {rp : Option M.Part} (h : TV H b v rc rp) : (∃ s, v = .str (S s)) ∨ NoTx H b v := by
  rcases h with ⟨s, h, _⟩ | ⟨h, _⟩
  · exact .inl ⟨s, h⟩
  · exact .inr h
theorem TV.s {H : Hp} {b : Addr} {s : List Nat} {rc : Option M.Cond} {rp : Option M.Part} (h : TV H b (.str (S s)) rc rp) : s.length ≤ 1040 ∧ M.om s ≤ 136 ∧ rc = M.readC 140 s ∧ rp = M.readP 140 s := by
  rcases h with ⟨s', h, h'⟩ | ⟨h, _⟩
  · injection h with h
    cases S_inj h
    exact h'
  · rcases h with h | ⟨_, h⟩ | ⟨_, _, h, _⟩ | ⟨_, _, h, _⟩ <;> cases h
theorem TV.n {H H1 : Hp} {b : Addr} {v : V} {rc : Option M.Cond} {rp : Option M.Part} (h : TV H b v rc rp) (hn : NoTx H1 b v) : rc = none ∧ rp = none := by
  rcases h with ⟨s, rfl, _⟩ | ⟨_, h⟩
  · rcases hn with h | ⟨_, h⟩ | ⟨_, _, h, _⟩ | ⟨_, _, h, _⟩ <;> cases h
  · exact h
abbrev n_law : List Str := ["_law_script", "_law_bag_here", "_law_turn", "_law_text_here", "_law_again", "_law_dues", "_law_found"]
theorem sc_law : FnScope n_law ["_law_script"] (defScope s_law) := ⟨rfl, rfl, rfl, by decide +kernel, rfl, by decide +kernel, by decide +kernel⟩
theorem bi_law : ∀ (kV doc pm : Value) (an : Option Addr) (cdv ct : Value) (us : List Value), us.length = 1 → bindArgs (PySem.W.fnOf d_law.name d_law.qual d_law.params d_law.body d_law.scope .none kV doc pm an cdv ct) ⟨us, []⟩ = pure ([("_law_script" : Str)].zip us) := fun kV doc pm an cdv ct us hu => by
  match us, hu with
  | [u0], _ => rfl
abbrev LX (w : World) (K : PySem.W.Frag) (mg : Str → Option Value) (base : Heap) (fa' : Addr) (outer : List Env) (s : Shared) (H : Hp) (E : L2.XK) : Cx := (cxOf (CXN w) P0 w K mg base n_law d_law.qual d_law.scope fa' (.ref (He.cT K ("law", none)).1) callerA outer s H E).nox
def spLaw (K : PySem.W.Frag) (ts : List Addr) : Sp := fun vs H Q _ => ∃ (a : Addr) (ns : List Int), vs = [.ref a] ∧ SqL K H a (ns.map V.int) ∧ ns.length ≤ 63 ∧ (∀ t ∈ ts, H t = some (.tbl #[])) ∧ ∀ H', Q (.bl true) H'
theorem law_body (W : Wl K mg) (B : Tb K mg base) {outer : List Env} {s : Shared} {H : Hp} {vs : List V} {Q : VK} {E : L2.XK} {fa' : Addr} (hr : Room 170 (LX w K mg base fa' outer s H E).A) (h : spLaw K ((TK K).map (·.1)) vs H Q E) :
    ∃ t, PSs (LX w K mg base fa' outer s H E) d_law.body t ∧ t { nx := fun _ H' => Q .non H', rt := Q } (L2.start n_law vs) H := by
  have nd := sc_law.nd
  have O__law_bag := o_bag (w := w) (base := base) W
  have O__law_text := o_text (w := w) (base := base) W
  have O__law_take := o_take (w := w) (base := base) W
  have O__law_spoilt := o_spoilt (w := w) (base := base) W
  have O__law_whole := o_whole (w := w) (base := base) W
  have O__law_condition_at := o_lcond (w := w) (base := base) W 140 143 (fun _ => by omega) (fun _ => by omega)
  have O__law_part_at := o_lpart (w := w) (base := base) W 140 144 (fun _ => by omega) (fun _ => by omega)
  have O_show_condition := o_show_cond (w := w) (base := base) W 140 141 (fun _ => by omega) (fun _ => by omega)
  have O_show_part := o_show_part (w := w) (base := base) W 140 142 (fun _ => by omega) (fun _ => by omega)
  have O_read_condition := o_readC (w := w) (base := base) W B 140 (by decide)
  have O_read_part := o_readP (w := w) (base := base) W B 140 (by decide)
  obtain ⟨fdA, DA⟩ := W.D_law_alike
  have bA : L2.Binds K fdA ["_law_found", "_law_due"] [] := DA.bindsN bi_law_alike
  have lenA : ∀ vs H Q E, spAlike K 0 vs H Q E → vs.length = (["_law_found", "_law_due"] : List Str).length := fun vs H Q E ⟨_, _, _, h, _⟩ => by rw [h]; rfl
  have hbA : ∀ (cdv : Value) (s' : Shared) (H' : Hp) (vs : List V) (Q : VK), Room 5 ((LX w K mg base fa' outer s H E).A.deeper (envOfC d_law_alike.qual d_law_alike.scope s'.heap.objs.size (fAd K d_law_alike.at_) cdv)) → spAlike K 0 vs H' Q L2.E0 →
      ∃ t, PSs (cxOf CX0 P0 w K mg base n_law_alike d_law_alike.qual d_law_alike.scope (fAd K d_law_alike.at_) cdv (LX w K mg base fa' outer s H E).A (LX w K mg base fa' outer s H E).stack s' H' L2.E0) d_law_alike.body t ∧ t { nx := fun _ H' => Q .non H', rt := Q } (L2.start n_law_alike vs) H' :=
    fun cdv s' H' vs Q _ h => alike_body W rfl (by have := hr.un; omega) h
  obtain ⟨fdR, DR⟩ := W.D_law_read
  obtain ⟨ocR, odR, dVR, kVR, docR, pmR, anR, cdvR, ctR, oslR, rfl, lkR, hcgR, _, _⟩ := id DR.ex
  have bR : L2.Binds K _ ["_law_act"] [] := DR.bindsN bi_law_read
  refine ⟨_, (pss_cons (ps_set (i := 1) nd rfl (Or.inl rfl) (pe_cal O__law_bag (hr.mono (by omega)) W.g__law_bag pass0 (pa_cons (pv 0) pa_nil)))
    (pss_cons (ps_for PassesOwn.never rfl (pi_range1 (by rfl) W.f_range (pa_cons pe_int pa_nil)) (pg_name (i := 2) nd rfl (Or.inl rfl)) (pss_cons (ps_set (i := 3) nd rfl (Or.inr rfl) (pe_cal O__law_text (hr.mono (by omega)) W.g__law_text pass0 (pa_cons (pv 1) pa_nil)))
      (pss_cons (ps_for PassesOwn.never rfl (pi_range1 (by rfl) W.f_range (pa_cons (pe_op op_mul (pe_ix ix_list (pe_lst (pa_cons pe_int (pa_cons pe_int (pa_cons pe_int (pa_cons pe_int pa_nil))))) (pe_cal O__law_take (hr.mono (by omega)) W.g__law_take pass0 (pa_cons (pv 1) (pa_cons pe_int pa_nil))) (fun _ _ => rfl)) (pe_callTy call_int1 (by rfl) W.f_int (by decide +kernel) (pa_cons (pe_callB call_isi (by rfl) W.f_isinstance (by decide +kernel) (pa_cons (pv 3) (pa_cons (pe_bltn (v := .ty "str") (by rfl) W.f_str (by decide +kernel) rfl) pa_nil))) pa_nil))) pa_nil)) (pg_name (i := 4) nd rfl (Or.inl rfl)) (pss_one (ps_set (i := 3) nd rfl (Or.inr rfl) (pe_cal O__law_spoilt (hr.mono (by omega)) W.g__law_spoilt pass0 (pa_cons (pv 1) (pa_cons (pv 3) pa_nil))))))
      (pss_cons (ps_set (i := 5) nd rfl (Or.inl rfl) (pe_lst (pa_cons (pe_tup (pa_cons pe_str (pa_cons pe_non pa_nil))) (pa_cons (pe_tup (pa_cons pe_str (pa_cons pe_non pa_nil))) pa_nil))))
      (pss_cons (ps_if (pt_val (pe_callB call_isi (by rfl) W.f_isinstance (by decide +kernel) (pa_cons (pv 3) (pa_cons (pe_bltn (v := .ty "str") (by rfl) W.f_str (by decide +kernel) rfl) pa_nil)))) (pss_one (ps_set (i := 5) nd rfl (Or.inl rfl) (pe_lst (pa_cons (pe_cal O__law_whole (hr.mono (by omega)) W.g__law_whole pass0 (pa_cons (pv 3) (pa_cons (pe_cal O__law_condition_at (hr.mono (by omega)) W.g__law_condition_at pass0 (pa_cons (pv 3) (pa_cons pe_int pa_nil))) pa_nil))) (pa_cons (pe_cal O__law_whole (hr.mono (by omega)) W.g__law_whole pass0 (pa_cons (pv 3) (pa_cons (pe_cal O__law_part_at (hr.mono (by omega)) W.g__law_part_at pass0 (pa_cons (pv 3) (pa_cons pe_int pa_nil))) pa_nil))) pa_nil))))) pss_nil)
      (pss_cons (ps_for PassesOwn.never rfl (pi_range1 (by rfl) W.f_range (pa_cons pe_int pa_nil)) (pg_name (i := 4) nd rfl (Or.inl rfl)) (pss_cons (ps_set (i := 6) nd rfl (Or.inl rfl) (pe_lst (pa_cons (LamX.pe_lamcall (T := TK K) (TT := TTr K) (x := "_law_read") (a := "_law_act") (g := ga K "_law_read") (c := (He.cT K ("law", none)).1) (P := (He.cT K ("law", none)).2) (k := 160) (t := fun E' => tCall (spReadC K 140) [] E' (tCons (tVar 3) tNil)) rfl W.g__law_read DR.kp lkR hcgR bR sc_law_read rfl (.inl rfl) (read_gives W) (B.tab _ (by simp [tf])) rfl (by simp [TK]; right; right; rfl) (tab_uniq W.nodT (by simp [TK]; right; right; rfl)) (hr.mono (by omega)) (show LamX.LamS (defScope s_law) _ from LamX.lamS_by (by decide +kernel)) rfl (fun _ _ _ _ _ => rfl) (fun A' outer' s' H' E' f c' hr2 => pe_cal O_read_condition (hr2.mono (by omega)) W.g_read_condition (passes_call (takes_of rfl rfl rfl rfl) (fun _ _ _ _ h => h)) (pa_cons (pv 3) pa_nil))) pa_nil)))
        (pss_cons (ps_expr (pe_bm PySem.F.plainAttrs_list PySem.F.slot_list_append PySem.F.type_list_append mt_append (pv 6) (pa_cons (LamX.pe_lamcall (T := TK K) (TT := TTr K) (x := "_law_read") (a := "_law_act") (g := ga K "_law_read") (c := (He.cT K ("law", none)).1) (P := (He.cT K ("law", none)).2) (k := 160) (t := fun E' => tCall (spReadP K 140) [] E' (tCons (tVar 3) tNil)) rfl W.g__law_read DR.kp lkR hcgR bR sc_law_read rfl (.inl rfl) (read_gives W) (B.tab _ (by simp [tf])) rfl (by simp [TK]; right; right; rfl) (tab_uniq W.nodT (by simp [TK]; right; right; rfl)) (hr.mono (by omega)) (show LamX.LamS (defScope s_law) _ from LamX.lamS_by (by decide +kernel)) rfl (fun _ _ _ _ _ => rfl) (fun A' outer' s' H' E' f c' hr2 => pe_cal O_read_part (hr2.mono (by omega)) W.g_read_part (passes_call (takes_of rfl rfl rfl rfl) (fun _ _ _ _ h => h)) (pa_cons (pv 3) pa_nil))) pa_nil)))
        (pss_one (ps_if (pt_not (pt_val (XP.pe_calA (CX := CX0) (E := L2.E0) (k := 5) DA bA sc_law_alike lenA (hr.mono (by omega)) W.g__law_alike pass0 (pa_cons (pv 6) (pa_cons (pv 5) pa_nil)) hbA))) (pss_one (ps_ret pe_bl)) pss_nil)))))
      (pss_cons (ps_if (PW.pt (pw_and (pt_cmpR op_eq (pe_ix ix_tup (pe_ix ix_list (pv 5) pe_int (fun _ _ => rfl)) pe_int (fun _ _ => rfl)) pe_str (nomark _)) (pw_and1 (pt_cmpR op_ne (pe_cal O_show_condition (hr.mono (by omega)) W.g_show_condition pass0 (pa_cons (pe_ix ix_tup (pe_ix ix_list (pv 5) pe_int (fun _ _ => rfl)) pe_int (fun _ _ => rfl)) pa_nil)) (pv 3) (nomark _))))) (pss_one (ps_ret pe_bl)) pss_nil)
      (pss_one (ps_if (PW.pt (pw_and (pt_cmpR op_eq (pe_ix ix_tup (pe_ix ix_list (pv 5) pe_int (fun _ _ => rfl)) pe_int (fun _ _ => rfl)) pe_str (nomark _)) (pw_and1 (pt_cmpR op_ne (pe_cal O_show_part (hr.mono (by omega)) W.g_show_part pass0 (pa_cons (pe_ix ix_tup (pe_ix ix_list (pv 5) pe_int (fun _ _ => rfl)) pe_int (fun _ _ => rfl)) pa_nil)) (pv 3) (nomark _))))) (pss_one (ps_ret pe_bl)) pss_nil)))))))))
    (pss_one (ps_ret pe_bl)))), ?_⟩
  obtain ⟨a, ns, rfl, ha, hn, hts, hq⟩ := h
  have hT0 : LamX.Tabs (TK K) H := fun p hp => LamX.TabS.nil (hts _ (List.mem_map.mpr ⟨p, hp, rfl⟩))
  refine ⟨_, rfl, a, ns, rfl, ha, hn, fun b c H1 e1 hb hB1 => ?_⟩
  have hT1 := hT0.ext e1
  refine ⟨12, rfl, by decide, by decide, for_range (lo := 0) (n := 12) (fun _ σ H2 => ∃ x2 x3 x4 x5 x6, σ = [some (.ref a), some (.ref b), x2, x3, x4, x5, x6] ∧ Bag H2 b c ∧ LamX.Tabs (TK K) H2) ⟨none, none, none, none, none, rfl, hB1, hT1⟩ ?_ ?_⟩
  rotate_left
  · rintro σ H2 _
    exact hq _
  rintro i σ H2 _ ⟨x2, x3, x4, x5, x6, rfl, hB2, hT2⟩
  refine ⟨_, rfl, b, c, rfl, hB2, fun v H3 e3 hB3 hv3 => ?_⟩
  have hT3 := tabL hT2 e3 hB2
  dsimp only [gName]
  refine seq_cont (fun σ' H' => ∃ x4 v rc rp, σ' = [some (.ref a), some (.ref b), some (.int (0 + (i : Int))), some v, x4, x5, x6] ∧ Bag H' b c ∧ LamX.Tabs (TK K) H' ∧ TV H' b v rc rp) (fun N hN => ?_) (fun σ' H' hR => ?_)
  · -- the spoiling
    refine ⟨by show 4 ≤ sizeLine; decide, fun l hl => ⟨_, rfl, b, c, 4, rfl, by decide, by decide, hB3.keep (same_new hl), fun n H4 hn4 e4 hB4 => ?_⟩⟩
    have nl := (hB3.ne hl).1
    have e34 : SameB b H3 H4 := (SameB.of (same_new hl)).trans e4
    have key : ∃ k : Nat, atI [V.int 0, V.int 1, V.int 1, V.int 2] ((n : Nat) : Int) = some (V.int (k : Nat)) ∧ k ≤ 2 := by
      have h4 : n = 0 ∨ n = 1 ∨ n = 2 ∨ n = 3 := by omega
      rcases h4 with rfl | rfl | rfl | rfl
      · exact ⟨0, at0, by decide⟩
      · exact ⟨1, at1, by decide⟩
      · exact ⟨1, at2, by decide⟩
      · exact ⟨2, at3, by decide⟩
    obtain ⟨k, hk, hk2⟩ := key
    have hT4 := tabL hT3 e34 hB3
    refine ⟨l, _, _, _, rfl, rfl, sql (e4 _ _ upd_same nl), hk, _, rfl, ?_⟩
    have tx4 : Tx H4 b v := by
      rcases hv3 with h | h
      · exact .inl h
      · exact .inr (h.keepB hB3 e34)
    dsimp only [tCons, tC, tNil]
    refine is_str (b := b) (fun s hs => ?_) (fun hno => ?_) (tx4.imp (fun ⟨s, h, _⟩ => ⟨s, h⟩) id)
    · obtain ⟨s', hs', hl1, ho1⟩ : ∃ s', v = .str (S s') ∧ s'.length ≤ 1000 ∧ M.om s' ≤ 130 := by
        rcases tx4 with h | h
        · exact h
        · subst hs
          rcases h with h | ⟨_, h⟩ | ⟨_, _, h, _⟩ | ⟨_, _, h, _⟩ <;> cases h
      subst hs'
      refine .inr ⟨true, rfl, _, _, rfl, rfl, .inl ⟨by omega, by omega⟩, _, rfl, by simp <;> omega, by simp <;> omega, ?_⟩
      have ek : ((k : Int) * (if true = true then 1 else 0)).toNat = k := by simp
      rw [ek]
      refine for_range (lo := 0) (n := k) (D := { nx := N, rt := Q }) (g := gName 4) (fun j σ H5 => ∃ x4 s, σ = [some (.ref a), some (.ref b), some (.int (0 + (i : Int))), some (.str (S s)), x4, x5, x6] ∧ Bag H5 b c ∧ LamX.Tabs (TK K) H5 ∧ s.length ≤ 1000 + 20 * j ∧ M.om s ≤ 130 + 3 * j) ⟨_, s', rfl, hB4, hT4, hl1, ho1⟩ ?_ ?_
      · rintro j σ H5 hj ⟨x4, s, rfl, hB5, hT5, h1, h2⟩
        refine ⟨_, rfl, _, rfl, b, c, s, rfl, hB5, by omega, fun s2 H6 e6 hB6 hl6 ho6 => ?_⟩
        exact ⟨_, s2, rfl, hB6, tabL hT5 e6 hB5, by omega, by omega⟩
      · rintro σ H5 ⟨x4, s, rfl, hB5, hT5, h1, h2⟩
        exact hN _ _ ⟨x4, _, _, _, rfl, hB5, hT5, .inl ⟨s, rfl, by omega, by omega, rfl, rfl⟩⟩
    · refine .inr ⟨false, rfl, _, _, rfl, rfl, .inl ⟨by omega, by omega⟩, _, rfl, by simp, by simp, ?_⟩
      have ek : ((k : Int) * (if false = true then 1 else 0)).toNat = 0 := by simp
      rw [ek]
      refine for_range (lo := 0) (n := 0) (D := { nx := N, rt := Q }) (g := gName 4) (fun j σ H5 => σ = [some (.ref a), some (.ref b), some (.int (0 + (i : Int))), some v, x4, x5, x6] ∧ H5 = H4) ⟨rfl, rfl⟩ (fun j σ H5 hj _ => by omega) ?_
      rintro σ H5 ⟨rfl, rfl⟩
      exact hN _ _ ⟨x4, v, none, none, rfl, hB4, hT4, .inr ⟨hno, rfl, rfl⟩⟩
  obtain ⟨x4', v', rc, rp, rfl, hB5, hT5, hv5⟩ := hR
  clear hv3 hT3 hB3 e3
  -- what is due
  refine ⟨by show 2 ≤ sizeLine; decide, fun w1 hw1 => ⟨by show 2 ≤ sizeLine; decide, fun w2 hw2 => ⟨by show 2 ≤ sizeLine; decide, fun w3 hw3 => ?_⟩⟩⟩
  refine (fun (Kx : ∀ H6, Same H' H6 → DueC H6 w1 none → DueP H6 w2 none → H6 w3 = some (.lst [.ref w1, .ref w2]) → gName 5 (.ref w3) _ H6 _) => Kx _ (((same_new hw1).trans (same_new hw2)).trans (same_new hw3)) (dueC_none.keep (.of ((same_new hw2).trans (same_new hw3)))) (dueP_none.keep (.of (same_new hw3))) upd_same) ?_
  intro H6 s6 hdc hdp hw36
  dsimp only [gName]
  refine seq_cont (fun σ' H8 => ∃ D u1 u2, σ' = [some (.ref a), some (.ref b), some (.int (0 + (i : Int))), some v', x4', some (.ref D), x6] ∧ Same H' H8 ∧ H8 D = some (.lst [.ref u1, .ref u2]) ∧ DueC H8 u1 rc ∧ DueP H8 u2 rp) (fun N hN => ?_) (fun σ' H8 hR => ?_)
  · refine ⟨_, rfl, ?_⟩
    dsimp only [tCons, tC, tNil]
    refine is_str (b := b) (fun s hs => ⟨true, rfl, iteT ?_⟩) (fun hno => ⟨false, rfl, iteF ?_⟩) (hv5.ext (.of s6)).is
    · subst hs
      obtain ⟨h1, h2, rfl, rfl⟩ := hv5.s
      refine ⟨_, rfl, _, rfl, ?_⟩
      dsimp only [tCons, tC, tNil, List.append_nil]
      refine whole_c h1 h2 fun u1 H7 e7 hd1 => ?_
      refine ⟨_, rfl, _, rfl, ?_⟩
      dsimp only [tCons, tC, tNil, List.append_nil]
      refine whole_p h1 h2 fun u2 H8 e8 hd2 => ?_
      refine ⟨by show 2 ≤ sizeLine; decide, fun D hD => ?_⟩
      refine hN _ _ ⟨D, u1, u2, rfl, HL.Same.new (s6.trans (e7.trans e8)) hD, upd_same, hd1.keep (.of (HL.Same.new e8 hD)), hd2.keep (.of (same_new hD))⟩
    · obtain ⟨rfl, rfl⟩ := hv5.n hno
      exact hN _ _ ⟨w3, w1, w2, rfl, s6, hw36, hdc, hdp⟩
  obtain ⟨D, u1, u2, rfl, s8, hD, hdc, hdp⟩ := hR
  clear hw36 s6 hw3 hw2 hw1
  have hB8 := hB5.keep s8
  have hT8 := hT5.ext s8
  have hv8 := hv5.ext (.of s8)
  have dC := due_ok (fun c hc => (hv8.c c hc).1) (fun c hc => (hv8.p c hc).1)
  refine seq_cont (fun σ' H9 => ∃ x4 x6, σ' = [some (.ref a), some (.ref b), some (.int (0 + (i : Int))), some v', x4, some (.ref D), x6] ∧ LamX.ExtN H8 H9 ∧ LamX.Tabs (TK K) H9) (fun N hN => ?_) (fun σ' H9 hR => ?_)
  · refine ⟨_, rfl, by decide, by decide, ?_⟩
    refine for_range (lo := 0) (n := 2) (g := gName 4) (fun j σ H9 => ∃ x4 x6, σ = [some (.ref a), some (.ref b), some (.int (0 + (i : Int))), some v', x4, some (.ref D), x6] ∧ LamX.ExtN H8 H9 ∧ LamX.Tabs (TK K) H9) ⟨_, _, rfl, .refl _, hT8⟩ ?_ (fun σ H9 h => hN _ _ h)
    rintro j σ H9 hj ⟨x4, x6, rfl, e9, hT9⟩
    dsimp only [gName]
    refine lam_c hT9 rfl (hv8.ext e9) fun p1 H10 e10 hT10 d1 => ⟨by show 1 ≤ sizeLine; decide, fun l hl => ?_⟩
    have e1011 := LamX.ExtN.of (same_new (o := .lst [V.ref p1]) hl)
    have e11 := e10.trans e1011
    have hT11 := hT10.ext (same_new (o := .lst [V.ref p1]) hl)
    have hl11 : upd H10 l (.lst [V.ref p1]) l = some (.lst [V.ref p1]) := upd_same
    have d11 := d1.keep (.of (same_new (o := .lst [V.ref p1]) hl))
    generalize upd H10 l (.lst [V.ref p1]) = H11 at e1011 e11 hT11 hl11 d11 ⊢
    refine ⟨_, rfl, .inl ⟨rfl, _, sql hl11⟩, ?_⟩
    refine lam_p hT11 rfl (hv8.ext (e9.trans e11)) fun p2 H12 e12 hT12 d2 => ?_
    have hl12 : H12 l = some (.lst [V.ref p1]) := e12 _ _ hl11 nofun
    refine ⟨l, [V.ref p1], _, rfl, rfl, hl12, by show 1 < sizeLine; decide, ?_⟩
    have e13 : LamX.ExtN H9 (upd H12 l (.lst ([V.ref p1] ++ [V.ref p2]))) := extMut e10 hl (e1011.trans e12)
    have hT13 := tabU (o := .lst ([V.ref p1] ++ [V.ref p2])) hT12 hl12
    have up : TupK H12 (upd H12 l (.lst ([V.ref p1] ++ [V.ref p2]))) := (TupK.refl H12).mut hl12 (fun xs q => nomatch q)
    have hl13 : upd H12 l (.lst ([V.ref p1] ++ [V.ref p2])) l = some (.lst ([V.ref p1] ++ [V.ref p2])) := upd_same
    have d1' := d11.keep ((extT e12).trans up)
    have d2' := d2.keep up
    generalize upd H12 l (.lst ([V.ref p1] ++ [V.ref p2])) = H13 at e13 hT13 up hl13 d1' d2' ⊢
    replace hl13 : H13 l = some (.lst [V.ref p1, V.ref p2]) := hl13
    have hD13 : H13 D = some (.lst [V.ref u1, V.ref u2]) := (e9.trans e13) _ _ hD nofun
    have tk13 := extT (e9.trans e13)
    refine ⟨_, rfl, _, rfl, l, D, .list [dueC rc, dueP rp], rfl, .lst (sql hl13) (.cons d1'.dp (.cons d2'.dp .nil)), .lst (sql hD13) (.cons (hdc.keep tk13).dp (.cons (hdp.keep tk13).dp .nil)), dC.1, dC.2.1, dC.2.2.1, dC.2.2.2, true, rfl, iteF ⟨_, _, rfl, e9.trans e13, hT13⟩⟩
  obtain ⟨x4, x6, rfl, e9, hT9⟩ := hR
  have hD9 : H9 D = some (.lst [V.ref u1, V.ref u2]) := e9 _ _ hD nofun
  have hdc9 := hdc.keep (extT e9)
  have hdp9 := hdp.keep (extT e9)
  have hB9 := hB8.ext e9
  have ntold : decide (V.str (S (M.q "none")) = V.str (Str.ofString "told")) = false := by
    rw [sq "told", dec_S]
    decide
  have ytold : decide (V.str (S (M.q "told")) = V.str (Str.ofString "told")) = true := by
    rw [sq "told", dec_S]
    decide
  refine seq_cont (fun σ' H10 => σ' = [some (.ref a), some (.ref b), some (.int (0 + (i : Int))), some v', x4, some (.ref D), x6] ∧ Same H9 H10) (fun N hN => ?_) (fun σ' H10 hR => ?_)
  · cases rc with
    | none =>
      exact ⟨_, rfl, D, _, _, _, rfl, rfl, sql hD9, at0, u1, _, _, _, rfl, rfl, sqt hdc9, at0, rfl, _, rfl, iteE false ntold (iteF (iteF (hN _ _ ⟨rfl, .refl _⟩)))⟩
    | some c1 =>
      obtain ⟨⟨h1, h2, h3⟩, rfl⟩ := hv8.c c1 rfl
      obtain ⟨v, hu, hAt⟩ := hdc9
      refine ⟨_, rfl, D, _, _, _, rfl, rfl, sql hD9, at0, u1, _, _, _, rfl, rfl, sqt hu, at0, rfl, _, rfl, iteE true ytold (iteT ?_)⟩
      refine ⟨_, rfl, D, _, _, _, rfl, rfl, sql hD9, at0, u1, _, _, _, rfl, rfl, sqt hu, at1, v, c1, rfl, hAt, by omega, by omega, fun H10 e10 => ⟨_, rfl, rfl, _, rfl, iteE false (by rw [decide_eq_true rfl] <;> rfl) (iteF (hN _ _ ⟨rfl, e10⟩))⟩⟩
  obtain ⟨rfl, e10⟩ := hR
  have hD10 := e10 _ _ hD9
  have hdp10 := hdp9.keep (.of e10)
  have hB10 := hB9.keep e10
  have hT10 := hT9.ext e10
  cases rp with
  | none =>
    exact ⟨_, rfl, D, _, _, _, rfl, rfl, sql hD10, at1, u2, _, _, _, rfl, rfl, sqt hdp10, at0, rfl, _, rfl, iteE false ntold (iteF (iteF ⟨_, _, _, _, _, rfl, hB10, hT10⟩))⟩
  | some c1 =>
    obtain ⟨⟨h1, h2, h3⟩, rfl⟩ := hv8.p c1 rfl
    obtain ⟨v, hu, hAt⟩ := hdp10
    refine ⟨_, rfl, D, _, _, _, rfl, rfl, sql hD10, at1, u2, _, _, _, rfl, rfl, sqt hu, at0, rfl, _, rfl, iteE true ytold (iteT ?_)⟩
    refine ⟨_, rfl, D, _, _, _, rfl, rfl, sql hD10, at1, u2, _, _, _, rfl, rfl, sqt hu, at1, v, c1, rfl, hAt, h1, by omega, by omega, fun H11 e11 => ⟨_, rfl, rfl, _, rfl, iteE false (by rw [decide_eq_true rfl] <;> rfl) (iteF ⟨_, _, _, _, _, rfl, hB10.keep e11, hT10.ext e11⟩)⟩⟩
end
end K91
end

section
set_option Elab.async false
set_option linter.all false
set_option maxRecDepth 100000
set_option maxHeartbeats 0
namespace K91
open PySem PySem.Spec PyProof.Rows L2 He HL
abbrev Says (w : World) (h : Heap) (K : PySem.W.Frag) : Prop := HY.SaysY fa fn tf xs ks "/claim/cut.py" w h K
theorem room_c : Room 171 callerA := ⟨rfl, by decide +kernel, by decide +kernel⟩
theorem law_runs {w : World} {K : PySem.W.Frag} {h : Heap} {mg : Str → Option Value} {fa' : Addr} (X : K.In h) (G : h.Ns mainGlobals mg) (hfa : mg "law" = some (.ref fa')) (c : Says w h K) :
    EG.LawG PySem.Challenge.rw_bynamealone_k91_parts_spoilt w K (L2.CX PySem.Challenge.pw_bynamealone_k91_parts_spoilt w) 63 "_law_script" mg fa' h := by
  have W : Wl K mg := ⟨⟨w, h, X, G, c⟩⟩
  obtain ⟨fd, D⟩ := W.D_law
  have hfa2 : fa' = fAd K d_law.at_ := by
    have := W.g_law
    rw [hfa] at this
    exact Value.ref.inj (Option.some.inj this)
  subst hfa2
  obtain ⟨oc, od, dV, kV, doc, pm, an, cdv, ct, osl, rfl, lk, hcd, hDf, hKw⟩ := id D.ex
  obtain ⟨cc, rfl⟩ := He.codeIn_ref hcd
  have hc : He.codeOf K d_law.at_ = cc := He.codeOf_eq lk rfl
  have hdv : dV = .none := by
    rcases hDf with ⟨_, e⟩ | ⟨e, _⟩
    · exact e
    · exact absurd rfl e
  subst hdv
  refine ⟨_, tf.map (He.cT K), spLaw K ((TK K).map (·.1)), fun p hp => ?_, fun p hp => ?_, fun p hp => ?_, fun s u => .of_eq (bi_law kV doc pm an (.ref cc) ct [u] rfl), fun H a ns hn _ hts hs => ?_, fun base KB GB hT => ⟨fun outer s H args us vs Q E e0 hb hv hsp => ?_⟩⟩
  · obtain ⟨q, hq, rfl⟩ := List.mem_map.mp hp
    exact c.empty q hq
  · obtain ⟨q, hq, rfl⟩ := List.mem_map.mp hp
    exact c.out q hq
  · obtain ⟨q, hq, rfl⟩ := List.mem_map.mp hp
    exact PySem.W.codeHd_of_K X (c.hd q hq)
  · refine ⟨a, ns, rfl, hs, hn, fun t ht => ?_, fun H' => rfl⟩
    simp only [TK, List.map_cons, List.map_nil, List.mem_cons, List.not_mem_nil, or_false] at ht
    rcases ht with rfl | rfl | rfl
    · exact hts _ (List.mem_map.mpr ⟨("Reader", some "condition_here"), by simp [tf], rfl⟩)
    · exact hts _ (List.mem_map.mpr ⟨("Reader", some "part_here"), by simp [tf], rfl⟩)
    · exact hts _ (List.mem_map.mpr ⟨("law", none), by simp [tf], rfl⟩)
  · have B : Tb K mg base := ⟨fun p hp => hT _ (List.mem_map.mpr ⟨p, hp, rfl⟩)⟩
    subst hc
    refine LamX.run_ofS (k := 170) lk hcd sc_law room_c e0 hb hv (by obtain ⟨a, ns, rfl, _⟩ := hsp; rfl) fun hr => ?_
    obtain ⟨t, h1, h2⟩ := law_body (w := w) (outer := outer) (s := s) (fa' := fAd K d_law.at_) W B (E := E) (hr.mono (Nat.le_refl _)) hsp
    exact ⟨t, h1.nox, h2⟩
end K91
open PySem PySem.W PySem.Calls PyProof.Rows
theorem PySem.Challenge.cw_bynamealone_k91_parts_spoilt_holds : PySem.Challenge.rw_bynamealone_k91_parts_spoilt.Holds := by
  w_on; o_law
  refine HandSHeadRun.head_any (r := OpenLaw.row PySem.Challenge.rw_bynamealone_k91_parts_spoilt) (q := view (OpenLaw.row PySem.Challenge.rw_bynamealone_k91_parts_spoilt).prog [50]) (H := K91.hk) (ob := K91.ob) (M := 4000) (loose := K91.loose) (d := HandSHeadRun.topDef (OpenLaw.row PySem.Challenge.rw_bynamealone_k91_parts_spoilt).prog 50) (kwd := []) K91.ob_eq
    (by kernel_rfl) (fun s => by kernel_rfl) K91.run (by kernel_rfl) (by kernel_rfl) (by kernel_rfl) (by rfl) (by first | assumption | decide +kernel) (by decide +kernel) ⟨rfl, rfl, rfl, rfl, rfl, by decide +kernel⟩ ?hw ?hc
  case hw => w_witness2
  case hc =>
    refine EG.walkG (l := PySem.Challenge.rw_bynamealone_k91_parts_spoilt) (n := 63) (x := "_law_script") (CX := fun w => L2.CX PySem.Challenge.pw_bynamealone_k91_parts_spoilt w) rfl (by decide) (by kernel_rfl) ?F (fun w H s e s' h => ?E)
    case E =>
      obtain ⟨_, _, _, _, _, _, _, _, _, _, _, _, z⟩ := h
      exact z
    case F =>
      intro w mg fa h Y G hmg0
      obtain ⟨K, KX, c⟩ := Y
      have hmg : mg ("law" : PySem.Str) = some (.ref fa) := by
        have e : (HandSHeadRun.topDef (OpenLaw.row PySem.Challenge.rw_bynamealone_k91_parts_spoilt).prog 50).name = ("law" : PySem.Str) := by kernel_rfl
        rw [← e]
        exact hmg0
      exact ⟨K, KX, K91.law_runs KX G hmg c⟩
end
