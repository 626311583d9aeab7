import PyProof.Rows.All
import HandS.ForMost
import HandS.ForExc
import HandS.ExcInit
import KE.KExcSuper
import HandS.ExcIs
import HandS.Defaults
import HandS.HeadHook4
import HandS.HeadWalk
import HandS.EndTab
import Open.Row
import PySem.Challenge.RW_bynamealone_k92_small_texts_spoilt
import Wide.All
import OpenK.AllK
import Wide.FinOn
import KE.KStateDown
import HandS.Head0
import HandS.Head1
import HandS.Head2
import HandS.Lambda
import HandS.IsInst
import HandS.Codes
import PyProof.ReprRoads
import KE.IntTextText
import HandS.Strs
import HandS.Deep
import HandS.RaiseMore
import PyProof.ReprLen
import PyProof.StrLawsRepr
import HandS.SetFor
import HandS.More
import KE.GoesRaise
import KE.KAsSuite
import HandS.Star
import HandS.CallLocal
import HandS.Style
import KE.KRevSl
import KE.SortData
import PyProof.Rows.SortStr
import HandS.Zip
import HandS.TupAny
section
set_option Elab.async false
set_option linter.all false
set_option maxRecDepth 100000
set_option maxHeartbeats 4000000
/-! raise X(), X an own class over ValueError whose __init__ is «super().__init__()» alone. -/
namespace XR
open PySem PySem.Spec PyProof.Rows L2
/-- what the written part says of such a class; file: the text's own file name -/
structure NoArg (K : PySem.W.Frag) (mg : Str → Option Value) (file : Str) (C fI : Addr) (name qual : Str) (params : Arguments) (body : List Stmt) (scope : Scope) : Prop where
  ox : OexC K C
  iC : PySem.W.findIn K (.ref C) "__init__" = some (some (.ref fI))
  tI : PySem.W.typeIn K (.ref fI) = some (.type "function")
  lk : ∃ (oc kV doc pm ct : Value) (od an : Option Addr) (osl : Array (Option Value)) (cc cda : Addr) (ccl cl : Value) (cdd cld : Option Addr) (vs : Array Value) (tf : Tok) (ccs csl : Array (Option Value)),
    K.lookup fI = some ⟨oc, od, .func (PySem.W.fnX name qual params body scope [("__class__", cc)] .none kV doc pm an (.ref cda) ct), osl⟩ ∧ PySem.W.codeIn K (.ref cda) qual = true ∧
    K.lookup cda = some ⟨ccl, cdd, .fields vs, ccs⟩ ∧ vs[2]? = some (.str file tf) ∧ K.lookup cc = some ⟨cl, cld, .cell (some (.ref C)), csl⟩
  sup : PySem.W.ks_superIn K C C "__init__" = some (some (.builtin "ValueError.__init__"))
  sub : PySem.W.subIn K (.ref C) (.type "ValueError") = some true
  mro : PySem.W.mroIn K C (.ref C) = some true
  any : PySem.W.nsIn K cStatics "thirdparty.any" = some none
  gsup : mg "super" = none
/-- the def's own scope: self, super, __class__ -/
structure NoScope (scope : Scope) : Prop where
  kind : scope.kind = .function
  co : scope.isCoroutine = false
  gen : scope.isGenerator = false
  self : scope.names.lookup ("self" : Str) = some .local
  sup : scope.names.lookup ("super" : Str) = some .globalImplicit
  cls : scope.names.lookup ("__class__" : Str) = some .free
  cell : ∀ x ∈ scope.names, x.2 ≠ .cell
abbrev supCall (p0 p1 p2 p3 : Pos) : Expr := .Call (.Attribute (.Call (.Name "super" p0) [] [] p1) "__init__" p2) [] [] p3
abbrev supBody (p0 p1 p2 p3 p4 : Pos) : List Stmt := [.Expr (supCall p0 p1 p2 p3) p4]
/-- what hangs on the written places: each by rfl -/
structure NoPlaces (qual : Str) (scope : Scope) (p0 p1 p2 p3 p4 : Pos) (pl : Env → Sem Bool) : Prop where
  hi : ∀ (L f cda cc : Addr), interactive (PySem.W.envX qual scope L f (.ref cda) [("__class__", cc)]) = false
  hs : ∀ (L f cda cc : Addr), swapsWith (supCall p0 p1 p2 p3) none p4.line (PySem.W.envX qual scope L f (.ref cda) [("__class__", cc)]) = pure false
  he : ∀ (L f cda cc : Addr), eval (supCall p0 p1 p2 p3) (PySem.W.envX qual scope L f (.ref cda) [("__class__", cc)]) = (do
      let ov ← attributeBase (.Call (.Name "super" p0) [] [] p1) "__init__" (PySem.W.envX qual scope L f (.ref cda) [("__class__", cc)]) (eval (.Call (.Name "super" p0) [] [] p1) (PySem.W.envX qual scope L f (.ref cda) [("__class__", cc)]))
      standAt p2.atName
      let (f', first) ← holding [ov] (getMethod ov "__init__" (pl (PySem.W.envX qual scope L f (.ref cda) [("__class__", cc)])))
      callWith p3 f' first (backTo p3 (starEach [] (PySem.W.envX qual scope L f (.ref cda) [("__class__", cc)]))) [])
section
variable {pl : Env → Sem Bool} {prog : Program} {w : World} {A : Around} {K : PySem.W.Frag} {mg mb : Str → Option Value} {file name qual : Str} {params : Arguments} {scope : Scope} {C fI : Addr} {p0 p1 p2 p3 p4 : Pos}
/-- the body of __init__, walked -/
theorem init_runs {h : Heap} {g : Array GenState} {d : Drawn} {t : Nat} {os : OsState} {e t0 : Addr} {R : Result → Shared → Prop} (T : NoArg K mg file C fI name qual params (supBody p0 p1 p2 p3 p4) scope) (S : NoScope scope) (PL : NoPlaces qual scope p0 p1 p2 p3 p4 pl) (X : K.In h)
    (hb : h.Ns builtinsNs mb) (hbb : ∀ x : Str, x ≠ "__name__" → mb x = bootBuiltins x) (hg : h.Ns mainGlobals mg) (hl : h.NoLimit) (hd : A.depth < recursionLimit)
    (hp : (params.posonlyargs ++ params.args).head? = some ⟨"self", none, p4⟩ ∨ ∃ ar, (params.posonlyargs ++ params.args).head? = some ar ∧ ar.arg = "self")
    (hbind : ∀ (kV doc pm cdv ct : Value) (an : Option Addr) (cl : List (Str × Addr)) (u : Value), bindArgs (PySem.W.fnX name qual params (supBody p0 p1 p2 p3 p4) scope cl .none kV doc pm an cdv ct) ⟨[u], []⟩ = pure [(("self" : Str), u)])
    (hfile : (prog.main.file == file) = true) (htop : (prog.main.scope.names.lookup ("super" : Str)).isSome = false)
    (he : h.get? e = some (PySem.HandSPX.excO C t0))
    (hq : ∀ h' t1 tk, (∀ b o, b ≠ e → h.get? b = some o → h'.get? b = some o) → h'.get? e = some (PySem.HandSPX.excO C t1) → R (.ok (.ret .none)) ⟨h', g, d, tk, os⟩) :
    codeAny (model prog w) A (.call (.ref fI) ⟨[.ref e], []⟩) R ⟨h, g, d, t, os⟩ := by
  obtain ⟨ar, hp, hars⟩ : ∃ ar, (params.posonlyargs ++ params.args).head? = some ar ∧ ar.arg = "self" := by
    rcases hp with hp | hp
    · exact ⟨_, hp, rfl⟩
    · exact hp
  obtain ⟨oc, kV, doc, pm, ct, od, an, osl, cc, cda, ccl, cl, cdd, cld, vs, tf, ccs, csl, lk, hcd, lcd, hvs, lcc⟩ := T.lk
  obtain ⟨nm, q, N, bs, bm, sn, sub, ab, col, dd, k0, k1, k2, k3, k5, hC, hbm⟩ := T.ox.cls
  refine PySem.ks_codeAny_call_defAt (fd := PySem.W.fnX name qual params (supBody p0 p1 p2 p3 p4) scope [("__class__", cc)] .none kV doc pm an (.ref cda) ct) (body := supBody p0 p1 p2 p3 p4) (binds := [(("self" : Str), Value.ref e)]) hd (X _ _ lk) rfl hl (PySem.W.codeRec_of X hcd) rfl (BindsTo.of_eq (hbind _ _ _ _ _ _ _ _)) S.cell (fun x hx => ?_) (fun h₁ hns kp => ?_) S.co S.gen S.kind
  · have ex : x = (("self" : Str), Value.ref e) := by simpa using hx
    subst ex
    exact S.self
  · have X1 : K.In h₁ := X.keeps kp
    have hcl : PySem.W.clsIn K C = some { name := nm, bases := bs, mro := .ref C :: bm, ns := N, qualname := q, hasDict := true, slotNames := sn, subclasses := sub, abstract := ab, collection := col, hasDel := false } := by unfold PySem.W.clsIn; rw [hC] <;> rfl
    have he1 := kp _ _ he
    refine PySem.ks_wpAt_execs_cons (PySem.ks_wpAt_Expr_any (PySem.ks_wpAt_MethodCall ?_ (PL.he _ _ _ _)) (PL.hi _ _ _ _) (PL.hs _ _ _ _))
    refine PySem.ks_wpAt_super_base (of := ⟨oc, od, .func _, osl⟩) (oc := ⟨ccl, cdd, .fields vs, ccs⟩) (ar := ar) S.sup S.cls (by decide +kernel) rfl (X1 _ _ lk) rfl hp rfl (X1 _ _ lcd) rfl hvs hfile htop ?_
    have hself : (fun y => ([(("self" : Str), Value.ref e)] : List (Str × Value)).reverse.lookup y) ("self" : Str) = some (Value.ref e) := by rfl
    refine PySem.W.ks_loadName_global S.kind S.sup (PySem.Calls.loadGlobal_builtin (hg.keeps kp) T.gsup (hb.keeps kp) ((hbb _ (by decide +kernel)).trans (by decide +kernel : bootBuiltins "super" = some (.type "super"))) ⟨rfl, ?_⟩)
    refine PySem.wpAny_loadName_free S.kind S.cls rfl ⟨_, X1 _ _ lcc, rfl⟩ ?_
    rw [hars]
    refine PySem.wpAny_loadName_local S.kind S.self hns hself ?_
    refine PySem.ks_wpAny_isType_cls (X1 _ _ hC) rfl ⟨rfl, ?_⟩
    refine PySem.ks_wpAny_call_super (X1 _ _ hC) rfl he1 rfl (fun c z => by cases z) (PySem.W.looks_mroIn X1 T.mro) (fun h2 e2 k2 => ?_)
    have X2 : K.In h2 := X1.keeps k2
    have he2 := k2 _ _ he1
    have hsup : PySem.W.alongIn K "__init__" (((Value.ref C :: bm).dropWhile (· != .ref C)).drop 1) = some (some (.builtin "ValueError.__init__")) := by
      have z := T.sup
      unfold PySem.W.ks_superIn at z
      rw [hcl] at z
      exact z
    have I2 : PySem.W.InstAt h2 e (PySem.HandSPX.excO C t0) C none := ⟨he2, rfl, rfl, trivial⟩
    have hI : PySem.W.Looks (model prog w) h2 (isInstance (.ref e) (.type "ValueError")) true := I2.type.andThen (PySem.W.looks_subIn X2 T.sub)
    refine PySem.W.kxs_getMethod PySem.W.kxs_ValueError e2 (PySem.W.looks_opaque X2 T.any) (l₀ := .ref C :: bm) (fun A Q E s k q => wpAny_bind ((PySem.W.looks_clsIn X2 hcl) A _ E s k (wpAny_pure q))) rfl X2 hsup hI (PySem.W.ks_ne X2 I2 hcl) (by decide +kernel) ?_
    have hw : (h2.push (PySem.W.kxs_mw "ValueError.__init__" e)).get? h2.objs.size = some (PySem.W.kxs_mw "ValueError.__init__" e) := Heap.get?_push_at rfl rfl
    have k3 : ∀ b o, h2.get? b = some o → (h2.push (PySem.W.kxs_mw "ValueError.__init__" e)).get? b = some o := fun b o z => Heap.get?_push_of_some _ z
    have he3 := k3 _ _ he2
    have X3 := X2.keeps k3
    show wpAny _ _ (callWith p3 (.ref h2.objs.size) [] (backTo p3 (starEach [] _)) []) _ _ _
    refine PySem.W.kxs_callWith (i := "ValueError.__init__") (x := e) rfl (PyProof.Rows.evalArgs_empty ⟨hw, ?_⟩)
    show wpAny _ _ (call (.ref h2.objs.size) []) _ _ _
    refine wpAny_call (codeAny_of_tree ?_)
    show wpAny _ _ (callAny (.ref h2.objs.size) ⟨[], []⟩) _ _ _
    simp only [callAny]
    refine wpAny_bind (wpAny_load hw ?_)
    simp only [PySem.W.kxs_mw, show (Value.type "method-wrapper" == Value.type "method" || Value.type "method-wrapper" == Value.type "builtin_function_or_method" || Value.type "method-wrapper" == Value.type "method-wrapper") = true by decide, if_true]
    refine PySem.W.KFB.if_so (by decide) ?_
    refine wpAny_bind (PySem.W.check_bound_init F.excBase_ValueError.toExcCallFacts (X3 _ _ hC) he3 rfl ?_)
    refine wpAny_bind (wpAny_pure (wpAny_pure ?_))
    refine ⟨plainId_quiet F.excBase_ValueError.init.plain _, codeAny_builtin F.excBase_ValueError.initEntry ?_⟩
    refine PySem.W.exc_init_tree (cls := .ref C) (t0 := t0) (dv := none) (c2 := .none) (c3 := .none) (b4 := .bool false) he3 (Nat.zero_le _) fun h' k4 e4 _ => ?_
    refine wpAt_of_wpAny (wpAny_execs_nil ?_)
    exact hq h' _ _ (fun b o hne z => k4 b o hne (k3 _ _ (k2 _ _ (kp _ _ z)))) e4
end
/-- raise X(): the exception as it is made -/
def tMkN (C : Addr) : L2.St → Hp → XK → Prop := fun _ H Q => Q (.ref C) none H
theorem pmk_noarg {X : Cx} {pl : Env → Sem Bool} {x file name qual : Str} {params : Arguments} {scope : Scope} {C fI : Addr} {p0 p1 p2 p3 p4 p pos : Pos} (T : NoArg X.K X.mg file C fI name qual params (supBody p0 p1 p2 p3 p4) scope) (S : NoScope scope) (PL : NoPlaces qual scope p0 p1 p2 p3 p4 pl)
    (hp : ∃ ar, (params.posonlyargs ++ params.args).head? = some ar ∧ ar.arg = "self")
    (hbind : ∀ (kV doc pm cdv ct : Value) (an : Option Addr) (cl : List (Str × Addr)) (u : Value), bindArgs (PySem.W.fnX name qual params (supBody p0 p1 p2 p3 p4) scope cl .none kV doc pm an cdv ct) ⟨[u], []⟩ = pure [(("self" : Str), u)])
    (hfile : (X.prog.main.file == file) = true) (htop : (X.prog.main.scope.names.lookup ("super" : Str)).isSome = false) (hr : Room 1 X.A) (hg : Gl X x) (hm : X.mg x = some (.ref C))
    (hdb : (x == ("__debug__" : Str)) = false := by decide) : PMk X (.Call (.Name x p) [] [] pos) (tMkN C) := by
  intro pins s σ H Q I hq
  obtain ⟨nm, q, N, bs, bm, sn, sub, ab, col, dd, k0, k1, k2, k3, k5, hC, hbm⟩ := T.ox.cls
  refine wpAny_Call_Name_kw (ld_glob I hg hm ?_ hdb)
  refine PySem.W.callWith_K0 I.kIn T.ox.kC ?_
  show wpAny _ _ (call (.ref C) []) _ _ _
  obtain ⟨hp1, g, dr, tk, os⟩ := s
  have KX := I.kIn
  have hn : H (hp1.objs.size + 1) = none := I.hok.fresh (Nat.le_succ _)
  have kk : ∀ b o, hp1.get? b = some o → ((hp1.push (PySem.W.kdv_tup [])).push (PySem.HandSPX.excO C hp1.objs.size)).get? b = some o := fun b o e => Heap.get?_push_of_some _ (Heap.get?_push_of_some _ e)
  have hget : ((hp1.push (PySem.W.kdv_tup [])).push (PySem.HandSPX.excO C hp1.objs.size)).get? (hp1.objs.size + 1) = some (PySem.HandSPX.excO C hp1.objs.size) := by heap_get
  obtain ⟨mb, hb1, hb2⟩ := I.mod.blt
  have bk := I.bk
  have hdp : (X.A.under (.builtin "type.__call__" ⟨[.ref C], []⟩)).depth < recursionLimit := by
    have := hr.dp
    rw [make_depth]
    omega
  refine wpAny_call (PySem.HandSPX.call_own F.excBase_ValueError (fun Y => PySem.HandSPX.refsVE_contains Y bm hbm) (KX _ _ hC) (PySem.W.looks_findIn KX T.iC) (fun self => PySem.W.bind_fn KX self T.tI) (Nat.zero_le _) ?_)
  refine init_runs (w := X.w) (mb := mb) T S PL (KX.keeps kk) ((hb1.keeps bk).keeps kk) hb2 ((I.mod.glob.keeps bk).keeps kk) (I.nolimit.keeps kk) hdp (.inr hp) hbind hfile htop hget fun h' t1 tk' k he' => ?_
  refine ⟨rfl, hp1.objs.size + 1, _, _, ⟨hp1, g, dr, tk, os⟩, H, .ref C, none, rfl, I, fun b o z => k b o (fun e => ?_) (kk b o z), ?_, he', ⟨rfl, rfl⟩, rfl, rfl, hn, rfl, I.bare, raises_own T.ox.exC T.ox.tyC, hq⟩
  · have y : b < hp1.objs.size := Heap.lt_size (show hp1.get? b = some o from z)
    have e2 : b = hp1.objs.size + 1 := e
    rw [e2] at y
    exact Nat.not_succ_le_self _ (Nat.lt_of_lt_of_le (Nat.lt_succ_self _) (Nat.le_of_lt y))
  · exact Heap.get?_none_of_le (Nat.le_succ _)
end XR
end

section
set_option Elab.async false
set_option linter.all false
set_option maxRecDepth 100000
set_option maxHeartbeats 4000000
/-! The head's facts, with own exceptions whose __init__ is super().__init__(). -/
namespace HY
open PySem PySem.Spec PyProof.Rows L2 He
/-- an own exception: its class's name, its __init__'s parameters, body, scope -/
structure XD where
  cls : Str
  qual : Str
  params : Arguments
  body : List Stmt
  scope : Scope
abbrev FnY : Type := Option (Str × Str × Arguments × FuncBody × Scope × Addr × Addr × Value)
def iAd (K : PySem.W.Frag) (C : Str) : Addr := ma K (ga K C) "__init__"
def fnY (K : PySem.W.Frag) (C : Str) : FnY := match K.lookup (iAd K C) with
  | some ⟨_, _, .func fd, _⟩ => some (fd.name, fd.qualname, fd.params, fd.body, fd.scope, fd.globals, fd.builtins, fd.defaults)
  | _ => none
def XD.val (d : XD) : FnY := some ("__init__", d.qual, d.params, .stmts d.body, d.scope, mainGlobals, builtinsNs, .none)
def oexB (K : PySem.W.Frag) (C : Addr) : Bool := match K.lookup C with
  | some ⟨.type "type", _, .cls cd, sl⟩ => (match cd.mro, sl.toList with
    | .ref C' :: bm, [_, _, _, _, some (.builtin n), _] => decide (C' = C) && (decide (n = "ValueError.__new__") && (!cd.hasDel && (cd.hasDict && PySem.HandSPX.refsVE bm)))
    | _, _ => false)
  | _ => false
theorem oexB_ok {K : PySem.W.Frag} {C : Addr} (h : oexB K C = true) : ∃ nm q N bs bm sn sub ab col dd k0 k1 k2 k3 k5, K.lookup C = some (excClassObj nm q C N bs bm true sn sub ab col dd k0 k1 k2 k3 k5 "ValueError.__new__") ∧ PySem.HandSPX.refsVE bm = true := by
  unfold oexB at h
  split at h
  · rename_i dd cd sl ho
    split at h
    · rename_i C' bm k0 k1 k2 k3 n k5 hm hs
      obtain ⟨h1, h⟩ := ba h
      obtain ⟨h2, h⟩ := ba h
      obtain ⟨h3, h⟩ := ba h
      obtain ⟨h4, h5⟩ := ba h
      have e1 := of_decide_eq_true h1
      have e2 := of_decide_eq_true h2
      obtain ⟨nm, bs, mro, ns, qn, hd, sn, sub, ab, col, del⟩ := cd
      dsimp only at hm h3 h4
      have e3 : del = false := by cases del <;> first | rfl | cases h3
      subst hm e1 e2 e3 h4
      obtain ⟨l⟩ := sl
      have e4 : l = [k0, k1, k2, k3, some (.builtin "ValueError.__new__"), k5] := hs
      subst e4
      exact ⟨nm, qn, ns, bs, bm, sn, sub, ab, col, dd, k0, k1, k2, k3, k5, ho, h5⟩
    · cases h
  · cases h
def cellB (K : PySem.W.Frag) (cc C : Addr) : Bool := match K.lookup cc with
  | some ⟨_, _, .cell (some (.ref D)), _⟩ => decide (D = C)
  | _ => false
def fileB (K : PySem.W.Frag) (cd : Value) (file : Str) : Bool := match cd with
  | .ref c => (match K.lookup c with
    | some ⟨_, _, .fields vs, _⟩ => (match (vs[2]? : Option Value) with
      | some (.str f _) => decide (f = file)
      | _ => false)
    | _ => false)
  | _ => false
def iniB (K : PySem.W.Frag) (C : Str) (q file : Str) : Bool := match K.lookup (iAd K C) with
  | some ⟨_, _, .func fd, _⟩ => (match fd.closure with
    | [(n, cc)] => decide (n = "__class__") && (cellB K cc (ga K C) && (PySem.W.codeIn K fd.code q && fileB K fd.code file))
    | _ => false)
  | _ => false
theorem ini_ok {K : PySem.W.Frag} {d : XD} {file : Str} (e : fnY K d.cls = d.val) (h : iniB K d.cls d.qual file = true) :
    ∃ (oc kV doc pm ct : Value) (od an : Option Addr) (osl : Array (Option Value)) (cc cda : Addr) (ccl cl : Value) (cdd cld : Option Addr) (vs : Array Value) (tf : Tok) (ccs csl : Array (Option Value)),
    K.lookup (iAd K d.cls) = some ⟨oc, od, .func (PySem.W.fnX "__init__" d.qual d.params d.body d.scope [("__class__", cc)] .none kV doc pm an (.ref cda) ct), osl⟩ ∧ PySem.W.codeIn K (.ref cda) d.qual = true ∧
    K.lookup cda = some ⟨ccl, cdd, .fields vs, ccs⟩ ∧ vs[2]? = some (.str file tf) ∧ K.lookup cc = some ⟨cl, cld, .cell (some (.ref (ga K d.cls))), csl⟩ := by
  unfold fnY at e
  unfold iniB at h
  cases q : K.lookup (iAd K d.cls) with
  | none =>
    rw [q] at h
    cases h
  | some o =>
    obtain ⟨oc, od, dt, osl⟩ := o
    rw [q] at h e
    cases dt with
    | func fd =>
      obtain ⟨n1, n2, n3, n4, n5, n6, n7, n8, n9, n10, n11, n12, n13, n14, n15⟩ := fd
      have e2 : (some (n1, n2, n3, n4, n5, n6, n15, n8) : FnY) = some (("__init__" : Str), d.qual, d.params, FuncBody.stmts d.body, d.scope, mainGlobals, builtinsNs, Value.none) := e
      simp only [Option.some.injEq, Prod.mk.injEq] at e2
      obtain ⟨h1, h2, h3, h4, h5, h6, h7, h8⟩ := e2
      subst h1 h2 h3 h4 h5 h6 h7 h8
      have h' : (match (generalizing := false) n7 with
        | [(n, cc)] => decide (n = "__class__") && (cellB K cc (ga K d.cls) && (PySem.W.codeIn K n13 d.qual && fileB K n13 file))
        | _ => false) = true := h
      split at h'
      · rename_i n cc
        obtain ⟨g1, g⟩ := ba h'
        obtain ⟨g2, g⟩ := ba g
        obtain ⟨g3, g4⟩ := ba g
        have en := of_decide_eq_true g1
        subst en
        unfold cellB at g2
        split at g2
        · rename_i cl cld D csl hcc
          have eD := of_decide_eq_true g2
          subst eD
          clear g h' h e
          obtain ⟨c, rfl⟩ := codeIn_ref g3
          unfold fileB at g4
          dsimp only at g4
          split at g4
          · rename_i ccl cdd vs ccs hc
            split at g4
            · rename_i f tf hv
              have ef := of_decide_eq_true g4
              subst ef
              exact ⟨oc, _, _, _, _, od, _, osl, cc, c, ccl, cl, cdd, cld, vs, tf, ccs, csl, rfl, g3, hc, hv, hcc⟩
            · cases g4
          · cases g4
        · cases g2
      · cases h'
    | _ => cases h
/-- the other facts of such a class -/
def excB (K : PySem.W.Frag) (C : Str) : Bool := oexB K (ga K C) && (eqO (PySem.W.findIn K (.ref (ga K C)) "__setattr__") (some (some (.builtin "object.__setattr__"))) && (decide (PySem.W.subIn K (.ref (ga K C)) (.type "BaseException") = some true) && (decide (PySem.W.typeIn K (.ref (ga K C)) = some (.type "type")) && (PySem.W.keepIn K (.ref (ga K C)) &&
  (eqO (PySem.W.findIn K (.ref (ga K C)) "__init__") (some (some (.ref (iAd K C)))) && (decide (PySem.W.typeIn K (.ref (iAd K C)) = some (.type "function")) && (decide (PySem.W.ks_superIn K (ga K C) (ga K C) "__init__" = some (some (.builtin "ValueError.__init__"))) &&
  (decide (PySem.W.subIn K (.ref (ga K C)) (.type "ValueError") = some true) && decide (PySem.W.mroIn K (ga K C) (.ref (ga K C)) = some true)))))))))
/-- isinstance of it, caught -/
def catB (K : PySem.W.Frag) (C : Str) : Bool := eqO (PySem.W.findIn K (.ref (ga K C)) "__getattribute__") (some (some (.builtin "BaseException.__getattribute__"))) && (eqO (PySem.W.findIn K (.ref (ga K C)) "__getattr__") (some none) && (PySem.W.hasDictIn K (ga K C) &&
  (eqO (PySem.W.findIn K (.ref (ga K C)) "__class__") (some (some (.builtin "object.__class__"))) && (eqO (PySem.W.specialIn K (.builtin "object.__class__") "__get__") (some (some (.builtin "getset_descriptor.__get__"))) && (decide (PySem.W.takesIn K (.builtin "object.__class__") = some true) &&
  (decide (PySem.W.mroIn K (ga K C) (.type "object") = some true) && decide (PySem.W.subIn K (.ref (ga K C)) (.type "BaseException") = some true)))))))
theorem catB_ok {K : PySem.W.Frag} {C : Str} (h : catB K C = true) : ExcC K (ga K C) := by
  obtain ⟨h1, h⟩ := ba h
  obtain ⟨h2, h⟩ := ba h
  obtain ⟨h3, h⟩ := ba h
  obtain ⟨h4, h⟩ := ba h
  obtain ⟨h5, h⟩ := ba h
  obtain ⟨h6, h⟩ := ba h
  obtain ⟨h7, h8⟩ := ba h
  exact ⟨eqO_ok h1, eqO_ok h2, of_decide_eq_true h8, h3, eqO_ok h4, eqO_ok h5, of_decide_eq_true h6, of_decide_eq_true h7⟩
def kitB (K : PySem.W.Frag) (p : Str × Str × Bool) : Bool := decide (PySem.W.kitOne K (.ref (ga K p.1)) (.ref (ga K p.2.1)) = some p.2.2)
theorem noarg_ok {K : PySem.W.Frag} {mg : Str → Option Value} {d : XD} {file : Str} (e : fnY K d.cls = d.val) (h1 : iniB K d.cls d.qual file = true) (h2 : excB K d.cls = true) (h3 : eqO (PySem.W.nsIn K cStatics "thirdparty.any") (some none) = true) (h4 : mg "super" = none) :
    XR.NoArg K mg file (ga K d.cls) (iAd K d.cls) "__init__" d.qual d.params d.body d.scope := by
  obtain ⟨c1, h2⟩ := ba h2
  obtain ⟨c2, h2⟩ := ba h2
  obtain ⟨c3, h2⟩ := ba h2
  obtain ⟨c4, h2⟩ := ba h2
  obtain ⟨c5, h2⟩ := ba h2
  obtain ⟨c6, h2⟩ := ba h2
  obtain ⟨c7, h2⟩ := ba h2
  obtain ⟨c8, h2⟩ := ba h2
  obtain ⟨c9, c10⟩ := ba h2
  exact ⟨⟨oexB_ok c1, eqO_ok c2, of_decide_eq_true c3, of_decide_eq_true c4, c5⟩, eqO_ok c6, of_decide_eq_true c7, ini_ok e h1, of_decide_eq_true c8, of_decide_eq_true c9, of_decide_eq_true c10, eqO_ok h3, h4⟩
/-! ### the Hook -/
def asY (g : Addr → Option Obj) (n : Nat) : List Addr := cStatics :: asD g n
/-- what is told of K: fa, fn, tf as He has them; xs the own exceptions, ks the answers of isinstance -/
def moreB (xs : List XD) (ks : List (Str × Str × Bool)) (file : Str) (K : PySem.W.Frag) : Bool :=
  eqO (PySem.W.nsIn K cStatics "thirdparty.any") (some none) && (xs.all (fun d => iniB K d.cls d.qual file && (excB K d.cls && catB K d.cls)) && ks.all (kitB K))
/-- the defs' tables are different ones -/
def nodB (tf : List Defn) (K : PySem.W.Frag) : Bool := decide ((tf.map fun p => (cT K p).2).Nodup)
abbrev AlY : Type := AlX × List FnY
def obsY (n : Nat) (fa : List Fa) (fn : List DefD) (tf : List Defn) (xs : List XD) (ks : List (Str × Str × Bool)) (file : Str) (g : Addr → Option Obj) : AlY :=
  ((obsT fa fn [] (frT g (asY g n)), (moreB xs ks file (frT g (asY g n)) && nodB tf (frT g (asY g n))) && tabsB g tf (frT g (asY g n))), xs.map fun d => fnY (frT g (asY g n)) d.cls)
def valY (fn : List DefD) (xs : List XD) (w : World) : AlY := (valX fn [] w, xs.map XD.val)
structure SaysY (fa : List Fa) (fn : List DefD) (tf : List Defn) (xs : List XD) (ks : List (Str × Str × Bool)) (file : Str) (w : World) (h : Heap) (K : PySem.W.Frag) : Prop where
  d : SaysD fa fn K
  more : moreB xs ks file K = true
  nod : nodB tf K = true
  hd : ∀ p ∈ tf, PySem.W.codeHdIn K (cT K p).1 (cT K p).2 = true
  out : ∀ p ∈ tf, K.lookup (cT K p).2 = none
  empty : ∀ p ∈ tf, h.get? (cT K p).2 = some { cls := .none, data := .fields #[] }
  ini : ∀ d ∈ xs, fnY K d.cls = d.val
theorem map_at {α β : Type} {f g : α → β} : ∀ {l : List α}, l.map f = l.map g → ∀ a ∈ l, f a = g a
  | [], _, a, ha => nomatch ha
  | b :: l, e, a, ha => by
    have e' : f b :: l.map f = g b :: l.map g := e
    injection e' with e1 e2
    rcases List.mem_cons.mp ha with rfl | ha
    · exact e1
    · exact map_at e2 a ha
theorem says_of {n : Nat} {fa : List Fa} {fn : List DefD} {tf : List Defn} {xs : List XD} {ks : List (Str × Str × Bool)} {file : Str} {w : World} {h : Heap} (e : obsY n fa fn tf xs ks file h.get? = valY fn xs w) :
    SaysY fa fn tf xs ks file w h (frT h.get? (asY h.get? n)) := by
  obtain ⟨e1, e2⟩ := Prod.mk.inj e
  obtain ⟨e3, e4⟩ := Prod.mk.inj e1
  obtain ⟨m1, m2⟩ := ba e4
  have tab := fun p hp => ba (List.all_eq_true.mp m2 p hp)
  have obj : ∀ p ∈ tf, ∃ o, h.get? (cT (frT h.get? (asY h.get? n)) p).2 = some o ∧ emptyTab o = true := fun p hp => by
    have z := (tab p hp).2
    split at z
    · rename_i o q
      exact ⟨o, q, z⟩
    · cases z
  exact { d := SaysT.d (w := w) (ts := []) e3
          more := (ba m1).1
          nod := (ba m1).2
          hd := fun p hp => (tab p hp).1
          out := fun p hp => let ⟨o, q, z⟩ := obj p hp; frT_none q z
          empty := fun p hp => by
            obtain ⟨o, q, z⟩ := obj p hp
            rw [q, emptyTab_eq z]
          ini := fun d hd => map_at e2 d hd }
def hookY (n : Nat) (fa : List Fa) (fn : List DefD) (tf : List Defn) (xs : List XD) (ks : List (Str × Str × Bool)) (file : Str) : PySem.W.Hook where
  α := AlY
  obs := fun s => obsY n fa fn tf xs ks file s.heap.get?
  val := fun w => valY fn xs w
  says := fun w h => ∃ K : PySem.W.Frag, K.In h ∧ SaysY fa fn tf xs ks file w h K
  of := fun _ _ e => ⟨_, frT_in, says_of e⟩
  keeps := fun _ _ _ ⟨K, hK, c⟩ k => ⟨K, hK.keeps k, { d := c.d, more := c.more, nod := c.nod, hd := c.hd, out := c.out, empty := fun p hp => k _ _ (c.empty p hp), ini := c.ini }⟩
theorem obsY_eq {n : Nat} {fa : List Fa} {fn : List DefD} {tf : List Defn} {xs : List XD} {ks : List (Str × Str × Bool)} {file : Str} {g : Addr → Option Obj} {s : Shared} (h : ∀ a, g a = s.heap.get? a) : obsY n fa fn tf xs ks file g = (hookY n fa fn tf xs ks file).obs s := by
  obtain rfl : g = s.heap.get? := funext h
  rfl
section
variable {fa : List Fa} {fn : List DefD} {tf : List Defn} {xs : List XD} {ks : List (Str × Str × Bool)} {file : Str} {w : World} {h : Heap} {K : PySem.W.Frag} {mg : Str → Option Value}
theorem SaysY.noarg (c : SaysY fa fn tf xs ks file w h K) (h4 : mg "super" = none) {d : XD} (hd : d ∈ xs) : XR.NoArg K mg file (ga K d.cls) (iAd K d.cls) "__init__" d.qual d.params d.body d.scope := by
  obtain ⟨m1, m2⟩ := ba c.more
  obtain ⟨m3, m4⟩ := ba m2
  obtain ⟨c1, c2⟩ := ba (List.all_eq_true.mp m3 d hd)
  exact noarg_ok (c.ini d hd) c1 (ba c2).1 m1 h4
theorem SaysY.cat (c : SaysY fa fn tf xs ks file w h K) {d : XD} (hd : d ∈ xs) : ExcC K (ga K d.cls) := by
  obtain ⟨m1, m2⟩ := ba c.more
  obtain ⟨m3, m4⟩ := ba m2
  exact catB_ok (ba (ba (List.all_eq_true.mp m3 d hd)).2).2
theorem SaysY.kit (c : SaysY fa fn tf xs ks file w h K) {p : Str × Str × Bool} (hp : p ∈ ks) : PySem.W.kitOne K (.ref (ga K p.1)) (.ref (ga K p.2.1)) = some p.2.2 := by
  obtain ⟨m1, m2⟩ := ba c.more
  exact of_decide_eq_true (List.all_eq_true.mp (ba m2).2 p hp)
end
end HY
end

section
set_option Elab.async false
set_option linter.all false
set_option maxRecDepth 100000
/-! The text by places: each def's statement, its datum for the head. Printed by gentop.py. -/
namespace K92
open PySem L2
def top (i : Nat) : Stmt := PySem.Challenge.pw_bynamealone_k92_small_texts_spoilt.main.body.getD i (.Pass ⟨0, 0, 0, 0⟩)
abbrev s_is_name : Stmt := top 8
abbrev s_are_names : Stmt := top 9
abbrev s_show_answers : Stmt := top 11
abbrev s_show_condition : Stmt := top 12
abbrev s_show_fact : Stmt := top 13
abbrev s_show_trace : Stmt := top 14
abbrev s_show_address : Stmt := top 15
abbrev s_need_text : Stmt := top 19
abbrev s_need : Stmt := top 20
abbrev s_number_of : Stmt := top 21
abbrev s_read_answers : Stmt := top 22
abbrev s_Reader_init : Stmt := inClass (top 23) 0
abbrev s_Reader_takes : Stmt := inClass (top 23) 1
abbrev s_Reader_needs : Stmt := inClass (top 23) 2
abbrev s_Reader_signs : Stmt := inClass (top 23) 3
abbrev s_Reader_word_here : Stmt := inClass (top 23) 4
abbrev s_Reader_several : Stmt := inClass (top 23) 5
abbrev s_Reader_condition_here : Stmt := inClass (top 23) 6
abbrev s_Reader_fact_here : Stmt := inClass (top 23) 8
abbrev s_read_fact : Stmt := top 24
abbrev s_read_trace : Stmt := top 25
abbrev s_read_address : Stmt := top 26
abbrev s_law_bag : Stmt := top 28
abbrev s_law_take : Stmt := top 29
abbrev s_law_alike : Stmt := top 30
abbrev s_law_one : Stmt := top 31
abbrev s_law_names : Stmt := top 32
abbrev s_law_condition : Stmt := top 33
abbrev s_law_all_answers : Stmt := top 34
abbrev s_law_told : Stmt := top 35
abbrev s_law_is_name : Stmt := top 36
abbrev s_law_are_names : Stmt := top 37
abbrev s_law_condition_text : Stmt := top 38
abbrev s_law_answers_text : Stmt := top 39
abbrev s_law_fact_text : Stmt := top 40
abbrev s_law_trace_text : Stmt := top 41
abbrev s_law_address_text : Stmt := top 42
abbrev s_law_some_trace : Stmt := top 43
abbrev s_law_name_at : Stmt := top 44
abbrev s_law_number_at : Stmt := top 45
abbrev s_law_conditions_at : Stmt := top 46
abbrev s_law_condition_at : Stmt := top 47
abbrev s_law_whole : Stmt := top 48
abbrev s_law_spoilt : Stmt := top 49
abbrev s_law_read : Stmt := top 50
abbrev s_law_answers_read : Stmt := top 51
abbrev s_law_fact_read : Stmt := top 52
abbrev s_law_trace_read : Stmt := top 53
abbrev s_law_address_read : Stmt := top 54
abbrev s_law_text : Stmt := top 55
abbrev s_law : Stmt := top 56
def d_is_name : He.DefD := ⟨("is_name", none), "is_name", "is_name", defArgs s_is_name, defBody s_is_name, defScope s_is_name, [], []⟩
def d_are_names : He.DefD := ⟨("are_names", none), "are_names", "are_names", defArgs s_are_names, defBody s_are_names, defScope s_are_names, [], []⟩
def d_show_answers : He.DefD := ⟨("show_answers", none), "show_answers", "show_answers", defArgs s_show_answers, defBody s_show_answers, defScope s_show_answers, [], []⟩
def d_show_condition : He.DefD := ⟨("show_condition", none), "show_condition", "show_condition", defArgs s_show_condition, defBody s_show_condition, defScope s_show_condition, [], []⟩
def d_show_fact : He.DefD := ⟨("show_fact", none), "show_fact", "show_fact", defArgs s_show_fact, defBody s_show_fact, defScope s_show_fact, [], []⟩
def d_show_trace : He.DefD := ⟨("show_trace", none), "show_trace", "show_trace", defArgs s_show_trace, defBody s_show_trace, defScope s_show_trace, [], []⟩
def d_show_address : He.DefD := ⟨("show_address", none), "show_address", "show_address", defArgs s_show_address, defBody s_show_address, defScope s_show_address, [], []⟩
def d_need_text : He.DefD := ⟨("need_text", none), "need_text", "need_text", defArgs s_need_text, defBody s_need_text, defScope s_need_text, [], []⟩
def d_need : He.DefD := ⟨("need", none), "need", "need", defArgs s_need, defBody s_need, defScope s_need, [], []⟩
def d_number_of : He.DefD := ⟨("number_of", none), "number_of", "number_of", defArgs s_number_of, defBody s_number_of, defScope s_number_of, [], []⟩
def d_read_answers : He.DefD := ⟨("read_answers", none), "read_answers", "read_answers", defArgs s_read_answers, defBody s_read_answers, defScope s_read_answers, [], []⟩
def d_Reader_init : He.DefD := ⟨("Reader", some "__init__"), "__init__", "Reader.__init__", defArgs s_Reader_init, defBody s_Reader_init, defScope s_Reader_init, [], []⟩
def d_Reader_takes : He.DefD := ⟨("Reader", some "takes"), "takes", "Reader.takes", defArgs s_Reader_takes, defBody s_Reader_takes, defScope s_Reader_takes, [], []⟩
def d_Reader_needs : He.DefD := ⟨("Reader", some "needs"), "needs", "Reader.needs", defArgs s_Reader_needs, defBody s_Reader_needs, defScope s_Reader_needs, [], []⟩
def d_Reader_signs : He.DefD := ⟨("Reader", some "signs"), "signs", "Reader.signs", defArgs s_Reader_signs, defBody s_Reader_signs, defScope s_Reader_signs, [], []⟩
def d_Reader_word_here : He.DefD := ⟨("Reader", some "word_here"), "word_here", "Reader.word_here", defArgs s_Reader_word_here, defBody s_Reader_word_here, defScope s_Reader_word_here, [], []⟩
def d_Reader_several : He.DefD := ⟨("Reader", some "several"), "several", "Reader.several", defArgs s_Reader_several, defBody s_Reader_several, defScope s_Reader_several, [], []⟩
def d_Reader_condition_here : He.DefD := ⟨("Reader", some "condition_here"), "condition_here", "Reader.condition_here", defArgs s_Reader_condition_here, defBody s_Reader_condition_here, defScope s_Reader_condition_here, [], []⟩
def d_Reader_fact_here : He.DefD := ⟨("Reader", some "fact_here"), "fact_here", "Reader.fact_here", defArgs s_Reader_fact_here, defBody s_Reader_fact_here, defScope s_Reader_fact_here, [], []⟩
def d_read_fact : He.DefD := ⟨("read_fact", none), "read_fact", "read_fact", defArgs s_read_fact, defBody s_read_fact, defScope s_read_fact, [], []⟩
def d_read_trace : He.DefD := ⟨("read_trace", none), "read_trace", "read_trace", defArgs s_read_trace, defBody s_read_trace, defScope s_read_trace, [], []⟩
def d_read_address : He.DefD := ⟨("read_address", none), "read_address", "read_address", defArgs s_read_address, defBody s_read_address, defScope s_read_address, [], []⟩
def d_law_bag : He.DefD := ⟨("_law_bag", none), "_law_bag", "_law_bag", defArgs s_law_bag, defBody s_law_bag, defScope s_law_bag, [], []⟩
def d_law_take : He.DefD := ⟨("_law_take", none), "_law_take", "_law_take", defArgs s_law_take, defBody s_law_take, defScope s_law_take, [], []⟩
def d_law_alike : He.DefD := ⟨("_law_alike", none), "_law_alike", "_law_alike", defArgs s_law_alike, defBody s_law_alike, defScope s_law_alike, [], []⟩
def d_law_one : He.DefD := ⟨("_law_one", none), "_law_one", "_law_one", defArgs s_law_one, defBody s_law_one, defScope s_law_one, [], []⟩
def d_law_names : He.DefD := ⟨("_law_names", none), "_law_names", "_law_names", defArgs s_law_names, defBody s_law_names, defScope s_law_names, [], []⟩
def d_law_condition : He.DefD := ⟨("_law_condition", none), "_law_condition", "_law_condition", defArgs s_law_condition, defBody s_law_condition, defScope s_law_condition, [], []⟩
def d_law_all_answers : He.DefD := ⟨("_law_all_answers", none), "_law_all_answers", "_law_all_answers", defArgs s_law_all_answers, defBody s_law_all_answers, defScope s_law_all_answers, [], []⟩
def d_law_told : He.DefD := ⟨("_law_told", none), "_law_told", "_law_told", defArgs s_law_told, defBody s_law_told, defScope s_law_told, [], []⟩
def d_law_is_name : He.DefD := ⟨("_law_is_name", none), "_law_is_name", "_law_is_name", defArgs s_law_is_name, defBody s_law_is_name, defScope s_law_is_name, [], []⟩
def d_law_are_names : He.DefD := ⟨("_law_are_names", none), "_law_are_names", "_law_are_names", defArgs s_law_are_names, defBody s_law_are_names, defScope s_law_are_names, [], []⟩
def d_law_condition_text : He.DefD := ⟨("_law_condition_text", none), "_law_condition_text", "_law_condition_text", defArgs s_law_condition_text, defBody s_law_condition_text, defScope s_law_condition_text, [], []⟩
def d_law_answers_text : He.DefD := ⟨("_law_answers_text", none), "_law_answers_text", "_law_answers_text", defArgs s_law_answers_text, defBody s_law_answers_text, defScope s_law_answers_text, [], []⟩
def d_law_fact_text : He.DefD := ⟨("_law_fact_text", none), "_law_fact_text", "_law_fact_text", defArgs s_law_fact_text, defBody s_law_fact_text, defScope s_law_fact_text, [], []⟩
def d_law_trace_text : He.DefD := ⟨("_law_trace_text", none), "_law_trace_text", "_law_trace_text", defArgs s_law_trace_text, defBody s_law_trace_text, defScope s_law_trace_text, [], []⟩
def d_law_address_text : He.DefD := ⟨("_law_address_text", none), "_law_address_text", "_law_address_text", defArgs s_law_address_text, defBody s_law_address_text, defScope s_law_address_text, [], []⟩
def d_law_some_trace : He.DefD := ⟨("_law_some_trace", none), "_law_some_trace", "_law_some_trace", defArgs s_law_some_trace, defBody s_law_some_trace, defScope s_law_some_trace, [], []⟩
def d_law_name_at : He.DefD := ⟨("_law_name_at", none), "_law_name_at", "_law_name_at", defArgs s_law_name_at, defBody s_law_name_at, defScope s_law_name_at, [], []⟩
def d_law_number_at : He.DefD := ⟨("_law_number_at", none), "_law_number_at", "_law_number_at", defArgs s_law_number_at, defBody s_law_number_at, defScope s_law_number_at, [], []⟩
def d_law_conditions_at : He.DefD := ⟨("_law_conditions_at", none), "_law_conditions_at", "_law_conditions_at", defArgs s_law_conditions_at, defBody s_law_conditions_at, defScope s_law_conditions_at, [], []⟩
def d_law_condition_at : He.DefD := ⟨("_law_condition_at", none), "_law_condition_at", "_law_condition_at", defArgs s_law_condition_at, defBody s_law_condition_at, defScope s_law_condition_at, [], []⟩
def d_law_whole : He.DefD := ⟨("_law_whole", none), "_law_whole", "_law_whole", defArgs s_law_whole, defBody s_law_whole, defScope s_law_whole, [], []⟩
def d_law_spoilt : He.DefD := ⟨("_law_spoilt", none), "_law_spoilt", "_law_spoilt", defArgs s_law_spoilt, defBody s_law_spoilt, defScope s_law_spoilt, [], []⟩
def d_law_read : He.DefD := ⟨("_law_read", none), "_law_read", "_law_read", defArgs s_law_read, defBody s_law_read, defScope s_law_read, [], []⟩
def d_law_answers_read : He.DefD := ⟨("_law_answers_read", none), "_law_answers_read", "_law_answers_read", defArgs s_law_answers_read, defBody s_law_answers_read, defScope s_law_answers_read, [], []⟩
def d_law_fact_read : He.DefD := ⟨("_law_fact_read", none), "_law_fact_read", "_law_fact_read", defArgs s_law_fact_read, defBody s_law_fact_read, defScope s_law_fact_read, [], []⟩
def d_law_trace_read : He.DefD := ⟨("_law_trace_read", none), "_law_trace_read", "_law_trace_read", defArgs s_law_trace_read, defBody s_law_trace_read, defScope s_law_trace_read, [], []⟩
def d_law_address_read : He.DefD := ⟨("_law_address_read", none), "_law_address_read", "_law_address_read", defArgs s_law_address_read, defBody s_law_address_read, defScope s_law_address_read, [], []⟩
def d_law_text : He.DefD := ⟨("_law_text", none), "_law_text", "_law_text", defArgs s_law_text, defBody s_law_text, defScope s_law_text, [], []⟩
def d_law : He.DefD := ⟨("law", none), "law", "law", defArgs s_law, defBody s_law, defScope s_law, [], []⟩
def fn : List He.DefD := [d_is_name, d_are_names, d_show_answers, d_show_condition, d_show_fact, d_show_trace, d_show_address, d_need_text, d_need, d_number_of, d_read_answers, d_Reader_init, d_Reader_takes, d_Reader_needs, d_Reader_signs, d_Reader_word_here, d_Reader_several, d_Reader_condition_here, d_Reader_fact_here, d_read_fact, d_read_trace, d_read_address, d_law_bag, d_law_take, d_law_alike, d_law_one, d_law_names, d_law_condition, d_law_all_answers, d_law_told, d_law_is_name, d_law_are_names, d_law_condition_text, d_law_answers_text, d_law_fact_text, d_law_trace_text, d_law_address_text, d_law_some_trace, d_law_name_at, d_law_number_at, d_law_conditions_at, d_law_condition_at, d_law_whole, d_law_spoilt, d_law_read, d_law_answers_read, d_law_fact_read, d_law_trace_read, d_law_address_read, d_law_text, d_law]
end K92
end

section
set_option Elab.async false
set_option linter.all false
set_option maxRecDepth 100000
set_option maxHeartbeats 0
/-! The head: what the top has left. Printed by gentop.py. -/
namespace K92
open PySem PySem.Spec PyProof.Rows L2
def fa : List He.Fa := [.glo "AloneError", .glo "Wrong", .glo "NoText", .glo "is_name", .glo "are_names", .glo "show_answers", .glo "show_condition", .glo "show_fact", .glo "show_trace", .glo "show_address", .glo "need_text", .glo "need", .glo "number_of", .glo "read_answers", .glo "Reader", .glo "read_fact", .glo "read_trace", .glo "read_address", .glo "_law_bag", .glo "_law_take", .glo "_law_alike", .glo "_law_one", .glo "_law_names", .glo "_law_condition", .glo "_law_all_answers", .glo "_law_told", .glo "_law_is_name", .glo "_law_are_names", .glo "_law_condition_text", .glo "_law_answers_text", .glo "_law_fact_text", .glo "_law_trace_text", .glo "_law_address_text", .glo "_law_some_trace", .glo "_law_name_at", .glo "_law_number_at", .glo "_law_conditions_at", .glo "_law_condition_at", .glo "_law_whole", .glo "_law_spoilt", .glo "_law_read", .glo "_law_answers_read", .glo "_law_fact_read", .glo "_law_trace_read", .glo "_law_address_read", .glo "_law_text", .glo "law", .free "ValueError", .free "abs", .free "all", .free "int", .free "isinstance", .free "len", .free "list", .free "range", .free "repr", .free "set", .free "sorted", .free "str", .free "super", .free "tuple", .free "zip", .str "LETTERS" "abcdefghijklmnopqrstuvwxyz", .int "LONGEST_NAME" 8, .str "DIGITS" "0123456789", .int "MOST_DIGITS" 9, .cls "Reader", .mkr "Reader", .noat "Reader" "its_place", .noat "Reader" "its_text", .meth "Reader" "takes", .meth "Reader" "needs", .meth "Reader" "signs", .meth "Reader" "word_here", .meth "Reader" "several", .meth "Reader" "condition_here", .meth "Reader" "fact_here", .exm "NoText" "AloneError" true]
def tf : List He.Defn := [("Reader", some "condition_here"), ("law", none)]
abbrev s_NoText_init : Stmt := inClass (top 4) 0
def x_NoText : HY.XD := ⟨"NoText", "NoText.__init__", defArgs s_NoText_init, defBody s_NoText_init, defScope s_NoText_init⟩
def xs : List HY.XD := [x_NoText]
def ks : List (Str × Str × Bool) := [("NoText", "Wrong", false), ("NoText", "NoText", true)]
def loose0 : List Str := ["_wall", "__name__", "AloneError", "Wrong", "NoText", "LETTERS", "LONGEST_NAME", "is_name", "are_names", "show_answers", "show_condition", "show_fact", "show_trace", "show_address", "DIGITS", "MOST_DIGITS", "need_text", "need", "number_of", "read_answers", "Reader", "read_fact", "read_trace", "read_address", "_law_bag", "_law_take", "_law_alike", "_law_one", "_law_names", "_law_condition"]
def loose1 : List Str := ["_law_all_answers", "_law_told", "_law_is_name", "_law_are_names", "_law_condition_text", "_law_answers_text", "_law_fact_text", "_law_trace_text", "_law_address_text", "_law_some_trace", "_law_name_at", "_law_number_at", "_law_conditions_at", "_law_condition_at", "_law_whole", "_law_spoilt", "_law_read", "_law_answers_read", "_law_fact_read", "_law_trace_read", "_law_address_read", "_law_text"]
def loose : List Str := loose0 ++ loose1
abbrev R : PySem.W.OpenRow := PySem.W.OpenLaw.row PySem.Challenge.rw_bynamealone_k92_small_texts_spoilt
abbrev hk : PySem.W.Hook := HY.hookY 6 fa fn tf xs ks "/claim/cut.py"
def ob (s : PySem.W.SharedT) : HY.AlY := HY.obsY 6 fa fn tf xs ks "/claim/cut.py" (HandSHeadRun.getT s)
theorem ob_eq (s : PySem.W.SharedT) : ob s = hk.obs s.abs := HY.obsY_eq (HandSHeadRun.getT_eq s)
theorem run (w : World) : HandSHeadRun.RunEq R (PySem.W.view R.prog [56]) hk ob 4000 loose w := by
  intro os
  kernel_rfl
end K92
end

section
set_option Elab.async false
set_option linter.all false
set_option maxRecDepth 100000
set_option maxHeartbeats 4000000
/-! The end of a law row where the law asks repr: the law's def is run around the caller itself, whose guards are told. -/
namespace EG
open PySem PySem.Spec PyProof.Rows L2
/-- a def keeps its promise when it is called within A -/
structure RunA (P : Program) (w : World) (K : PySem.W.Frag) (mg : Str → Option Value) (base : Heap) (CX : CXT) (A : Around) (f : Addr) (fd : FuncData) (ps : List Str) (sp : Sp) : Prop where
  run : ∀ (outer : List Env) (s : Shared) (H : Hp) (args : Args) (us : List Value) (vs : List V) (Q : VK) (E : XK), Env0 P w K mg base A outer s H → BindsTo s fd args (ps.zip us) → Vals vs us → sp vs H Q E →
    codeAny (model P w) A (.call (.ref f) args) (CR CX outer P w H s Q E) s
/-- the first abstract heap: the tables, and the script, where it is not of the written part -/
def H0 (K : PySem.W.Frag) (ts : List Addr) (a : Addr) (o : Obj) (xs : List V) : Hp := fun b =>
  if b ∈ ts then some (.tbl #[]) else if b = a ∧ (K.lookup a).isNone = true then some (.frz o (.lst xs)) else none
theorem H0_cases {K : PySem.W.Frag} {ts : List Addr} {a : Addr} {o : Obj} {xs : List V} {b : Addr} {u : HO} (h : H0 K ts a o xs b = some u) : (b ∈ ts ∧ u = .tbl #[]) ∨ (b = a ∧ K.lookup a = none ∧ u = .frz o (.lst xs)) := by
  unfold H0 at h
  by_cases h1 : b ∈ ts
  · rw [if_pos h1] at h
    exact .inl ⟨h1, (Option.some.inj h).symm⟩
  · rw [if_neg h1] at h
    by_cases h2 : b = a ∧ (K.lookup a).isNone = true
    · rw [if_pos h2] at h
      exact .inr ⟨h2.1, Option.isNone_iff_eq_none.mp h2.2, (Option.some.inj h).symm⟩
    · rw [if_neg h2] at h
      cases h
theorem H0_tab {K : PySem.W.Frag} {ts : List Addr} {a : Addr} {o : Obj} {xs : List V} {b : Addr} (h : b ∈ ts) : H0 K ts a o xs b = some (.tbl #[]) := if_pos h
section
variable {P : Program} {w : World} {K : PySem.W.Frag} {mg mb : Str → Option Value} {CX : CXT} {fa a : Addr} {cs : List (Addr × Addr)} {fd : FuncData} {x : Str} {sp : Sp} {s : Shared} {vs : List Value} {ns : List Int}
theorem law_go (KX : K.In s.heap) (hg : s.heap.Ns mainGlobals mg) (hb : s.heap.Ns builtinsNs mb) (hbb : ∀ y : Str, y ≠ "__name__" → mb y = bootBuiltins y) (hlim : s.heap.NoLimit) (hgen : s.gens = #[])
    (hT : ∀ p ∈ cs, s.heap.get? p.2 = some { cls := .none, data := .fields #[] }) (nT : ∀ p ∈ cs, K.lookup p.2 = none) (hC : ∀ p ∈ cs, PySem.W.CodeHd s.heap p.1 p.2)
    (hbm : ∃ (bm : Addr) (ob : Obj), mg "__builtins__" = some (.ref bm) ∧ bm ≠ builtinsNs ∧ s.heap.get? bm = some ob ∧ ob.cls = .type "module" ∧ ob.dict = some builtinsNs ∧ ob.data = .plain)
    (ha : s.heap.get? a = some { cls := .type "list", data := .seq vs.toArray }) (hi : IntsAre vs ns) (hl : ns.length ≤ sizeLine)
    (F : ∀ base : Heap, K.In base → base.Ns mainGlobals mg → (∀ p ∈ cs, LamX.TabB base mg p.1 p.2) → RunA P w K mg base CX callerA fa fd [x] sp) (hbind : ∀ (s : Shared) (u : Value), BindsTo s fd ⟨[u], []⟩ [(x, u)])
    (hsp : ∀ H : Hp, (∀ p ∈ cs, H p.2 = some (.tbl #[])) → SqL K H a (ns.map V.int) → sp [.ref a] H (fun v _ => v = .bl true) fun _ _ _ => False)
    (hCX : ∀ H e s', CX [] H s (fun _ _ _ => False) e s' → False) :
    codeAny (model P w) callerA (.call (.ref fa) ⟨[.ref a], []⟩) (fun r s' => r = .ok (.ret (.bool true)) ∧ OldK s.heap s'.heap ∧ s'.os = s.os ∧ AllBare s'.gens) s := by
  have rv := vals_ints hi
  have lv := hi.length
  obtain ⟨H, eH⟩ : ∃ H, H = H0 K (cs.map (·.2)) a { cls := .type "list", data := .seq vs.toArray } (ns.map V.int) := ⟨_, rfl⟩
  have inTs : ∀ p ∈ cs, p.2 ∈ cs.map (·.2) := fun p hp => List.mem_map.mpr ⟨p, hp, rfl⟩
  have tsObj : ∀ b ∈ cs.map (·.2), s.heap.get? b = some { cls := .none, data := .fields #[] } ∧ K.lookup b = none := fun b hb => by
    obtain ⟨p, hp, rfl⟩ := List.mem_map.mp hb
    exact ⟨hT p hp, nT p hp⟩
  have cases_ : ∀ {b u}, H b = some u → (b ∈ cs.map (·.2) ∧ u = .tbl #[]) ∨ (b = a ∧ K.lookup a = none ∧ u = .frz { cls := .type "list", data := .seq vs.toArray } (.lst (ns.map V.int))) := fun {b u} h => by
    rw [eH] at h
    exact H0_cases h
  have tabs : ∀ p ∈ cs, H p.2 = some (.tbl #[]) := fun p hp => by
    rw [eH]
    exact H0_tab (inTs p hp)
  -- an object of another make is not tracked
  have un : ∀ {b : Addr} {o : Obj}, s.heap.get? b = some o → o.data ≠ .fields #[] → (∀ us n, o.data ≠ .seq us n) → H b = none := fun {b o} e n1 n2 => by
    cases q : H b with
    | none => rfl
    | some u =>
      exfalso
      rcases cases_ q with ⟨hb, _⟩ | ⟨rfl, _⟩
      · rw [(tsObj b hb).1] at e
        exact n1 (by rw [← Option.some.inj e])
      · rw [ha] at e
        exact n2 _ _ (by rw [← Option.some.inj e])
  have nsB : ∀ {b : Addr} {m : Str → Option Value}, s.heap.Ns b m → (hidT s.heap H).Ns b m := fun {b m} ⟨o, es, ep, e, d, r⟩ =>
    ⟨o, es, ep, hidT_get e (un e (by rw [d]; intro z; cases z) (by rw [d]; intro us n z; cases z)), d, r⟩
  have KB : K.In (hidT s.heap H) := fun b o e => hidT_get (KX b o e) (by
    cases q : H b with
    | none => rfl
    | some u =>
      exfalso
      rcases cases_ q with ⟨hb, _⟩ | ⟨rfl, n, _⟩
      · rw [(tsObj b hb).2] at e
        cases e
      · rw [n] at e
        cases e)
  have aTs : a ∉ cs.map (·.2) := fun z => by
    have q := (tsObj a z).1
    rw [ha] at q
    cases congrArg Obj.data (Option.some.inj q)
  have hok : HOk P w H s.heap := fun b u q => by
    rcases cases_ q with ⟨hb, rfl⟩ | ⟨rfl, _, rfl⟩
    · exact (tsObj b hb).1
    · exact ⟨ha, by rw [List.length_map]; exact hl, vs, _, rv, ha⟩
  have hS : SqL K H a (ns.map V.int) := by
    cases q : K.lookup a with
    | some o =>
      have e := KX a o q
      rw [ha] at e
      cases e
      exact .inr ⟨_, vs.toArray, _, q, rfl, rfl, rfl, by rw [List.size_toArray, lv]; exact hl, by simpa using rv⟩
    | none =>
      refine .inl (.inr ⟨{ cls := .type "list", data := .seq vs.toArray }, ?_⟩)
      rw [eH]
      unfold H0
      rw [if_neg aTs, if_pos ⟨rfl, by rw [q]; rfl⟩]
  have TB : ∀ p ∈ cs, LamX.TabB (hidT s.heap H) mg p.1 p.2 := fun p hp => by
    have tp := hT p hp
    obtain ⟨o, us, f1, f2, f3, f4, f5, f6, f7, c1, c2, c3, c4, c5, c6, c7, c8, c9, c10⟩ := hC p hp
    obtain ⟨bm, ob, b1, b2, b3, b4, b5, b6⟩ := hbm
    obtain ⟨og, es, ep, g1, g2, g3⟩ := id hg
    have nG : bm ≠ mainGlobals := fun q => by
      rw [q, g1] at b3
      cases b3
      rw [g2] at b6
      cases b6
    have nP : bm ≠ p.2 := fun q => by
      rw [q, tp] at b3
      cases b3
      cases b6
    refine ⟨⟨o, us, f1, f2, f3, f4, f5, f6, f7, hidT_get c1 (un c1 (fun z => ?_) (fun us' n z => ?_)), c2, c3, c4, c5, c6, c7, c8, c9, c10⟩, ⟨bm, ob, b1, b2, nG, nP, hidT_get b3 (un b3 (fun z => ?_) (fun us' n z => ?_)), b4, b5, b6⟩, fun z => ?_⟩
    · rw [c3] at z
      cases z
      simp at c4
    · rw [c3] at z
      cases z
    · rw [b6] at z
      cases z
    · rw [b6] at z
      cases z
    · rw [z, tp] at g1
      cases g1
      cases g2
  have M : L2.Mod K mg (hidT s.heap H) := ⟨KB, nsB hg, ⟨mb, nsB hb, hbb⟩, let ⟨mc, h1, h2⟩ := hlim; ⟨mc, nsB h1, h2⟩⟩
  have e0 : Env0 P w K mg (hidT s.heap H) callerA [] s H := ⟨rfl, M, fun b o e => of_hidT e, Nat.le_of_eq (hidT_size _ _), trivial, (fun b hb => absurd (show b ∈ ([] : List Addr) from hb) (by simp)), hok, .of_eq hgen⟩
  refine codeAny_mono ((F _ KB (nsB hg) TB).run [] s H ⟨[.ref a], []⟩ [.ref a] [.ref a] _ _ e0 (hbind s (.ref a)) (.cons rfl .nil) (hsp H tabs hS)) fun r s' h => ?_
  match r, h with
  | .error e, h => exact (hCX H e s' h).elim
  | .ok .next, h => exact False.elim h
  | .ok .brk, h => exact False.elim h
  | .ok .cont, h => exact False.elim h
  | .ok (.ret u), h =>
    obtain ⟨v, H', os, bare, U, hok', r', q⟩ := h
    obtain rfl : v = .bl true := q
    obtain rfl : u = Value.bool true := r'
    -- what is no table is as it was
    have old : ∀ b o, b ∉ cs.map (·.2) → s.heap.get? b = some o → s'.heap.get? b = some o := fun b o nb e => by
      cases q : H b with
      | none => exact U.keep b o e q (fun z => absurd (show b ∈ ([] : List Addr) from z) (by simp)) (by simp)
      | some u =>
        rcases cases_ q with ⟨hb, _⟩ | ⟨_, _, rfl⟩
        · exact absurd hb nb
        · obtain ⟨e1, _⟩ := hok b _ q
          obtain ⟨e2, _⟩ := hok' b _ (U.frzs b _ _ q)
          rw [e] at e1
          rw [Option.some.inj e1]
          exact e2
    have grown : ∀ p ∈ cs, ∃ more : Array Value, s'.heap.get? p.2 = some { cls := .none, data := .fields more } := fun p hp => by
      obtain ⟨more, z⟩ := U.tbls p.2 #[] (tabs p hp)
      exact ⟨_, hok' p.2 _ z⟩
    refine ⟨rfl, ⟨fun b o e => ?_, fun b o e => ?_⟩, os, bare⟩
    · by_cases hb : b ∈ cs.map (·.2)
      · obtain ⟨p, hp, rfl⟩ := List.mem_map.mp hb
        obtain ⟨more, hm⟩ := grown p hp
        rw [hT p hp] at e
        cases e
        exact .inr (.inl ⟨((hC p hp).tab (hT p hp)).isCodeTable, rfl, #[], more, rfl, by rw [Array.empty_append]; exact hm⟩)
      · exact .inl (old b o hb e)
    · by_cases hb : b ∈ cs.map (·.2)
      · obtain ⟨p, hp, rfl⟩ := List.mem_map.mp hb
        obtain ⟨more, hm⟩ := grown p hp
        exact ⟨_, hm⟩
      · exact ⟨o, old b o hb e⟩
end
/-- what is told of the law at the head's heap h -/
def LawG (l : PySem.W.OpenLaw) (w : World) (K : PySem.W.Frag) (CX : CXT) (n : Nat) (x : Str) (mg : Str → Option Value) (fa : Addr) (h : Heap) : Prop :=
  ∃ (fd : FuncData) (cs : List (Addr × Addr)) (sp : Sp), (∀ p ∈ cs, h.get? p.2 = some { cls := .none, data := .fields #[] }) ∧ (∀ p ∈ cs, K.lookup p.2 = none) ∧ (∀ p ∈ cs, PySem.W.CodeHd h p.1 p.2) ∧ (∀ (s : Shared) (u : Value), BindsTo s fd ⟨[u], []⟩ [(x, u)]) ∧
    (∀ (H : Hp) (a : Addr) (ns : List Int), ns.length ≤ n → (∀ z ∈ ns, Builtin.Int.intBits z ≤ 1048576) → (∀ p ∈ cs, H p.2 = some (.tbl #[])) → SqL K H a (ns.map V.int) → sp [.ref a] H (fun v _ => v = .bl true) fun _ _ _ => False) ∧
    ∀ base : Heap, K.In base → base.Ns mainGlobals mg → (∀ p ∈ cs, LamX.TabB base mg p.1 p.2) → RunA l.prog w K mg base CX callerA fa fd [x] sp
theorem walkG {l : PySem.W.OpenLaw} {n : Nat} {q : Program} {loose : List Str} {XP : (Str → Option Value) → Heap → Prop} {YP : World → Heap → Prop} {d : DefRec} {CX : World → CXT} {x : Str}
    (hn : l.most = some n) (hn2 : n ≤ sizeLine) (hdf : d.params.defaults = [])
    (F : ∀ (w : World) (mg : Str → Option Value) (fa : Addr) (h : Heap), YP w h → h.Ns mainGlobals mg → mg d.name = some (.ref fa) → ∃ K : PySem.W.Frag, K.In h ∧ LawG l w K (CX w) n x mg fa h)
    (hCX : ∀ (w : World) (H : Hp) (s : Shared) (e : Value) (s' : Shared), CX w [] H s (fun _ _ _ => False) e s' → False) :
    PySem.W.WalkO q loose XP YP l.row.toRowW d [] (fun f vs => PySem.call f vs) := by
  refine Att.attach_callB hn hdf fun w s0 s1 mg mb fa o pm cd doc a vs ns G Y ho hd hcd hmg hobj hints hlen hbits hgen => ?_
  obtain ⟨K, KX, fd, cs, sp, hT, nT, hC, hb, hsp, hF⟩ := F w mg fa _ Y G.T.g hmg
  exact law_go KX G.T.g G.T.b G.T.builtins G.T.nolimit hgen hT nT hC G.T.bmain hobj hints (Nat.le_trans hlen hn2) hF hb (fun H h1 h2 => hsp H a ns hlen hbits h1 h2) fun H e s' => hCX w H s1 e s'
end EG
end

section
set_option Elab.async false
set_option linter.all false
set_option maxRecDepth 100000
set_option maxHeartbeats 4000000
/-! Short words of our own over the hand layer. -/
namespace HL
open PySem PySem.Spec PyProof.Rows L2 He
abbrev S (l : List Nat) : Str := ⟨l.toArray⟩
theorem ofq (s : String) : Str.ofString s = S (s.toList.map Char.toNat) := PySem.Str.ofString_eq_toList s
theorem S_inj {a b : List Nat} (h : S a = S b) : a = b := congrArg (fun x : Str => x.cps.toList) h
theorem S_tl (x : Str) : S x.cps.toList = x := TL.mk_tl x
theorem S_len (a : List Nat) : (S a).length = a.length := by simp [S, Str.length]
theorem S_cat (a b : List Nat) : S a ++ S b = S (a ++ b) := TL.ext_tl (TL.tl_append (S a) (S b))
theorem dec_S (a b : List Nat) : decide (V.str (S a) = V.str (S b)) = decide (a = b) := by
  by_cases h : a = b
  · subst h
    simp
  · rw [decide_eq_false h, decide_eq_false]
    intro z
    injection z with z
    exact h (S_inj z)
theorem small {n : Nat} (h : n ≤ 1000000) : n ≤ sizeLine := Nat.le_trans h (by decide)
/-! ### heaps -/
theorem same_new {H : Hp} {p : Addr} {o : HO} (h : H p = none) : Same H (upd H p o) := fun b u e => by
  rw [upd_ne (ne_of_none e h)]
  exact e
theorem Same.new {H0 H : Hp} {p : Addr} {o : HO} (e : Same H0 H) (h : H p = none) : Same H0 (upd H p o) := e.trans (same_new h)
theorem free_of {H0 H : Hp} {p : Addr} (e : Same H0 H) (h : H p = none) : H0 p = none := e.free h
/-- all but what stands at p is as it was -/
def SameB (p : Addr) (H H' : Hp) : Prop := ∀ b o, H b = some o → b ≠ p → H' b = some o
theorem SameB.refl (p : Addr) (H : Hp) : SameB p H H := fun _ _ h _ => h
theorem SameB.trans {p : Addr} {H H1 H2 : Hp} (a : SameB p H H1) (b : SameB p H1 H2) : SameB p H H2 := fun c o h n => b c o (a c o h n) n
theorem SameB.of {p : Addr} {H H' : Hp} (e : Same H H') : SameB p H H' := fun b o h _ => e b o h
theorem SameB.upd {p : Addr} {H H' : Hp} (e : SameB p H H') {o : HO} : SameB p H (upd H' p o) := fun b u h n => by
  rw [upd_ne n]
  exact e b u h n
theorem SameB.new {p q : Addr} {H H' : Hp} (e : SameB p H H') {o : HO} (h : H' q = none) : SameB p H (L2.upd H' q o) := e.trans (.of (same_new h))
/-- a new object may change -/
theorem Same.mut {H H' : Hp} {p : Addr} {o : HO} (e : Same H H') (h : H p = none) : Same H (upd H' p o) := fun b u z => by
  rw [upd_ne (ne_of_none z h)]
  exact e b u z
theorem SameB.mut {r p : Addr} {H H' : Hp} {o : HO} (e : SameB r H H') (h : H p = none) : SameB r H (L2.upd H' p o) := fun b u z n => by
  rw [upd_ne (ne_of_none z h)]
  exact e b u z n
theorem SameB.free {p q : Addr} {H H' : Hp} (e : SameB p H H') (h : H' q = none) (n : q ≠ p) : H q = none := by
  cases z : H q with
  | none => rfl
  | some o =>
    rw [e q o z n] at h
    cases h
/-! ### types -/
theorem tyx_tup {K : PySem.W.Frag} {H : Hp} {a : Addr} {xs : List V} (h : SqT K H a xs) : TyX K H (.ref a) (.type "tuple") := by
  rcases h with (h | ⟨o, h⟩) | ⟨o, its, n, h, c, _⟩
  · exact .base (.tup h)
  · exact .fTuple h
  · exact .kTuple h c
/-- a def of the text, at its place, keeps its promise; how it is called -/
structure Ok (P : Program) (w : World) (K : PySem.W.Frag) (mg : Str → Option Value) (base : Heap) (CX : CXT) (k : Nat) (at_ : Str × Option Str) (ps : List Str) (sp : Sp) : Prop where
  ex : ∃ fd, FnOk P w K mg base CX k (fAd K at_) fd ps sp ∧ Binds K fd ps []
  kp : PySem.W.keepIn K (.ref (fAd K at_)) = true
theorem Ok.imp {P : Program} {w : World} {K : PySem.W.Frag} {mg : Str → Option Value} {base : Heap} {CX : CXT} {k : Nat} {at_ : Str × Option Str} {ps : List Str} {sp sp' : Sp} (O : Ok P w K mg base CX k at_ ps sp) (h : ∀ vs H Q E, sp' vs H Q E → sp vs H Q E) : Ok P w K mg base CX k at_ ps sp' :=
  let ⟨fd, F, b⟩ := O.ex; ⟨⟨fd, F.imp h, b⟩, O.kp⟩
theorem Ok.mono {P : Program} {w : World} {K : PySem.W.Frag} {mg : Str → Option Value} {base : Heap} {CX : CXT} {j k : Nat} {at_ : Str × Option Str} {ps : List Str} {sp : Sp} (O : Ok P w K mg base CX j at_ ps sp) (h : j ≤ k) : Ok P w K mg base CX k at_ ps sp :=
  let ⟨fd, F, b⟩ := O.ex; ⟨⟨fd, F.mono h, b⟩, O.kp⟩
theorem ok_of {P : Program} {w : World} {K : PySem.W.Frag} {mg : Str → Option Value} {base : Heap} {CX : CXT} {k : Nat} {d : DefD} {N ps : List Str} {sp : Sp} (D : ∃ fd, FunD K d.name d.qual d.params d.body d.scope [] [] (fAd K d.at_) fd) (Sc : FnScope N ps d.scope) (len : ∀ vs H Q E, sp vs H Q E → vs.length = ps.length)
    (hb : ∀ (kV doc pm : Value) (an : Option Addr) (cdv ct : Value) (us : List Value), us.length = ps.length → bindArgs (PySem.W.fnOf d.name d.qual d.params d.body d.scope .none kV doc pm an cdv ct) ⟨us, []⟩ = pure (ps.zip us))
    (hbody : ∀ (cdv : Value) (A : Around) (outer : List Env) (s : Shared) (H : Hp) (vs : List V) (Q : VK) (E : XK), Room k (A.deeper (envOfC d.qual d.scope s.heap.objs.size (fAd K d.at_) cdv)) → sp vs H Q E →
      ∃ t, PSs (cxOf CX P w K mg base N d.qual d.scope (fAd K d.at_) cdv A outer s H E) d.body t ∧ t { nx := fun _ H' => Q .non H', rt := Q } (start N vs) H) : Ok P w K mg base CX (k + 1) d.at_ ps sp := by
  obtain ⟨fd, F⟩ := D
  exact ⟨⟨fd, F.ok Sc len hbody, F.bindsN hb⟩, F.kp⟩
/-- for a def that lets nothing out -/
theorem ok_of0 {P : Program} {w : World} {K : PySem.W.Frag} {mg : Str → Option Value} {base : Heap} {k : Nat} {d : DefD} {N ps : List Str} {sp : Sp} (D : ∃ fd, FunD K d.name d.qual d.params d.body d.scope [] [] (fAd K d.at_) fd) (Sc : FnScope N ps d.scope) (len : ∀ vs H Q E, sp vs H Q E → vs.length = ps.length)
    (hb : ∀ (kV doc pm : Value) (an : Option Addr) (cdv ct : Value) (us : List Value), us.length = ps.length → bindArgs (PySem.W.fnOf d.name d.qual d.params d.body d.scope .none kV doc pm an cdv ct) ⟨us, []⟩ = pure (ps.zip us))
    (hbody : ∀ (cdv : Value) (A : Around) (outer : List Env) (s : Shared) (H : Hp) (vs : List V) (Q : VK) (E : XK), Room k (A.deeper (envOfC d.qual d.scope s.heap.objs.size (fAd K d.at_) cdv)) → sp vs H Q E →
      ∃ t, PSs (cxOf CX0 P w K mg base N d.qual d.scope (fAd K d.at_) cdv A outer s H E).nox d.body t ∧ t { nx := fun _ H' => Q .non H', rt := Q } (start N vs) H) : Ok P w K mg base CX0 (k + 1) d.at_ ps sp :=
  ok_of D Sc len hb fun cdv A outer s H vs Q E hr h => let ⟨t, h1, h2⟩ := hbody cdv A outer s H vs Q E hr h; ⟨t, h1.nox, h2⟩
section
variable {X : Cx} {CX : CXT} {k : Nat} {ps : List Str} {sp : Sp} {E : XK} {x c m : Str} {p pos apos : Pos} {e o : Expr} {es : List Expr} {t : TA} {ta : TE}
theorem pe_cal (O : Ok X.prog X.w X.K X.mg X.base CX k (x, none) ps sp) (hr : Room k X.A) (hm : X.mg x = some (.ref (ga X.K x))) (hx : Passes CX X E) (ha : PA X (e :: es) t) (hg : Gl X x := by rfl) (hdb : (x == ("__debug__" : Str)) = false := by decide)
    (he : starEach (e :: es) X.env = (false, eval e X.env) :: starEach es X.env := by rfl) (hpl : (backTo pos (starEach es X.env)).any (·.1) = false := by rfl) :
    PE X (.Call (.Name x p) (e :: es) [] pos) (tCall sp [] E t) := by
  obtain ⟨fd, F, b⟩ := O.ex
  exact pe_call F hr hg hm O.kp b .nil hx ha hdb he hpl
theorem pe_cam {pl : Sem Bool} (O : Ok X.prog X.w X.K X.mg X.base CX k (c, some m) ps sp) (cl : Cls X.K (ga X.K c)) (hm : Meth X.K (ga X.K c) m (ma X.K (ga X.K c) m)) (hr : Room k X.A) (hx : Passes CX X E) (ho : PE X o ta) (ha : PA X (e :: es) t)
    (hst : starEach (e :: es) X.env = (false, eval e X.env) :: starEach es X.env := by rfl) (hpl : (backTo pos (starEach es X.env)).any (·.1) = false := by rfl)
    (ht : eval (.Call (.Attribute o m apos) (e :: es) [] pos) X.env = (do
      let ov ← eval o X.env
      standAt apos.atName
      let (f, first) ← holding [ov] (getMethod ov m pl)
      callWith pos f first (backTo pos (starEach (e :: es) X.env)) (backToKw pos (keywordEach [] X.env))) := by rfl) :
    PE X (.Call (.Attribute o m apos) (e :: es) [] pos) (tMeth (ga X.K c) m sp [] E ta t) := by
  obtain ⟨fd, F, b⟩ := O.ex
  exact pe_meth ho cl hm F hr b .nil hx ha hst hpl ht
theorem pe_cam0 {pl : Sem Bool} (O : Ok X.prog X.w X.K X.mg X.base CX k (c, some m) ps sp) (cl : Cls X.K (ga X.K c)) (hm : Meth X.K (ga X.K c) m (ma X.K (ga X.K c) m)) (hr : Room k X.A) (hx : Passes CX X E) (ho : PE X o ta)
    (ht : eval (.Call (.Attribute o m apos) [] [] pos) X.env = (do
      let ov ← eval o X.env
      standAt apos.atName
      let (f, first) ← holding [ov] (getMethod ov m pl)
      callWith pos f first (backTo pos (starEach [] X.env)) (backToKw pos (keywordEach [] X.env))) := by rfl) :
    PE X (.Call (.Attribute o m apos) [] [] pos) (tMeth (ga X.K c) m sp [] E ta tNil) := by
  obtain ⟨fd, F, b⟩ := O.ex
  exact pe_meth0 ho cl hm F hr b .nil hx ht
/-- x(e, ..), x an own class with __init__ -/
theorem pe_cak (O : Ok X.prog X.w X.K X.mg X.base CX k (c, some "__init__") ps sp) (M : Mk X.K (ga X.K c) (ma X.K (ga X.K c) "__init__")) (hr : Room (k + 1) X.A) (hm : X.mg c = some (.ref (ga X.K c))) (hx : Passes CX X E) (ha : PA X (e :: es) t) (hg : Gl X c := by rfl) (hdb : (c == ("__debug__" : Str)) = false := by decide)
    (he : starEach (e :: es) X.env = (false, eval e X.env) :: starEach es X.env := by rfl) (hpl : (backTo pos (starEach es X.env)).any (·.1) = false := by rfl) :
    PE X (.Call (.Name c p) (e :: es) [] pos) (tMake (ga X.K c) sp [] E t) := by
  obtain ⟨fd, F, b⟩ := O.ex
  exact pe_make M F hr hg hm b .nil hx ha hdb he hpl
end
end HL
end

section
set_option Elab.async false
set_option linter.all false
set_option maxRecDepth 100000
/-! Names for what the head tells. Printed by genfacts.py. -/
namespace K92
open PySem PySem.Spec PyProof.Rows L2 He
/-- what the walks lean on -/
structure Wl (K : PySem.W.Frag) (mg : Str → Option Value) : Prop where
  ex : ∃ (w : World) (h : Heap), K.In h ∧ h.Ns mainGlobals mg ∧ HY.SaysY fa fn tf xs ks "/claim/cut.py" w h K
section
variable {K : PySem.W.Frag} {mg : Str → Option Value}
theorem Wl.fact (W : Wl K mg) (i : Nat) {f : Fa} (h : fa[i]? = some f := by rfl) : f.ok K = true := let ⟨_, _, _, _, c⟩ := W.ex; c.d.fact i h
theorem Wl.g_AloneError (W : Wl K mg) : mg "AloneError" = some (.ref (ga K "AloneError")) := let ⟨_, _, X, G, _⟩ := W.ex; glo_ok X G (W.fact 0)
theorem Wl.g_Wrong (W : Wl K mg) : mg "Wrong" = some (.ref (ga K "Wrong")) := let ⟨_, _, X, G, _⟩ := W.ex; glo_ok X G (W.fact 1)
theorem Wl.g_NoText (W : Wl K mg) : mg "NoText" = some (.ref (ga K "NoText")) := let ⟨_, _, X, G, _⟩ := W.ex; glo_ok X G (W.fact 2)
theorem Wl.g_is_name (W : Wl K mg) : mg "is_name" = some (.ref (ga K "is_name")) := let ⟨_, _, X, G, _⟩ := W.ex; glo_ok X G (W.fact 3)
theorem Wl.g_are_names (W : Wl K mg) : mg "are_names" = some (.ref (ga K "are_names")) := let ⟨_, _, X, G, _⟩ := W.ex; glo_ok X G (W.fact 4)
theorem Wl.g_show_answers (W : Wl K mg) : mg "show_answers" = some (.ref (ga K "show_answers")) := let ⟨_, _, X, G, _⟩ := W.ex; glo_ok X G (W.fact 5)
theorem Wl.g_show_condition (W : Wl K mg) : mg "show_condition" = some (.ref (ga K "show_condition")) := let ⟨_, _, X, G, _⟩ := W.ex; glo_ok X G (W.fact 6)
theorem Wl.g_show_fact (W : Wl K mg) : mg "show_fact" = some (.ref (ga K "show_fact")) := let ⟨_, _, X, G, _⟩ := W.ex; glo_ok X G (W.fact 7)
theorem Wl.g_show_trace (W : Wl K mg) : mg "show_trace" = some (.ref (ga K "show_trace")) := let ⟨_, _, X, G, _⟩ := W.ex; glo_ok X G (W.fact 8)
theorem Wl.g_show_address (W : Wl K mg) : mg "show_address" = some (.ref (ga K "show_address")) := let ⟨_, _, X, G, _⟩ := W.ex; glo_ok X G (W.fact 9)
theorem Wl.g_need_text (W : Wl K mg) : mg "need_text" = some (.ref (ga K "need_text")) := let ⟨_, _, X, G, _⟩ := W.ex; glo_ok X G (W.fact 10)
theorem Wl.g_need (W : Wl K mg) : mg "need" = some (.ref (ga K "need")) := let ⟨_, _, X, G, _⟩ := W.ex; glo_ok X G (W.fact 11)
theorem Wl.g_number_of (W : Wl K mg) : mg "number_of" = some (.ref (ga K "number_of")) := let ⟨_, _, X, G, _⟩ := W.ex; glo_ok X G (W.fact 12)
theorem Wl.g_read_answers (W : Wl K mg) : mg "read_answers" = some (.ref (ga K "read_answers")) := let ⟨_, _, X, G, _⟩ := W.ex; glo_ok X G (W.fact 13)
theorem Wl.g_Reader (W : Wl K mg) : mg "Reader" = some (.ref (ga K "Reader")) := let ⟨_, _, X, G, _⟩ := W.ex; glo_ok X G (W.fact 14)
theorem Wl.g_read_fact (W : Wl K mg) : mg "read_fact" = some (.ref (ga K "read_fact")) := let ⟨_, _, X, G, _⟩ := W.ex; glo_ok X G (W.fact 15)
theorem Wl.g_read_trace (W : Wl K mg) : mg "read_trace" = some (.ref (ga K "read_trace")) := let ⟨_, _, X, G, _⟩ := W.ex; glo_ok X G (W.fact 16)
theorem Wl.g_read_address (W : Wl K mg) : mg "read_address" = some (.ref (ga K "read_address")) := let ⟨_, _, X, G, _⟩ := W.ex; glo_ok X G (W.fact 17)
theorem Wl.g__law_bag (W : Wl K mg) : mg "_law_bag" = some (.ref (ga K "_law_bag")) := let ⟨_, _, X, G, _⟩ := W.ex; glo_ok X G (W.fact 18)
theorem Wl.g__law_take (W : Wl K mg) : mg "_law_take" = some (.ref (ga K "_law_take")) := let ⟨_, _, X, G, _⟩ := W.ex; glo_ok X G (W.fact 19)
theorem Wl.g__law_alike (W : Wl K mg) : mg "_law_alike" = some (.ref (ga K "_law_alike")) := let ⟨_, _, X, G, _⟩ := W.ex; glo_ok X G (W.fact 20)
theorem Wl.g__law_one (W : Wl K mg) : mg "_law_one" = some (.ref (ga K "_law_one")) := let ⟨_, _, X, G, _⟩ := W.ex; glo_ok X G (W.fact 21)
theorem Wl.g__law_names (W : Wl K mg) : mg "_law_names" = some (.ref (ga K "_law_names")) := let ⟨_, _, X, G, _⟩ := W.ex; glo_ok X G (W.fact 22)
theorem Wl.g__law_condition (W : Wl K mg) : mg "_law_condition" = some (.ref (ga K "_law_condition")) := let ⟨_, _, X, G, _⟩ := W.ex; glo_ok X G (W.fact 23)
theorem Wl.g__law_all_answers (W : Wl K mg) : mg "_law_all_answers" = some (.ref (ga K "_law_all_answers")) := let ⟨_, _, X, G, _⟩ := W.ex; glo_ok X G (W.fact 24)
theorem Wl.g__law_told (W : Wl K mg) : mg "_law_told" = some (.ref (ga K "_law_told")) := let ⟨_, _, X, G, _⟩ := W.ex; glo_ok X G (W.fact 25)
theorem Wl.g__law_is_name (W : Wl K mg) : mg "_law_is_name" = some (.ref (ga K "_law_is_name")) := let ⟨_, _, X, G, _⟩ := W.ex; glo_ok X G (W.fact 26)
theorem Wl.g__law_are_names (W : Wl K mg) : mg "_law_are_names" = some (.ref (ga K "_law_are_names")) := let ⟨_, _, X, G, _⟩ := W.ex; glo_ok X G (W.fact 27)
theorem Wl.g__law_condition_text (W : Wl K mg) : mg "_law_condition_text" = some (.ref (ga K "_law_condition_text")) := let ⟨_, _, X, G, _⟩ := W.ex; glo_ok X G (W.fact 28)
theorem Wl.g__law_answers_text (W : Wl K mg) : mg "_law_answers_text" = some (.ref (ga K "_law_answers_text")) := let ⟨_, _, X, G, _⟩ := W.ex; glo_ok X G (W.fact 29)
theorem Wl.g__law_fact_text (W : Wl K mg) : mg "_law_fact_text" = some (.ref (ga K "_law_fact_text")) := let ⟨_, _, X, G, _⟩ := W.ex; glo_ok X G (W.fact 30)
theorem Wl.g__law_trace_text (W : Wl K mg) : mg "_law_trace_text" = some (.ref (ga K "_law_trace_text")) := let ⟨_, _, X, G, _⟩ := W.ex; glo_ok X G (W.fact 31)
theorem Wl.g__law_address_text (W : Wl K mg) : mg "_law_address_text" = some (.ref (ga K "_law_address_text")) := let ⟨_, _, X, G, _⟩ := W.ex; glo_ok X G (W.fact 32)
theorem Wl.g__law_some_trace (W : Wl K mg) : mg "_law_some_trace" = some (.ref (ga K "_law_some_trace")) := let ⟨_, _, X, G, _⟩ := W.ex; glo_ok X G (W.fact 33)
theorem Wl.g__law_name_at (W : Wl K mg) : mg "_law_name_at" = some (.ref (ga K "_law_name_at")) := let ⟨_, _, X, G, _⟩ := W.ex; glo_ok X G (W.fact 34)
theorem Wl.g__law_number_at (W : Wl K mg) : mg "_law_number_at" = some (.ref (ga K "_law_number_at")) := let ⟨_, _, X, G, _⟩ := W.ex; glo_ok X G (W.fact 35)
theorem Wl.g__law_conditions_at (W : Wl K mg) : mg "_law_conditions_at" = some (.ref (ga K "_law_conditions_at")) := let ⟨_, _, X, G, _⟩ := W.ex; glo_ok X G (W.fact 36)
theorem Wl.g__law_condition_at (W : Wl K mg) : mg "_law_condition_at" = some (.ref (ga K "_law_condition_at")) := let ⟨_, _, X, G, _⟩ := W.ex; glo_ok X G (W.fact 37)
theorem Wl.g__law_whole (W : Wl K mg) : mg "_law_whole" = some (.ref (ga K "_law_whole")) := let ⟨_, _, X, G, _⟩ := W.ex; glo_ok X G (W.fact 38)
theorem Wl.g__law_spoilt (W : Wl K mg) : mg "_law_spoilt" = some (.ref (ga K "_law_spoilt")) := let ⟨_, _, X, G, _⟩ := W.ex; glo_ok X G (W.fact 39)
theorem Wl.g__law_read (W : Wl K mg) : mg "_law_read" = some (.ref (ga K "_law_read")) := let ⟨_, _, X, G, _⟩ := W.ex; glo_ok X G (W.fact 40)
theorem Wl.g__law_answers_read (W : Wl K mg) : mg "_law_answers_read" = some (.ref (ga K "_law_answers_read")) := let ⟨_, _, X, G, _⟩ := W.ex; glo_ok X G (W.fact 41)
theorem Wl.g__law_fact_read (W : Wl K mg) : mg "_law_fact_read" = some (.ref (ga K "_law_fact_read")) := let ⟨_, _, X, G, _⟩ := W.ex; glo_ok X G (W.fact 42)
theorem Wl.g__law_trace_read (W : Wl K mg) : mg "_law_trace_read" = some (.ref (ga K "_law_trace_read")) := let ⟨_, _, X, G, _⟩ := W.ex; glo_ok X G (W.fact 43)
theorem Wl.g__law_address_read (W : Wl K mg) : mg "_law_address_read" = some (.ref (ga K "_law_address_read")) := let ⟨_, _, X, G, _⟩ := W.ex; glo_ok X G (W.fact 44)
theorem Wl.g__law_text (W : Wl K mg) : mg "_law_text" = some (.ref (ga K "_law_text")) := let ⟨_, _, X, G, _⟩ := W.ex; glo_ok X G (W.fact 45)
theorem Wl.g_law (W : Wl K mg) : mg "law" = some (.ref (ga K "law")) := let ⟨_, _, X, G, _⟩ := W.ex; glo_ok X G (W.fact 46)
theorem Wl.f_ValueError (W : Wl K mg) : mg "ValueError" = none := let ⟨_, _, X, G, _⟩ := W.ex; free_ok X G (W.fact 47)
theorem Wl.f_abs (W : Wl K mg) : mg "abs" = none := let ⟨_, _, X, G, _⟩ := W.ex; free_ok X G (W.fact 48)
theorem Wl.f_all (W : Wl K mg) : mg "all" = none := let ⟨_, _, X, G, _⟩ := W.ex; free_ok X G (W.fact 49)
theorem Wl.f_int (W : Wl K mg) : mg "int" = none := let ⟨_, _, X, G, _⟩ := W.ex; free_ok X G (W.fact 50)
theorem Wl.f_isinstance (W : Wl K mg) : mg "isinstance" = none := let ⟨_, _, X, G, _⟩ := W.ex; free_ok X G (W.fact 51)
theorem Wl.f_len (W : Wl K mg) : mg "len" = none := let ⟨_, _, X, G, _⟩ := W.ex; free_ok X G (W.fact 52)
theorem Wl.f_list (W : Wl K mg) : mg "list" = none := let ⟨_, _, X, G, _⟩ := W.ex; free_ok X G (W.fact 53)
theorem Wl.f_range (W : Wl K mg) : mg "range" = none := let ⟨_, _, X, G, _⟩ := W.ex; free_ok X G (W.fact 54)
theorem Wl.f_repr (W : Wl K mg) : mg "repr" = none := let ⟨_, _, X, G, _⟩ := W.ex; free_ok X G (W.fact 55)
theorem Wl.f_set (W : Wl K mg) : mg "set" = none := let ⟨_, _, X, G, _⟩ := W.ex; free_ok X G (W.fact 56)
theorem Wl.f_sorted (W : Wl K mg) : mg "sorted" = none := let ⟨_, _, X, G, _⟩ := W.ex; free_ok X G (W.fact 57)
theorem Wl.f_str (W : Wl K mg) : mg "str" = none := let ⟨_, _, X, G, _⟩ := W.ex; free_ok X G (W.fact 58)
theorem Wl.f_super (W : Wl K mg) : mg "super" = none := let ⟨_, _, X, G, _⟩ := W.ex; free_ok X G (W.fact 59)
theorem Wl.f_tuple (W : Wl K mg) : mg "tuple" = none := let ⟨_, _, X, G, _⟩ := W.ex; free_ok X G (W.fact 60)
theorem Wl.f_zip (W : Wl K mg) : mg "zip" = none := let ⟨_, _, X, G, _⟩ := W.ex; free_ok X G (W.fact 61)
theorem Wl.c_LETTERS (W : Wl K mg) : ∃ t, mg "LETTERS" = some (.str "abcdefghijklmnopqrstuvwxyz" t) := let ⟨_, _, X, G, _⟩ := W.ex; str_ok X G (W.fact 62)
theorem Wl.c_LONGEST_NAME (W : Wl K mg) : ∃ t, mg "LONGEST_NAME" = some (.int 8 t) := let ⟨_, _, X, G, _⟩ := W.ex; int_ok X G (W.fact 63)
theorem Wl.c_DIGITS (W : Wl K mg) : ∃ t, mg "DIGITS" = some (.str "0123456789" t) := let ⟨_, _, X, G, _⟩ := W.ex; str_ok X G (W.fact 64)
theorem Wl.c_MOST_DIGITS (W : Wl K mg) : ∃ t, mg "MOST_DIGITS" = some (.int 9 t) := let ⟨_, _, X, G, _⟩ := W.ex; int_ok X G (W.fact 65)
theorem Wl.k_Reader (W : Wl K mg) : Cls K (ga K "Reader") := cls_ok (W.fact 66)
theorem Wl.mk_Reader (W : Wl K mg) : Mk K (ga K "Reader") (ma K (ga K "Reader") "__init__") := mkr_ok (W.fact 67)
theorem Wl.n_Reader_its_place (W : Wl K mg) : NoAttr K (ga K "Reader") "its_place" := noat_ok (W.fact 68)
theorem Wl.n_Reader_its_text (W : Wl K mg) : NoAttr K (ga K "Reader") "its_text" := noat_ok (W.fact 69)
theorem Wl.m_Reader_takes (W : Wl K mg) : Meth K (ga K "Reader") "takes" (ma K (ga K "Reader") "takes") := meth_ok (W.fact 70)
theorem Wl.m_Reader_needs (W : Wl K mg) : Meth K (ga K "Reader") "needs" (ma K (ga K "Reader") "needs") := meth_ok (W.fact 71)
theorem Wl.m_Reader_signs (W : Wl K mg) : Meth K (ga K "Reader") "signs" (ma K (ga K "Reader") "signs") := meth_ok (W.fact 72)
theorem Wl.m_Reader_word_here (W : Wl K mg) : Meth K (ga K "Reader") "word_here" (ma K (ga K "Reader") "word_here") := meth_ok (W.fact 73)
theorem Wl.m_Reader_several (W : Wl K mg) : Meth K (ga K "Reader") "several" (ma K (ga K "Reader") "several") := meth_ok (W.fact 74)
theorem Wl.m_Reader_condition_here (W : Wl K mg) : Meth K (ga K "Reader") "condition_here" (ma K (ga K "Reader") "condition_here") := meth_ok (W.fact 75)
theorem Wl.m_Reader_fact_here (W : Wl K mg) : Meth K (ga K "Reader") "fact_here" (ma K (ga K "Reader") "fact_here") := meth_ok (W.fact 76)
theorem Wl.x_NoText_AloneError (W : Wl K mg) : PySem.W.exmOne K (.ref (ga K "NoText")) (.ref (ga K "AloneError")) = some true := exm_ok (W.fact 77)
theorem Wl.D_is_name (W : Wl K mg) : ∃ fd, FunD K d_is_name.name d_is_name.qual d_is_name.params d_is_name.body d_is_name.scope [] [] (fAd K d_is_name.at_) fd := let ⟨_, _, _, _, c⟩ := W.ex; c.d.def_ 0 (d := d_is_name)
theorem Wl.D_are_names (W : Wl K mg) : ∃ fd, FunD K d_are_names.name d_are_names.qual d_are_names.params d_are_names.body d_are_names.scope [] [] (fAd K d_are_names.at_) fd := let ⟨_, _, _, _, c⟩ := W.ex; c.d.def_ 1 (d := d_are_names)
theorem Wl.D_show_answers (W : Wl K mg) : ∃ fd, FunD K d_show_answers.name d_show_answers.qual d_show_answers.params d_show_answers.body d_show_answers.scope [] [] (fAd K d_show_answers.at_) fd := let ⟨_, _, _, _, c⟩ := W.ex; c.d.def_ 2 (d := d_show_answers)
theorem Wl.D_show_condition (W : Wl K mg) : ∃ fd, FunD K d_show_condition.name d_show_condition.qual d_show_condition.params d_show_condition.body d_show_condition.scope [] [] (fAd K d_show_condition.at_) fd := let ⟨_, _, _, _, c⟩ := W.ex; c.d.def_ 3 (d := d_show_condition)
theorem Wl.D_show_fact (W : Wl K mg) : ∃ fd, FunD K d_show_fact.name d_show_fact.qual d_show_fact.params d_show_fact.body d_show_fact.scope [] [] (fAd K d_show_fact.at_) fd := let ⟨_, _, _, _, c⟩ := W.ex; c.d.def_ 4 (d := d_show_fact)
theorem Wl.D_show_trace (W : Wl K mg) : ∃ fd, FunD K d_show_trace.name d_show_trace.qual d_show_trace.params d_show_trace.body d_show_trace.scope [] [] (fAd K d_show_trace.at_) fd := let ⟨_, _, _, _, c⟩ := W.ex; c.d.def_ 5 (d := d_show_trace)
theorem Wl.D_show_address (W : Wl K mg) : ∃ fd, FunD K d_show_address.name d_show_address.qual d_show_address.params d_show_address.body d_show_address.scope [] [] (fAd K d_show_address.at_) fd := let ⟨_, _, _, _, c⟩ := W.ex; c.d.def_ 6 (d := d_show_address)
theorem Wl.D_need_text (W : Wl K mg) : ∃ fd, FunD K d_need_text.name d_need_text.qual d_need_text.params d_need_text.body d_need_text.scope [] [] (fAd K d_need_text.at_) fd := let ⟨_, _, _, _, c⟩ := W.ex; c.d.def_ 7 (d := d_need_text)
theorem Wl.D_need (W : Wl K mg) : ∃ fd, FunD K d_need.name d_need.qual d_need.params d_need.body d_need.scope [] [] (fAd K d_need.at_) fd := let ⟨_, _, _, _, c⟩ := W.ex; c.d.def_ 8 (d := d_need)
theorem Wl.D_number_of (W : Wl K mg) : ∃ fd, FunD K d_number_of.name d_number_of.qual d_number_of.params d_number_of.body d_number_of.scope [] [] (fAd K d_number_of.at_) fd := let ⟨_, _, _, _, c⟩ := W.ex; c.d.def_ 9 (d := d_number_of)
theorem Wl.D_read_answers (W : Wl K mg) : ∃ fd, FunD K d_read_answers.name d_read_answers.qual d_read_answers.params d_read_answers.body d_read_answers.scope [] [] (fAd K d_read_answers.at_) fd := let ⟨_, _, _, _, c⟩ := W.ex; c.d.def_ 10 (d := d_read_answers)
theorem Wl.D_Reader_init (W : Wl K mg) : ∃ fd, FunD K d_Reader_init.name d_Reader_init.qual d_Reader_init.params d_Reader_init.body d_Reader_init.scope [] [] (fAd K d_Reader_init.at_) fd := let ⟨_, _, _, _, c⟩ := W.ex; c.d.def_ 11 (d := d_Reader_init)
theorem Wl.D_Reader_takes (W : Wl K mg) : ∃ fd, FunD K d_Reader_takes.name d_Reader_takes.qual d_Reader_takes.params d_Reader_takes.body d_Reader_takes.scope [] [] (fAd K d_Reader_takes.at_) fd := let ⟨_, _, _, _, c⟩ := W.ex; c.d.def_ 12 (d := d_Reader_takes)
theorem Wl.D_Reader_needs (W : Wl K mg) : ∃ fd, FunD K d_Reader_needs.name d_Reader_needs.qual d_Reader_needs.params d_Reader_needs.body d_Reader_needs.scope [] [] (fAd K d_Reader_needs.at_) fd := let ⟨_, _, _, _, c⟩ := W.ex; c.d.def_ 13 (d := d_Reader_needs)
theorem Wl.D_Reader_signs (W : Wl K mg) : ∃ fd, FunD K d_Reader_signs.name d_Reader_signs.qual d_Reader_signs.params d_Reader_signs.body d_Reader_signs.scope [] [] (fAd K d_Reader_signs.at_) fd := let ⟨_, _, _, _, c⟩ := W.ex; c.d.def_ 14 (d := d_Reader_signs)
theorem Wl.D_Reader_word_here (W : Wl K mg) : ∃ fd, FunD K d_Reader_word_here.name d_Reader_word_here.qual d_Reader_word_here.params d_Reader_word_here.body d_Reader_word_here.scope [] [] (fAd K d_Reader_word_here.at_) fd := let ⟨_, _, _, _, c⟩ := W.ex; c.d.def_ 15 (d := d_Reader_word_here)
theorem Wl.D_Reader_several (W : Wl K mg) : ∃ fd, FunD K d_Reader_several.name d_Reader_several.qual d_Reader_several.params d_Reader_several.body d_Reader_several.scope [] [] (fAd K d_Reader_several.at_) fd := let ⟨_, _, _, _, c⟩ := W.ex; c.d.def_ 16 (d := d_Reader_several)
theorem Wl.D_Reader_condition_here (W : Wl K mg) : ∃ fd, FunD K d_Reader_condition_here.name d_Reader_condition_here.qual d_Reader_condition_here.params d_Reader_condition_here.body d_Reader_condition_here.scope [] [] (fAd K d_Reader_condition_here.at_) fd := let ⟨_, _, _, _, c⟩ := W.ex; c.d.def_ 17 (d := d_Reader_condition_here)
theorem Wl.D_Reader_fact_here (W : Wl K mg) : ∃ fd, FunD K d_Reader_fact_here.name d_Reader_fact_here.qual d_Reader_fact_here.params d_Reader_fact_here.body d_Reader_fact_here.scope [] [] (fAd K d_Reader_fact_here.at_) fd := let ⟨_, _, _, _, c⟩ := W.ex; c.d.def_ 18 (d := d_Reader_fact_here)
theorem Wl.D_read_fact (W : Wl K mg) : ∃ fd, FunD K d_read_fact.name d_read_fact.qual d_read_fact.params d_read_fact.body d_read_fact.scope [] [] (fAd K d_read_fact.at_) fd := let ⟨_, _, _, _, c⟩ := W.ex; c.d.def_ 19 (d := d_read_fact)
theorem Wl.D_read_trace (W : Wl K mg) : ∃ fd, FunD K d_read_trace.name d_read_trace.qual d_read_trace.params d_read_trace.body d_read_trace.scope [] [] (fAd K d_read_trace.at_) fd := let ⟨_, _, _, _, c⟩ := W.ex; c.d.def_ 20 (d := d_read_trace)
theorem Wl.D_read_address (W : Wl K mg) : ∃ fd, FunD K d_read_address.name d_read_address.qual d_read_address.params d_read_address.body d_read_address.scope [] [] (fAd K d_read_address.at_) fd := let ⟨_, _, _, _, c⟩ := W.ex; c.d.def_ 21 (d := d_read_address)
theorem Wl.D_law_bag (W : Wl K mg) : ∃ fd, FunD K d_law_bag.name d_law_bag.qual d_law_bag.params d_law_bag.body d_law_bag.scope [] [] (fAd K d_law_bag.at_) fd := let ⟨_, _, _, _, c⟩ := W.ex; c.d.def_ 22 (d := d_law_bag)
theorem Wl.D_law_take (W : Wl K mg) : ∃ fd, FunD K d_law_take.name d_law_take.qual d_law_take.params d_law_take.body d_law_take.scope [] [] (fAd K d_law_take.at_) fd := let ⟨_, _, _, _, c⟩ := W.ex; c.d.def_ 23 (d := d_law_take)
theorem Wl.D_law_alike (W : Wl K mg) : ∃ fd, FunD K d_law_alike.name d_law_alike.qual d_law_alike.params d_law_alike.body d_law_alike.scope [] [] (fAd K d_law_alike.at_) fd := let ⟨_, _, _, _, c⟩ := W.ex; c.d.def_ 24 (d := d_law_alike)
theorem Wl.D_law_one (W : Wl K mg) : ∃ fd, FunD K d_law_one.name d_law_one.qual d_law_one.params d_law_one.body d_law_one.scope [] [] (fAd K d_law_one.at_) fd := let ⟨_, _, _, _, c⟩ := W.ex; c.d.def_ 25 (d := d_law_one)
theorem Wl.D_law_names (W : Wl K mg) : ∃ fd, FunD K d_law_names.name d_law_names.qual d_law_names.params d_law_names.body d_law_names.scope [] [] (fAd K d_law_names.at_) fd := let ⟨_, _, _, _, c⟩ := W.ex; c.d.def_ 26 (d := d_law_names)
theorem Wl.D_law_condition (W : Wl K mg) : ∃ fd, FunD K d_law_condition.name d_law_condition.qual d_law_condition.params d_law_condition.body d_law_condition.scope [] [] (fAd K d_law_condition.at_) fd := let ⟨_, _, _, _, c⟩ := W.ex; c.d.def_ 27 (d := d_law_condition)
theorem Wl.D_law_all_answers (W : Wl K mg) : ∃ fd, FunD K d_law_all_answers.name d_law_all_answers.qual d_law_all_answers.params d_law_all_answers.body d_law_all_answers.scope [] [] (fAd K d_law_all_answers.at_) fd := let ⟨_, _, _, _, c⟩ := W.ex; c.d.def_ 28 (d := d_law_all_answers)
theorem Wl.D_law_told (W : Wl K mg) : ∃ fd, FunD K d_law_told.name d_law_told.qual d_law_told.params d_law_told.body d_law_told.scope [] [] (fAd K d_law_told.at_) fd := let ⟨_, _, _, _, c⟩ := W.ex; c.d.def_ 29 (d := d_law_told)
theorem Wl.D_law_is_name (W : Wl K mg) : ∃ fd, FunD K d_law_is_name.name d_law_is_name.qual d_law_is_name.params d_law_is_name.body d_law_is_name.scope [] [] (fAd K d_law_is_name.at_) fd := let ⟨_, _, _, _, c⟩ := W.ex; c.d.def_ 30 (d := d_law_is_name)
theorem Wl.D_law_are_names (W : Wl K mg) : ∃ fd, FunD K d_law_are_names.name d_law_are_names.qual d_law_are_names.params d_law_are_names.body d_law_are_names.scope [] [] (fAd K d_law_are_names.at_) fd := let ⟨_, _, _, _, c⟩ := W.ex; c.d.def_ 31 (d := d_law_are_names)
theorem Wl.D_law_condition_text (W : Wl K mg) : ∃ fd, FunD K d_law_condition_text.name d_law_condition_text.qual d_law_condition_text.params d_law_condition_text.body d_law_condition_text.scope [] [] (fAd K d_law_condition_text.at_) fd := let ⟨_, _, _, _, c⟩ := W.ex; c.d.def_ 32 (d := d_law_condition_text)
theorem Wl.D_law_answers_text (W : Wl K mg) : ∃ fd, FunD K d_law_answers_text.name d_law_answers_text.qual d_law_answers_text.params d_law_answers_text.body d_law_answers_text.scope [] [] (fAd K d_law_answers_text.at_) fd := let ⟨_, _, _, _, c⟩ := W.ex; c.d.def_ 33 (d := d_law_answers_text)
theorem Wl.D_law_fact_text (W : Wl K mg) : ∃ fd, FunD K d_law_fact_text.name d_law_fact_text.qual d_law_fact_text.params d_law_fact_text.body d_law_fact_text.scope [] [] (fAd K d_law_fact_text.at_) fd := let ⟨_, _, _, _, c⟩ := W.ex; c.d.def_ 34 (d := d_law_fact_text)
theorem Wl.D_law_trace_text (W : Wl K mg) : ∃ fd, FunD K d_law_trace_text.name d_law_trace_text.qual d_law_trace_text.params d_law_trace_text.body d_law_trace_text.scope [] [] (fAd K d_law_trace_text.at_) fd := let ⟨_, _, _, _, c⟩ := W.ex; c.d.def_ 35 (d := d_law_trace_text)
theorem Wl.D_law_address_text (W : Wl K mg) : ∃ fd, FunD K d_law_address_text.name d_law_address_text.qual d_law_address_text.params d_law_address_text.body d_law_address_text.scope [] [] (fAd K d_law_address_text.at_) fd := let ⟨_, _, _, _, c⟩ := W.ex; c.d.def_ 36 (d := d_law_address_text)
theorem Wl.D_law_some_trace (W : Wl K mg) : ∃ fd, FunD K d_law_some_trace.name d_law_some_trace.qual d_law_some_trace.params d_law_some_trace.body d_law_some_trace.scope [] [] (fAd K d_law_some_trace.at_) fd := let ⟨_, _, _, _, c⟩ := W.ex; c.d.def_ 37 (d := d_law_some_trace)
theorem Wl.D_law_name_at (W : Wl K mg) : ∃ fd, FunD K d_law_name_at.name d_law_name_at.qual d_law_name_at.params d_law_name_at.body d_law_name_at.scope [] [] (fAd K d_law_name_at.at_) fd := let ⟨_, _, _, _, c⟩ := W.ex; c.d.def_ 38 (d := d_law_name_at)
theorem Wl.D_law_number_at (W : Wl K mg) : ∃ fd, FunD K d_law_number_at.name d_law_number_at.qual d_law_number_at.params d_law_number_at.body d_law_number_at.scope [] [] (fAd K d_law_number_at.at_) fd := let ⟨_, _, _, _, c⟩ := W.ex; c.d.def_ 39 (d := d_law_number_at)
theorem Wl.D_law_conditions_at (W : Wl K mg) : ∃ fd, FunD K d_law_conditions_at.name d_law_conditions_at.qual d_law_conditions_at.params d_law_conditions_at.body d_law_conditions_at.scope [] [] (fAd K d_law_conditions_at.at_) fd := let ⟨_, _, _, _, c⟩ := W.ex; c.d.def_ 40 (d := d_law_conditions_at)
theorem Wl.D_law_condition_at (W : Wl K mg) : ∃ fd, FunD K d_law_condition_at.name d_law_condition_at.qual d_law_condition_at.params d_law_condition_at.body d_law_condition_at.scope [] [] (fAd K d_law_condition_at.at_) fd := let ⟨_, _, _, _, c⟩ := W.ex; c.d.def_ 41 (d := d_law_condition_at)
theorem Wl.D_law_whole (W : Wl K mg) : ∃ fd, FunD K d_law_whole.name d_law_whole.qual d_law_whole.params d_law_whole.body d_law_whole.scope [] [] (fAd K d_law_whole.at_) fd := let ⟨_, _, _, _, c⟩ := W.ex; c.d.def_ 42 (d := d_law_whole)
theorem Wl.D_law_spoilt (W : Wl K mg) : ∃ fd, FunD K d_law_spoilt.name d_law_spoilt.qual d_law_spoilt.params d_law_spoilt.body d_law_spoilt.scope [] [] (fAd K d_law_spoilt.at_) fd := let ⟨_, _, _, _, c⟩ := W.ex; c.d.def_ 43 (d := d_law_spoilt)
theorem Wl.D_law_read (W : Wl K mg) : ∃ fd, FunD K d_law_read.name d_law_read.qual d_law_read.params d_law_read.body d_law_read.scope [] [] (fAd K d_law_read.at_) fd := let ⟨_, _, _, _, c⟩ := W.ex; c.d.def_ 44 (d := d_law_read)
theorem Wl.D_law_answers_read (W : Wl K mg) : ∃ fd, FunD K d_law_answers_read.name d_law_answers_read.qual d_law_answers_read.params d_law_answers_read.body d_law_answers_read.scope [] [] (fAd K d_law_answers_read.at_) fd := let ⟨_, _, _, _, c⟩ := W.ex; c.d.def_ 45 (d := d_law_answers_read)
theorem Wl.D_law_fact_read (W : Wl K mg) : ∃ fd, FunD K d_law_fact_read.name d_law_fact_read.qual d_law_fact_read.params d_law_fact_read.body d_law_fact_read.scope [] [] (fAd K d_law_fact_read.at_) fd := let ⟨_, _, _, _, c⟩ := W.ex; c.d.def_ 46 (d := d_law_fact_read)
theorem Wl.D_law_trace_read (W : Wl K mg) : ∃ fd, FunD K d_law_trace_read.name d_law_trace_read.qual d_law_trace_read.params d_law_trace_read.body d_law_trace_read.scope [] [] (fAd K d_law_trace_read.at_) fd := let ⟨_, _, _, _, c⟩ := W.ex; c.d.def_ 47 (d := d_law_trace_read)
theorem Wl.D_law_address_read (W : Wl K mg) : ∃ fd, FunD K d_law_address_read.name d_law_address_read.qual d_law_address_read.params d_law_address_read.body d_law_address_read.scope [] [] (fAd K d_law_address_read.at_) fd := let ⟨_, _, _, _, c⟩ := W.ex; c.d.def_ 48 (d := d_law_address_read)
theorem Wl.D_law_text (W : Wl K mg) : ∃ fd, FunD K d_law_text.name d_law_text.qual d_law_text.params d_law_text.body d_law_text.scope [] [] (fAd K d_law_text.at_) fd := let ⟨_, _, _, _, c⟩ := W.ex; c.d.def_ 49 (d := d_law_text)
theorem Wl.D_law (W : Wl K mg) : ∃ fd, FunD K d_law.name d_law.qual d_law.params d_law.body d_law.scope [] [] (fAd K d_law.at_) fd := let ⟨_, _, _, _, c⟩ := W.ex; c.d.def_ 50 (d := d_law)
theorem Wl.na_x_NoText (W : Wl K mg) : XR.NoArg K mg "/claim/cut.py" (ga K x_NoText.cls) (HY.iAd K x_NoText.cls) "__init__" x_NoText.qual x_NoText.params x_NoText.body x_NoText.scope := let ⟨_, _, _, _, c⟩ := W.ex; c.noarg W.f_super (d := x_NoText) (by simp [xs])
theorem Wl.cat_x_NoText (W : Wl K mg) : ExcC K (ga K x_NoText.cls) := let ⟨_, _, _, _, c⟩ := W.ex; c.cat (d := x_NoText) (by simp [xs])
theorem Wl.kit (W : Wl K mg) {p : Str × Str × Bool} (hp : p ∈ ks) : PySem.W.kitOne K (.ref (ga K p.1)) (.ref (ga K p.2.1)) = some p.2.2 := let ⟨_, _, _, _, c⟩ := W.ex; c.kit hp
end
end K92
end

section
set_option Elab.async false
set_option linter.all false
set_option maxRecDepth 100000
set_option maxHeartbeats 4000000
/-! Rules of our own: repr of data, xs[i] += e, a lambda handed to a method that may raise. -/
namespace XP
open PySem PySem.Spec PyProof.Rows L2
section
variable {X : Cx}
/-- repr of a list or a tuple that holds data -/
def rRepr (K : PySem.W.Frag) (units : Nat) : List V → Hp → VK → Prop := fun xs H Q => ∃ (a : Addr) (d : PyData), xs = [.ref a] ∧ Dp K H (.ref a) d ∧ SeqAt.shaped d = true ∧ d.showable = true ∧ units + (d.depth + 1) < cLine ∧ d.shown.length ≤ sizeLine ∧ Q (.str d.shown) H
theorem call_repr (hg : X.A.guards = some []) : CallR X (.builtin "repr") (rRepr X.K X.A.units) := by
  intro pins s σ H xs us Q I r h
  obtain ⟨a, d, rfl, hd, sh, sw, hu, hz, q⟩ := h
  obtain ⟨u, rfl, ru⟩ := vals1 r
  obtain rfl : u = Value.ref a := ru
  obtain ⟨as, rd⟩ := Dp.reads I d (.ref a) (.ref a) hd rfl
  have nd : d.hasDict = false := PyData.hasDict_of_canLay d (SeqAt.canLay_of_shaped sh)
  exact repr_of_reads' rd sw (PyData.noDict_hsm nd) hg hu (fun b o e => e) (fun h' u tk k => ⟨.str d.shown, H, I.kept k, ⟨_, rfl⟩, q⟩) hz
theorem get_list : PGet X (rIxL X.K) := by
  intro pins s σ H x y v u Q I rx ry h
  obtain ⟨p, xs, i, z, rfl, rfl, hq, he, q⟩ := h
  cases rx
  obtain ⟨t, rfl⟩ := ry
  obtain ⟨its, r, pl, hz⟩ := I.list hq
  obtain ⟨j, h1, h2, h3, h4, h5⟩ := atI_get he
  obtain ⟨w, ew, rw'⟩ := r.get h2
  have hl := r.length
  have hn := line63
  have fin : EP X pins σ Q w s := ⟨z, H, I, rw', q⟩
  by_cases h0 : 0 ≤ i
  · have hj : i.toNat = j := by
      rw [seqIndex_of h0 h5] at h1
      exact Option.some.inj h1
    exact wpAny_getItem_list pl.isList h0 (by omega) (by rw [hj]; simpa using ew) fin
  · have hj : (i + (its.toArray.size : Int)).toNat = j := by
      rw [seqIndex_neg (by omega) h4] at h1
      rw [List.size_toArray, ← hl]
      exact Option.some.inj h1
    exact wpAny_getItem_list_neg pl.isList (by omega) (by rw [List.size_toArray] <;> omega) (by omega) (by rw [hj]; simpa using ew) fin
/-- == and != of data, by their depth -/
def rEqE (K : PySem.W.Frag) (units : Nat) : R2 := fun x y H Q => ∃ d e, Dp K H x d ∧ Dp K H y e ∧ d.canLay0 = true ∧ e.canLay0 = true ∧ units + min d.depth e.depth < cLine ∧ Q (.bl (PyData.eqv d e)) H
def rNeE (K : PySem.W.Frag) (units : Nat) : R2 := fun x y H Q => ∃ d e, Dp K H x d ∧ Dp K H y e ∧ d.canLay0 = true ∧ e.canLay0 = true ∧ units + min d.depth e.depth < cLine ∧ Q (.bl (!PyData.eqv d e)) H
theorem op_eqE : OpR X (compareOp .Eq) (rEqE X.K X.A.units) := by
  intro pins s σ H x y v u Q I rx ry h
  obtain ⟨d, e, hd, he, sd, se, hu, q⟩ := h
  obtain ⟨as, r1⟩ := Dp.reads I d x v hd rx
  obtain ⟨bs, r2⟩ := Dp.reads I e y u he ry
  exact SeqAt.compareEq_reads r1 r2 sd se hu ⟨.bl _, H, I, rfl, q⟩
theorem op_neE : OpR X (compareOp .NotEq) (rNeE X.K X.A.units) := by
  intro pins s σ H x y v u Q I rx ry h
  obtain ⟨d, e, hd, he, sd, se, hu, q⟩ := h
  obtain ⟨as, r1⟩ := Dp.reads I d x v hd rx
  obtain ⟨bs, r2⟩ := Dp.reads I e y u he ry
  exact SeqAt.compareNe_reads r1 r2 sd se hu ⟨.bl _, H, I, rfl, q⟩
/-- x in t, t a tuple of data -/
def rInT (K : PySem.W.Frag) (units : Nat) : R2 := fun x y H Q => ∃ d ds, Dp K H x d ∧ Dp K H y (.tuple ds) ∧ d.canLay0 = true ∧ PyData.canLayAll0 ds = true ∧ units + 1 + min (PyData.depthAll ds) d.depth < cLine ∧ Q (.bl (ds.any fun z => PyData.eqv z d)) H
theorem op_inT : OpR X (compareOp .In) (rInT X.K X.A.units) := by
  intro pins s σ H x y v u Q I rx ry h
  obtain ⟨d, ds, hd, he, sd, se, hu, q⟩ := h
  obtain ⟨as, r1⟩ := Dp.reads I d x v hd rx
  obtain ⟨bs, r2⟩ := Dp.reads I (.tuple ds) y u he ry
  exact SeqAt.in_tuple_reads r2 r1 se sd hu ⟨.bl _, H, I, rfl, q⟩
/-- o[i] += e, o a list -/
theorem ps_augL {o i e : Expr} {to ti te : TE} {tpos pos : Pos} (ho : PE X o to) (hi : PE X i ti) (he : PE X e te) (ha : ∀ ov iv new, augStore i ov iv new = (do holding [new, ov, iv] (setItem ov iv new); release [new, ov, iv] []; pure .next) := by intros; rfl) :
    PS X (.AugAssign (.Subscript o i tpos) .Add e pos) (tAugS to ti te (rIxL X.K) (ipI fun i j => i + j) rSetL) := ps_augS ho hi get_list he ip_add set_list ha
end
end XP
namespace XP
open PySem PySem.Spec PyProof.Rows L2 LamX
/-- what a callee's context Z knows of the callable f in its slot i, which it calls a: tl is what the callable makes, by what is wanted of an exception -/
def ActS (Z : Cx) (a : Str) (i : Nat) (f c' : Addr) (q : Str) (tl : XK → Hp → VK → Prop) : Prop :=
  ∀ (W : WX) (pn : List (Addr × Obj)) (xe : Value → Shared → Prop) (E : XK) (p1 p2 : Pos), Takes (Z.tr pn xe) W → (∀ cls d σ' H', E cls d H' → W cls d σ' H') →
    PE (Z.tr pn xe) (.Call (.Name a p1) [] [] p2) (fun σZ HZ Q => σZ[i]? = some (some (.ref f)) ∧ HZ c' = some (CodeO c' q) ∧ tl E HZ Q)
/-- the callee's body, the callable its last argument -/
def GivesM (X : Cx) (CXg : CXT) (k : Nat) (Ng : List Str) (qg : Str) (sg : Scope) (g : Addr) (bg : List Stmt) (a : Str) (i : Nat) (q : Str) (TT : List V → XK → (XK → Hp → VK → Prop) → Hp → VK → Prop) : Prop :=
  ∀ (f c' : Addr) (cdg : Value) (s : Shared) (H : Hp) (vs : List V) (Q : VK) (Eg : XK) (tl : XK → Hp → VK → Prop), vs.length = i → Room k (X.A.deeper (envOfC qg sg s.heap.objs.size g cdg)) →
    ActS (cxOf CXg X.prog X.w X.K X.mg X.base Ng qg sg g cdg X.A X.stack s H Eg) a i f c' q tl → H c' = some (CodeO c' q) → TT vs Eg tl H Q →
    ∃ t, PSs (cxOf CXg X.prog X.w X.K X.mg X.base Ng qg sg g cdg X.A X.stack s H Eg) bg t ∧ t { nx := fun _ H' => Q .non H', rt := Q } (L2.start Ng (vs ++ [.ref f])) H
/-- o.m(e1, e2, lambda: body) -/
def tLamM (T : List (Addr × Str)) (C : Addr) (m : Str) (TT : List V → XK → (XK → Hp → VK → Prop) → Hp → VK → Prop) (E : XK) (ta t1 t2 : TE) (t : XK → TE) : TE := fun σ H Q => ta σ H fun x H1 => ∃ a dx fs, x = .ref a ∧ H1 a = some (.ins C dx fs) ∧ fs.lookup m = none ∧
  t1 σ H1 fun v1 H2 => t2 σ H2 fun v2 H3 => Tabs T H3 ∧ ∀ H4, ExtN H3 H4 → Tabs T H4 → TT [x, v1, v2] E (fun E' H' Q' => t E' σ H' Q') H4 Q
section
variable {X : Cx}
theorem pe_lammeth {CXg : CXT} {pl : Sem Bool} {T : List (Addr × Str)} {TT : List V → XK → (XK → Hp → VK → Prop) → Hp → VK → Prop} {x qg m a : Str} {C g c P : Addr} {k : Nat} {pg : Arguments} {bg : List Stmt} {sg : Scope} {fd : FuncData} {Ng ps : List Str}
    {params : Arguments} {body : Expr} {scope : Scope} {ta t1 t2 : TE} {t : XK → TE} {o e1 e2 : Expr} {lpos pos apos : Pos} {E : XK}
    (D : FunD X.K x qg pg bg sg [] [] g fd) (hb : L2.Binds X.K fd ps []) (hps : ps.length = 4) (cl : Cls X.K C) (hme : Meth X.K C m g) (Sg : FnScope Ng ps sg) (hNg : Ng[3]? = some a) (hva : Vis sg a)
    (hG : GivesM X CXg (k + 1) Ng qg sg g bg a 3 (X.env.qual ++ "<lambda>") TT)
    (TB : TabB X.base X.mg c P) (hcode : X.env.code = .ref c) (hmT : (P, X.env.qual ++ "<lambda>") ∈ T) (hu : ∀ p ∈ T, p.1 = P → p.2 = X.env.qual ++ "<lambda>") (hr : Room (k + 2) X.A) (hx : Passes CXg X E) (L : LamS X.env.scope scope) (hdef : defaultsOf params X.env = ([], []))
    (hbind : ∀ (q : Str) (cl : List (Str × Addr)) (pm cv ctv : Value), bindArgs (PySem.W.kla_fn "<lambda>" q params body scope cl pm cv ctv) ⟨[], []⟩ = pure [])
    (hbody : ∀ (A : Around) (outer : List Env) (s : Shared) (H : Hp) (E : XK) (f c' : Addr), Room k (A.deeper (lamEnv X scope s.heap.objs.size f c')) → PE (lamCx X A outer s H E scope f c') body (t E))
    (ho : PE X o ta) (h1 : PE X e1 t1) (h2 : PE X e2 t2)
    (hst : starEach [e1, e2, .Lambda params body scope lpos] X.env = [(false, eval e1 X.env), (false, eval e2 X.env), (false, eval (.Lambda params body scope lpos) X.env)] := by rfl)
    (hst0 : starEach [e1, e2, .Lambda params body scope lpos] X.env = (false, eval e1 X.env) :: starEach [e2, .Lambda params body scope lpos] X.env := by rfl)
    (hpl : (backTo pos (starEach [e2, .Lambda params body scope lpos] X.env)).any (·.1) = false := by rfl)
    (ht : eval (.Call (.Attribute o m apos) [e1, e2, .Lambda params body scope lpos] [] pos) X.env = (do
      let ov ← eval o X.env
      standAt apos.atName
      let (f, first) ← holding [ov] (getMethod ov m pl)
      callWith pos f first (backTo pos (starEach [e1, e2, .Lambda params body scope lpos] X.env)) (backToKw pos (keywordEach [] X.env))) := by rfl)
    (hd : (a == ("__debug__" : Str)) = false := by decide) (hcd : (a == ("__classdict__" : Str)) = false := by decide) :
    PE X (.Call (.Attribute o m apos) [e1, e2, .Lambda params body scope lpos] [] pos) (tLamM T C m TT E ta t1 t2 t) := by
  refine ⟨fun pins s σ H Q I h => ?_⟩
  refine PySem.W.methodCall_KW (pl := pl) (thn (ho.run pins s σ H _ I h) fun u s1 ⟨y, H1, I1, ry, b, dx, fs, ex, ea, l, q⟩ => ?_) ht
  subst ex
  obtain rfl : u = Value.ref b := ry
  refine getmeth_ok I1 ea cl hme l ?_
  refine PySem.W.callWith_K (first := [.ref b]) (h₀ := X.base) I.ok.mod.kin hme.kp ?_ hst0 hpl
  rw [hst]
  show wpAny _ _ (spliced [(false, eval e1 X.env), (false, eval e2 X.env), (false, eval (.Lambda params body scope lpos) X.env)]) _ _ s1
  refine Calls.spliced_cons (thn (h1.run pins s1 σ H1 _ I1 q) fun u1 s2 ⟨v1, H2, I2, r1, q2⟩ => ?_)
  refine Calls.spliced_cons (thn (h2.run pins s2 σ H2 _ I2 q2) fun u2 s3 ⟨v2, H3, I3, r2, q3⟩ => ?_)
  obtain ⟨hT, q3⟩ := q3
  refine Calls.spliced_cons (lam_make2 I3 TB hcode hmT hu hT hdef (L.has I3.ok) fun f c' pm' ctv H4 s4 I4 eN T4 hf hfn hfr hco => ?_)
  refine Calls.spliced_nil ⟨I4.kIn, ?_⟩
  obtain ⟨oc, od, dV, kV, doc, pm, an, cdv, ct, osl, rfl, lk, hcg, _, _⟩ := D.ex
  have rc : codeAny (model X.prog X.w) X.A (.call (.ref g) ⟨[.ref b, u1, u2, .ref f], []⟩) (CR CXg X.stack X.prog X.w H4 s4 Q E) s4 := by
    refine run_ofS (N := Ng) (ps := ps) (us := [.ref b, u1, u2, .ref f]) (vs := [.ref b, v1, v2, .ref f]) lk hcg Sg hr I4.env0 (hb s4 [.ref b, u1, u2, .ref f] I4.kIn (by rw [hps] <;> rfl)) (.cons rfl (.cons r1 (.cons r2 (.cons rfl .nil)))) hps.symm fun hr' => ?_
    exact hG f c' cdv s4 H4 [.ref b, v1, v2] Q E (fun E' H' Q' => t E' σ H' Q') rfl hr' (fun W pn xe E' p1 p2 tk hW => pe_act (i := 3) I4 L hf hfn hfr (hbind _ _ _ _ _) tk hW hr' (fun A outer s H hr2 => hbody A outer s H E' f c' hr2) hNg hva hd hcd) hco (q3 H4 eN T4)
  refine wpAny_call (codeAny_mono rc fun r s5 hq => ?_)
  cases r with
  | error e => exact hx pins σ H4 s4 e s5 I4 hq
  | ok fl =>
    cases fl with
    | ret u => exact I4.after hq
    | next => exact False.elim hq
    | brk => exact False.elim hq
    | cont => exact False.elim hq
end
end XP
end

section
set_option Elab.async false
set_option linter.all false
set_option maxRecDepth 100000
set_option maxHeartbeats 4000000
/-! Comprehensions by what they give; frames. -/
namespace HL
open PySem PySem.Spec PyProof.Rows L2 He
/-- what X allows to change may change -/
def Fr (X : Addr → HO → Prop) (H H' : Hp) : Prop := ∀ b o, H b = some o → X b o → H' b = some o
theorem Fr.refl (X : Addr → HO → Prop) (H : Hp) : Fr X H H := fun _ _ h _ => h
theorem Fr.trans {X : Addr → HO → Prop} {H H1 H2 : Hp} (a : Fr X H H1) (b : Fr X H1 H2) : Fr X H H2 := fun c o h x => b c o (a c o h x) x
theorem Fr.of {X : Addr → HO → Prop} {H H' : Hp} (e : Same H H') : Fr X H H' := fun b o h _ => e b o h
theorem Fr.same {X : Addr → HO → Prop} {H H1 H2 : Hp} (a : Fr X H H1) (e : Same H1 H2) : Fr X H H2 := a.trans (.of e)
theorem Fr.new {X : Addr → HO → Prop} {H H' : Hp} {p : Addr} {o : HO} (e : Fr X H H') (h : H' p = none) : Fr X H (upd H' p o) := e.trans (.of (same_new h))
/-- an object that was not there, or that may change, changes -/
theorem Fr.mut {X : Addr → HO → Prop} {H H' : Hp} {p : Addr} {o : HO} (e : Fr X H H') (h : ∀ u, H p = some u → ¬ X p u) : Fr X H (upd H' p o) := fun b u z x => by
  have n : b ≠ p := fun q => h u (q ▸ z) (q ▸ x)
  rw [upd_ne n]
  exact e b u z x
theorem Fr.mutN {X : Addr → HO → Prop} {H H' : Hp} {p : Addr} {o : HO} (e : Fr X H H') (h : H p = none) : Fr X H (upd H' p o) := e.mut fun u z => by rw [h] at z; cases z
abbrev XAll : Addr → HO → Prop := fun _ _ => True
theorem Fr.toSame {H H' : Hp} (e : Fr XAll H H') : Same H H' := fun b o h => e b o h trivial
abbrev XB (p : Addr) : Addr → HO → Prop := fun b _ => b ≠ p
theorem Fr.ofB {p : Addr} {H H' : Hp} (e : SameB p H H') : Fr (XB p) H H' := e
/-- tuples stay whatever moves -/
def TupK (H H' : Hp) : Prop := ∀ b xs, H b = some (.tup xs) → H' b = some (.tup xs)
theorem TupK.refl (H : Hp) : TupK H H := fun _ _ h => h
theorem TupK.trans {H H1 H2 : Hp} (a : TupK H H1) (b : TupK H1 H2) : TupK H H2 := fun c o h => b c o (a c o h)
theorem TupK.of {H H' : Hp} (e : Same H H') : TupK H H' := fun b xs h => e b _ h
theorem Fr.tup {X : Addr → HO → Prop} {H H' : Hp} (e : Fr X H H') (hX : ∀ b xs, H b = some (.tup xs) → X b (.tup xs)) : TupK H H' := fun b xs h => e b _ h (hX b xs h)
theorem SameB.tup {p : Addr} {H H' : Hp} {o : HO} (e : SameB p H H') (h : H p = some o) (n : ∀ xs, o ≠ .tup xs) : TupK H H' := fun b xs z => e b _ z fun q => by
  subst q
  rw [h] at z
  exact n xs (Option.some.inj z)
theorem TupK.new {H H' : Hp} {p : Addr} {o : HO} (e : TupK H H') (h : H' p = none) : TupK H (upd H' p o) := e.trans (.of (same_new h))
theorem TupK.mut {H H' : Hp} {p : Addr} {o u : HO} (e : TupK H H') (h : H' p = some u) (n : ∀ xs, u ≠ .tup xs) : TupK H (upd H' p o) := fun b xs z => by
  have z' := e b xs z
  rw [upd_ne (fun q => by
    subst q
    rw [h] at z'
    exact n xs (Option.some.inj z'))]
  exact z'
/-- two lists, item by item -/
def All2 {α β : Type} (R : α → β → Prop) : List α → List β → Prop
  | [], [] => True
  | a :: as, b :: bs => R a b ∧ All2 R as bs
  | _, _ => False
theorem All2.length {α β : Type} {R : α → β → Prop} : ∀ {as : List α} {bs : List β}, All2 R as bs → as.length = bs.length
  | [], [], _ => rfl
  | a :: as, b :: bs, h => by rw [List.length_cons, List.length_cons, All2.length h.2]
  | [], _ :: _, h => h.elim
  | _ :: _, [], h => h.elim
theorem All2.imp {α β : Type} {R R' : α → β → Prop} (f : ∀ a b, R a b → R' a b) : ∀ {as : List α} {bs : List β}, All2 R as bs → All2 R' as bs
  | [], [], _ => trivial
  | a :: as, b :: bs, h => ⟨f a b h.1, All2.imp f h.2⟩
  | [], _ :: _, h => h.elim
  | _ :: _, [], h => h.elim
theorem All2.snoc {α β : Type} {R : α → β → Prop} {a : α} {b : β} (x : R a b) : ∀ {as : List α} {bs : List β}, All2 R as bs → All2 R (as ++ [a]) (bs ++ [b])
  | [], [], _ => ⟨x, trivial⟩
  | c :: as, d :: bs, h => ⟨h.1, All2.snoc x h.2⟩
  | [], _ :: _, h => h.elim
  | _ :: _, [], h => h.elim
theorem All2.get {α β : Type} {R : α → β → Prop} : ∀ {as : List α} {bs : List β} {i : Nat} {a : α}, All2 R as bs → as[i]? = some a → ∃ b, bs[i]? = some b ∧ R a b
  | [], [], i, a, _, e => by simp at e
  | c :: as, d :: bs, 0, a, h, e => by
    have : c = a := by simpa using e
    subst this
    exact ⟨d, by simp, h.1⟩
  | c :: as, d :: bs, i + 1, a, h, e => by
    obtain ⟨b, e1, r⟩ := All2.get (i := i) h.2 (by simpa using e)
    exact ⟨b, by simpa using e1, r⟩
  | [], _ :: _, _, _, h, _ => h.elim
  | _ :: _, [], _, _, h, _ => h.elim
theorem All2.getR {α β : Type} {R : α → β → Prop} {as : List α} {bs : List β} {i : Nat} {b : β} (h : All2 R as bs) (e : bs[i]? = some b) : ∃ a, as[i]? = some a ∧ R a b := by
  have hl := h.length
  have hi := (List.getElem?_eq_some_iff.mp e).1
  have : i < as.length := by omega
  obtain ⟨b', e1, r⟩ := h.get (List.getElem?_eq_getElem this)
  rw [e] at e1
  cases e1
  exact ⟨_, List.getElem?_eq_getElem this, r⟩
theorem take_succ' {α : Type} {l : List α} {i : Nat} {x : α} (h : l[i]? = some x) : l.take (i + 1) = l.take i ++ [x] := by
  rw [List.take_add_one, h]
  rfl
theorem yes_in {te : TE} {σ : L2.St} {H : Hp} {B : Hp → Prop} {Q : VK} (h : te σ H Q) : tYes σ H fun b H3 => if b = true then te σ H3 Q else B H3 := by
  show (if true = true then te σ H Q else B H)
  rw [if_pos rfl]
  exact h
section
variable {K : PySem.W.Frag} {a : Addr} {xs out : List V} {te : TE} {i n : Nat} {σ : L2.St} {H1 : Hp} {D : Addr} {Qd : Hp → Prop}
theorem wipe1 {σ : L2.St} {i : Nat} {x : V} : wipe ((wipe σ [i]).set i (some x)) [i] = wipe σ [i] := by
  show ((((wipe σ []).set i none).set i (some x))).set i none = (wipe σ []).set i none
  rw [List.set_set, List.set_set]
theorem tseq {K : PySem.W.Frag} {H H' : Hp} {a : Addr} {xs : List V} (e : Same H H') (h : SqT K H a xs) : SqT K H' a xs := by
  rcases h with (h | ⟨o, h⟩) | h
  · exact .inl (.inl (e _ _ h))
  · exact .inl (.inr ⟨o, e _ _ h⟩)
  · exact .inr h
/-- [e for x in xs], a list, e known for each item, nothing is changed -/
theorem lcL (hD : H1 D = none) (hxs : SqL K H1 a xs) (hlen : out.length = xs.length) (hsz : xs.length ≤ sizeLine)
    (hs : ∀ k x y H Q, xs[k]? = some x → out[k]? = some y → Same H1 H → H D = some (.lst (out.take k)) → (∀ H', Same H H' → Q y H') → te ((wipe σ [i]).set i (some x)) H Q) (hd : ∀ H, Same H1 H → H D = some (.lst out) → Qd H) :
    ∃ W : Nat → Nat → Hp → Prop, (∃ m, W 0 m (upd H1 D (.lst []))) ∧ ∀ j m H, W j m H →
      ((Itl K a).stop j H ∧ Qd H) ∨ ((Itl K a).go j H ∧ ∃ Nx : Hp → Prop, (∀ H', Nx H' → ∃ m', m' < m ∧ W (j + 1) m' H') ∧ ∀ x H', (Itl K a).yld j H x H' → gName i x (wipe σ [i]) H' fun σ2 H2 => wipe σ2 [i] = wipe σ [i] ∧ tYes σ2 H2 fun b H3 =>
        if b = true then te σ2 H3 fun y H4 => ∃ acc, H4 D = some (.lst acc) ∧ acc.length < sizeLine ∧ Nx (upd H4 D (.lst (acc ++ [y]))) else Nx H3) := by
  refine lc_list (xs := xs) (fun k H => Same H1 H ∧ H D = some (.lst (out.take k))) ⟨same_new hD, by rw [upd_same] <;> rfl⟩ (fun k H _ ⟨e, _⟩ => e.seq hxs) (fun k x H hx ⟨e, hl⟩ => ⟨wipe1, ?_⟩) (fun H ⟨e, hl⟩ => hd H e (by rw [hl, ← hlen, List.take_length]))
  have hk := (List.getElem?_eq_some_iff.mp hx).1
  have ho : out[k]? = some out[k] := List.getElem?_eq_getElem (by omega)
  refine yes_in (hs k x out[k] H _ hx ho e hl fun H' e' => ⟨_, e' _ _ hl, by rw [List.length_take]; omega, ?_, ?_⟩)
  · exact fun b u z => by
      rw [upd_ne (ne_of_none z hD)]
      exact e' _ _ (e _ _ z)
  · rw [upd_same, take_succ' ho]
/-- .. a tuple -/
theorem lcT (hD : H1 D = none) (hxs : SqT K H1 a xs) (hlen : out.length = xs.length) (hsz : xs.length ≤ sizeLine)
    (hs : ∀ k x y H Q, xs[k]? = some x → out[k]? = some y → Same H1 H → H D = some (.lst (out.take k)) → (∀ H', Same H H' → Q y H') → te ((wipe σ [i]).set i (some x)) H Q) (hd : ∀ H, Same H1 H → H D = some (.lst out) → Qd H) :
    ∃ W : Nat → Nat → Hp → Prop, (∃ m, W 0 m (upd H1 D (.lst []))) ∧ ∀ j m H, W j m H →
      ((Itt K a).stop j H ∧ Qd H) ∨ ((Itt K a).go j H ∧ ∃ Nx : Hp → Prop, (∀ H', Nx H' → ∃ m', m' < m ∧ W (j + 1) m' H') ∧ ∀ x H', (Itt K a).yld j H x H' → gName i x (wipe σ [i]) H' fun σ2 H2 => wipe σ2 [i] = wipe σ [i] ∧ tYes σ2 H2 fun b H3 =>
        if b = true then te σ2 H3 fun y H4 => ∃ acc, H4 D = some (.lst acc) ∧ acc.length < sizeLine ∧ Nx (upd H4 D (.lst (acc ++ [y]))) else Nx H3) := by
  refine lc_tup (xs := xs) (fun k H => Same H1 H ∧ H D = some (.lst (out.take k))) ⟨same_new hD, by rw [upd_same] <;> rfl⟩ (fun k H _ ⟨e, _⟩ => tseq e hxs) (fun k x H hx ⟨e, hl⟩ => ⟨wipe1, ?_⟩) (fun H ⟨e, hl⟩ => hd H e (by rw [hl, ← hlen, List.take_length]))
  have hk := (List.getElem?_eq_some_iff.mp hx).1
  have ho : out[k]? = some out[k] := List.getElem?_eq_getElem (by omega)
  refine yes_in (hs k x out[k] H _ hx ho e hl fun H' e' => ⟨_, e' _ _ hl, by rw [List.length_take]; omega, ?_, ?_⟩)
  · exact fun b u z => by
      rw [upd_ne (ne_of_none z hD)]
      exact e' _ _ (e _ _ z)
  · rw [upd_same, take_succ' ho]
/-- .. a range -/
theorem lcR {lo : Int} (hD : H1 D = none) (hlen : out.length = n) (hsz : n ≤ sizeLine)
    (hs : ∀ k y H Q, k < n → out[k]? = some y → Same H1 H → H D = some (.lst (out.take k)) → (∀ H', Same H H' → Q y H') → te ((wipe σ [i]).set i (some (.int (lo + k)))) H Q) (hd : ∀ H, Same H1 H → H D = some (.lst out) → Qd H) :
    ∃ W : Nat → Nat → Hp → Prop, (∃ m, W 0 m (upd H1 D (.lst []))) ∧ ∀ j m H, W j m H →
      ((Itr lo n).stop j H ∧ Qd H) ∨ ((Itr lo n).go j H ∧ ∃ Nx : Hp → Prop, (∀ H', Nx H' → ∃ m', m' < m ∧ W (j + 1) m' H') ∧ ∀ x H', (Itr lo n).yld j H x H' → gName i x (wipe σ [i]) H' fun σ2 H2 => wipe σ2 [i] = wipe σ [i] ∧ tYes σ2 H2 fun b H3 =>
        if b = true then te σ2 H3 fun y H4 => ∃ acc, H4 D = some (.lst acc) ∧ acc.length < sizeLine ∧ Nx (upd H4 D (.lst (acc ++ [y]))) else Nx H3) := by
  refine lc_range (fun k H => Same H1 H ∧ H D = some (.lst (out.take k))) ⟨same_new hD, by rw [upd_same] <;> rfl⟩ (fun k H hk ⟨e, hl⟩ => ⟨wipe1, ?_⟩) (fun H ⟨e, hl⟩ => hd H e (by rw [hl, ← hlen, List.take_length]))
  have ho : out[k]? = some out[k] := List.getElem?_eq_getElem (by omega)
  refine yes_in (hs k out[k] H _ hk ho e hl fun H' e' => ⟨_, e' _ _ hl, by rw [List.length_take]; omega, ?_, ?_⟩)
  · exact fun b u z => by
      rw [upd_ne (ne_of_none z hD)]
      exact e' _ _ (e _ _ z)
  · rw [upd_same, take_succ' ho]
/-- .. a range, the items told by R alone, F what each turn keeps -/
theorem lcRR {lo : Int} {X : Addr → HO → Prop} {I : Hp → Prop} {α : Type} {R : V → α → Hp → Prop} (hD : H1 D = none) (hX : ∀ l, X D (.lst l)) (h0 : I (upd H1 D (.lst []))) (hI : ∀ H l, I H → H D = some (.lst l) → ∀ l', I (upd H D (.lst l'))) (hsz : n ≤ sizeLine)
    (hR : ∀ v c H H', R v c H → Fr X H H' → I H → R v c H') (hR2 : ∀ v c H l l', R v c H → H D = some (.lst l) → R v c (upd H D (.lst l')))
    (hs : ∀ k H Q, k < n → Fr X H1 H → I H → (∀ v c H', Fr X H H' → I H' → R v c H' → Q v H') → te ((wipe σ [i]).set i (some (.int (lo + k)))) H Q)
    (hd : ∀ H vs cs, Fr X H1 H → I H → H D = some (.lst vs) → vs.length = n → All2 (fun v c => R v c H) vs cs → Qd H) :
    ∃ W : Nat → Nat → Hp → Prop, (∃ m, W 0 m (upd H1 D (.lst []))) ∧ ∀ j m H, W j m H →
      ((Itr lo n).stop j H ∧ Qd H) ∨ ((Itr lo n).go j H ∧ ∃ Nx : Hp → Prop, (∀ H', Nx H' → ∃ m', m' < m ∧ W (j + 1) m' H') ∧ ∀ x H', (Itr lo n).yld j H x H' → gName i x (wipe σ [i]) H' fun σ2 H2 => wipe σ2 [i] = wipe σ [i] ∧ tYes σ2 H2 fun b H3 =>
        if b = true then te σ2 H3 fun y H4 => ∃ acc, H4 D = some (.lst acc) ∧ acc.length < sizeLine ∧ Nx (upd H4 D (.lst (acc ++ [y]))) else Nx H3) := by
  refine lc_range (fun k H => Fr X H1 H ∧ I H ∧ ∃ vs cs, H D = some (.lst vs) ∧ vs.length = k ∧ All2 (fun v c => R v c H) vs cs) ⟨.of (same_new hD), h0, [], [], upd_same, rfl, trivial⟩ (fun k H hk ⟨e, h1, vs, cs, hl, hn, hA⟩ => ⟨wipe1, ?_⟩) (fun H ⟨e, h1, vs, cs, hl, hn, hA⟩ => hd H vs cs e h1 hl hn hA)
  refine yes_in (hs k H _ hk e h1 fun v' c H' e' h1' r => ⟨vs, e' _ _ hl (hX _), by omega, ?_, hI H' _ h1' (e' _ _ hl (hX _)) _, vs ++ [v'], cs ++ [c], upd_same, by rw [List.length_append, hn] <;> rfl, ?_⟩)
  · exact (e.trans e').mutN hD
  · have hl' := e' _ _ hl (hX vs)
    exact All2.snoc (R := fun v c => R v c (upd H' D (.lst (vs ++ [v'])))) (hR2 _ _ _ _ _ r hl') (hA.imp fun v c z => hR2 _ _ _ _ _ (hR _ _ _ _ z e' h1) hl')
/-- [e for c in s] -/
theorem lcS {x : Str} (hD : H1 D = none) (hlen : out.length = x.cps.size) (hsz : x.cps.size ≤ sizeLine)
    (hs : ∀ k c y H Q, x.cps[k]? = some c → out[k]? = some y → Same H1 H → H D = some (.lst (out.take k)) → (∀ H', Same H H' → Q y H') → te ((wipe σ [i]).set i (some (.str ⟨#[c]⟩))) H Q) (hd : ∀ H, Same H1 H → H D = some (.lst out) → Qd H) :
    ∃ W : Nat → Nat → Hp → Prop, (∃ m, W 0 m (upd H1 D (.lst []))) ∧ ∀ j m H, W j m H →
      ((Its x).stop j H ∧ Qd H) ∨ ((Its x).go j H ∧ ∃ Nx : Hp → Prop, (∀ H', Nx H' → ∃ m', m' < m ∧ W (j + 1) m' H') ∧ ∀ v H', (Its x).yld j H v H' → gName i v (wipe σ [i]) H' fun σ2 H2 => wipe σ2 [i] = wipe σ [i] ∧ tYes σ2 H2 fun b H3 =>
        if b = true then te σ2 H3 fun y H4 => ∃ acc, H4 D = some (.lst acc) ∧ acc.length < sizeLine ∧ Nx (upd H4 D (.lst (acc ++ [y]))) else Nx H3) := by
  refine ⟨fun k m H => m = x.cps.size - k ∧ k ≤ x.cps.size ∧ Same H1 H ∧ H D = some (.lst (out.take k)), ⟨_, rfl, Nat.zero_le _, same_new hD, by rw [upd_same] <;> rfl⟩, ?_⟩
  rintro k m H ⟨rfl, hk, e, hl⟩
  by_cases hlt : k < x.cps.size
  · refine .inr ⟨hlt, fun H' => Same H1 H' ∧ H' D = some (.lst (out.take (k + 1))), fun H' h' => ⟨x.cps.size - (k + 1), by omega, rfl, hlt, h'⟩, fun v H' y => ?_⟩
    obtain ⟨e0, c, hc, ev⟩ := y
    subst e0 ev
    refine ⟨wipe1, ?_⟩
    have ho : out[k]? = some out[k] := List.getElem?_eq_getElem (by omega)
    refine yes_in (hs k c out[k] _ _ hc ho e hl fun H'' e' => ⟨_, e' _ _ hl, by rw [List.length_take]; omega, ?_, ?_⟩)
    · exact fun b u z => by
        rw [upd_ne (ne_of_none z hD)]
        exact e' _ _ (e _ _ z)
    · rw [upd_same, take_succ' ho]
  · have ek : k = x.cps.size := by omega
    subst ek
    exact .inl ⟨Nat.le_refl _, hd H e (by rw [hl, ← hlen, List.take_length])⟩
end
/-- while: W with its measure, Z where it ends -/
theorem while_z {c : TT} {tb : TS} {D : Ends} {σ : L2.St} {H : Hp} (W : Nat → L2.St → Hp → Prop) (Z : L2.St → Hp → Prop) (w0 : ∃ m, W m σ H)
    (turn : ∀ m σ H, W m σ H → ∀ N F : L2.St → Hp → Prop, (∀ m' σ' H', m' < m → W m' σ' H' → N σ' H') → (∀ σ' H', Z σ' H' → F σ' H') → c σ H fun b H1 => if b = true then tb { D with nx := N, ct := N, bk := F } σ H1 else F σ H1)
    (mono : ∀ σ H (Q Q' : Bool → Hp → Prop), (∀ b H1, Q b H1 → Q' b H1) → c σ H Q → c σ H Q') (fin : ∀ σ H, Z σ H → D.nx σ H) : tWhile c tb D σ H := by
  refine ⟨W, w0, fun m σ H w => ?_⟩
  refine mono σ H _ _ (fun b H1 q => ?_) (turn m σ H w (fun σ' H' => ∃ m', m' < m ∧ W m' σ' H') D.nx (fun m' σ' H' h1 h2 => ⟨m', h1, h2⟩) fin)
  cases b with
  | true => exact ⟨_, fun σ' H' h => h, q⟩
  | false => exact q
/-- .. where the test is known first -/
theorem while_zz {c : TT} {tb : TS} {D : Ends} {σ : L2.St} {H : Hp} (W : Nat → L2.St → Hp → Prop) (Z : L2.St → Hp → Prop) (w0 : ∃ m, W m σ H)
    (turn : ∀ m σ H, W m σ H → ∀ (R : Bool → Hp → Prop), (∀ H1, (∀ N F : L2.St → Hp → Prop, (∀ m' σ' H', m' < m → W m' σ' H' → N σ' H') → (∀ σ' H', Z σ' H' → F σ' H') → tb { D with nx := N, ct := N, bk := F } σ H1) → R true H1) → (∀ H1, Z σ H1 → R false H1) → c σ H R)
    (fin : ∀ σ H, Z σ H → D.nx σ H) : tWhile c tb D σ H := by
  refine ⟨W, w0, fun m σ H w => ?_⟩
  refine turn m σ H w _ (fun H1 h => ?_) fun H1 z => ?_
  · show (if true = true then _ else _)
    rw [if_pos rfl]
    exact ⟨fun σ' H' => ∃ m', m' < m ∧ W m' σ' H', fun _ _ h => h, h _ _ (fun m' σ' H' h1 h2 => ⟨m', h1, h2⟩) fin⟩
  · show (if false = true then _ else _)
    rw [if_neg (by simp)]
    exact fin _ _ z
/-! ### ways that meet again -/
theorem te_cont {te : TE} {σ : L2.St} {H : Hp} {Q : VK} (R : VK) (h : ∀ Q' : VK, (∀ v H', R v H' → Q' v H') → te σ H Q') (hQ : ∀ v H', R v H' → Q v H') : te σ H Q := h Q hQ
theorem asg_cont {te : TE} {g : TG} {D : Ends} {σ : L2.St} {H : Hp} (R : VK) (h : ∀ Q' : VK, (∀ v H', R v H' → Q' v H') → te σ H Q') (hQ : ∀ v H', R v H' → g v σ H' D.nx) : tAsg te g D σ H := h _ hQ
theorem seq_cont {a b : TS} {D : Ends} {σ : L2.St} {H : Hp} (R : L2.St → Hp → Prop) (h : ∀ N : L2.St → Hp → Prop, (∀ σ' H', R σ' H' → N σ' H') → a { D with nx := N } σ H) (hb : ∀ σ' H', R σ' H' → b D σ' H') : tSeq a b D σ H := h _ hb
theorem cat_q (s : String) (b : List Nat) : Str.ofString s ++ S b = S (s.toList.map Char.toNat ++ b) := by rw [ofq, S_cat]
theorem q_cat (a : List Nat) (s : String) : S a ++ Str.ofString s = S (a ++ s.toList.map Char.toNat) := by rw [ofq, S_cat]
theorem joinL_len (b : List Nat) : ∀ ys : List (List Nat), (ys.map (·.length)).sum + ys.length * b.length ≤ (TL.joinL b ys).length + b.length
  | [] => by simp
  | [x] => by simp [TL.joinL]
  | x :: y :: r => by
    have ih := joinL_len b (y :: r)
    have e : TL.joinL b (x :: y :: r) = x ++ (b ++ TL.joinL b (y :: r)) := rfl
    rw [e, List.length_append, List.length_append]
    simp only [List.map_cons, List.sum_cons, List.length_cons, Nat.succ_mul] at ih ⊢
    omega
end HL
end

section
set_option linter.all false
set_option maxRecDepth 100000
set_option maxHeartbeats 4000000
/-! The two readers of conditions and parts, as plain functions on signs, and that they tell the same. -/
namespace M
open L2 TL
abbrev Cs := List Nat
/-- the signs of a written text -/
def q (s : String) : Cs := s.toList.map Char.toNat
abbrev LET : Cs := q "abcdefghijklmnopqrstuvwxyz"
abbrev DIG : Cs := q "0123456789"
def isLet (c : Nat) : Bool := decide (c ∈ LET)
def isDig (c : Nat) : Bool := decide (c ∈ DIG)
/-- a name -/
structure Nm (n : Cs) : Prop where
  pos : 0 < n.length
  most : n.length ≤ 8
  all : ∀ c ∈ n, isLet c = true
inductive Cond where
  | word (b : Bool)
  | ask (n : Cs)
  | neg (c : Cond)
  | many (b : Bool) (cs : List Cond)
inductive Part where
  | back
  | leave (k : Nat)
  | step (n : Cs)
  | call (n : Cs)
  | row (ps : List Part)
  | whil (c : Cond) (p : Part)
  | ite (c : Cond) (p r : Part)
def nq (b : Bool) : Cs := if b then q "all" else q "any"
def yq (b : Bool) : Cs := if b then q "yes" else q "no"
mutual
def Cond.sh : Cond → Cs
  | .word b => yq b
  | .ask n => q "?" ++ n
  | .neg c => q "not" ++ (q "(" ++ (c.sh ++ q ")"))
  | .many b cs => nq b ++ (q "(" ++ (joinL (q ", ") (shC cs) ++ q ")"))
def shC : List Cond → List Cs
  | [] => []
  | c :: cs => c.sh :: shC cs
end
mutual
def Part.sh : Part → Cs
  | .back => q "back"
  | .leave k => q "leave" ++ (q " " ++ numL k)
  | .step n => q "do" ++ (q " " ++ n)
  | .call n => q "call" ++ (q " " ++ n)
  | .row ps => q "[" ++ (joinL (q "; ") (shP ps) ++ q "]")
  | .whil c p => q "while " ++ (c.sh ++ (q ": " ++ p.sh))
  | .ite c p r => q "if " ++ (c.sh ++ (q " then " ++ (p.sh ++ (q " else " ++ r.sh))))
def shP : List Part → List Cs
  | [] => []
  | p :: ps => p.sh :: shP ps
end
mutual
def Cond.wf : Cond → Prop
  | .word _ => True
  | .ask n => Nm n
  | .neg c => c.wf
  | .many _ cs => wfC cs
def wfC : List Cond → Prop
  | [] => True
  | c :: cs => c.wf ∧ wfC cs
end
mutual
def Part.wf : Part → Prop
  | .back => True
  | .leave k => k < 1000000000
  | .step n => Nm n
  | .call n => Nm n
  | .row ps => wfP ps
  | .whil c p => c.wf ∧ p.wf
  | .ite c p r => c.wf ∧ p.wf ∧ r.wf
def wfP : List Part → Prop
  | [] => True
  | p :: ps => p.wf ∧ wfP ps
end
-- no leave 0
mutual
def Part.pos : Part → Bool
  | .back => true
  | .leave k => decide (0 < k)
  | .step _ => true
  | .call _ => true
  | .row ps => posP ps
  | .whil _ p => p.pos
  | .ite _ p r => p.pos && r.pos
def posP : List Part → Bool
  | [] => true
  | p :: ps => p.pos && posP ps
end
/-! ### what both readers are made of -/
def takes (w s : Cs) : Option Cs := if s.take w.length = w then some (s.drop w.length) else none
def word (s : Cs) : Option (Cs × Cs) := if 0 < (s.takeWhile isLet).length ∧ (s.takeWhile isLet).length ≤ 8 then some (s.takeWhile isLet, s.dropWhile isLet) else none
def number (s : Cs) : Option (Nat × Cs) :=
  if (0 < (s.takeWhile isDig).length ∧ (s.takeWhile isDig).length ≤ 9) ∧ (s.takeWhile isDig = q "0" ∨ (s.takeWhile isDig).head? ≠ some 48) then some (PySem.NumText.digitsVal (s.takeWhile isDig), s.dropWhile isDig) else none
def sev {α : Type} (rd : Cs → Option (α × Cs)) (e b : Cs) : Nat → List α → Cs → Option (List α × Cs)
  | 0, _, _ => none
  | m + 1, acc, s => match takes e s with
    | some r => some (acc, r)
    | none => match (if acc.isEmpty = true then some s else takes b s) with
      | none => none
      | some s1 => match rd s1 with
        | none => none
        | some (d, s2) => sev rd e b m (acc ++ [d]) s2
/-! ### the program's reader -/
def cond (n : Nat) (s : Cs) : Option (Cond × Cs) :=
  if h : n = 0 then none else
  match takes (q "?") s with
  | some r => (match word r with
    | none => none
    | some (w, r2) => some (.ask w, r2))
  | none => (match word s with
    | none => none
    | some (w, r) =>
      if w = q "yes" then some (.word true, r) else if w = q "no" then some (.word false, r)
      else if w = q "not" ∨ w = q "all" ∨ w = q "any" then
        (match takes (q "(") r with
        | none => none
        | some r1 => (match sev (cond (n - 3)) (q ")") (q ", ") (r1.length + 1) [] r1 with
          | none => none
          | some (cs, r2) => if w = q "not" then (match cs with
              | [c] => some (.neg c, r2)
              | _ => none) else some (.many (decide (w = q "all")) cs, r2)))
      else none)
termination_by n
decreasing_by omega
def part (n : Nat) (s : Cs) : Option (Part × Cs) :=
  if h : n = 0 then none else
  match takes (q "[") s with
  | some r => (match sev (part (n - 3)) (q "]") (q "; ") (r.length + 1) [] r with
    | none => none
    | some (ps, r2) => some (.row ps, r2))
  | none => (match word s with
    | none => none
    | some (w, r) =>
      if w = q "back" then some (.back, r) else
      (match takes (q " ") r with
      | none => none
      | some r1 =>
        if w = q "leave" then (match number r1 with
          | none => none
          | some (k, r2) => some (.leave k, r2))
        else if w = q "do" then (match word r1 with
          | none => none
          | some (x, r2) => some (.step x, r2))
        else if w = q "call" then (match word r1 with
          | none => none
          | some (x, r2) => some (.call x, r2))
        else if w = q "if" ∨ w = q "while" then
          (match cond (n - 1) r1 with
          | none => none
          | some (c, r2) =>
            if w = q "while" then (match takes (q ": ") r2 with
              | none => none
              | some r3 => (match part (n - 1) r3 with
                | none => none
                | some (p, r4) => some (.whil c p, r4)))
            else (match takes (q " then ") r2 with
              | none => none
              | some r3 => (match part (n - 1) r3 with
                | none => none
                | some (p, r4) => (match takes (q " else ") r4 with
                  | none => none
                  | some r5 => (match part (n - 1) r5 with
                    | none => none
                    | some (p2, r6) => some (.ite c p p2, r6))))))
        else none))
termination_by n
decreasing_by all_goals omega
/-! ### the law's reader -/
def lsev {α : Type} (rd : Cs → Option (α × Cs)) (e b : Cs) : Nat → List α → Cs → Option (List α × Cs)
  | 0, _, _ => none
  | m + 1, acc, s => match rd s with
    | none => none
    | some (d, s1) => match takes e s1 with
      | some r => some (acc ++ [d], r)
      | none => match takes b s1 with
        | none => none
        | some s2 => lsev rd e b m (acc ++ [d]) s2
def lall {α : Type} (rd : Cs → Option (α × Cs)) (e b : Cs) (m : Nat) (s : Cs) : Option (List α × Cs) := match takes e s with
  | some r => some ([], r)
  | none => lsev rd e b m [] s
def lcond (n m : Nat) (s : Cs) : Option (Cond × Cs) :=
  if h : n = 0 then none else
  if s.take 4 = q "not(" ∨ s.take 4 = q "all(" ∨ s.take 4 = q "any(" then
    (match lall (lcond (n - 3) m) (q ")") (q ", ") m (s.drop 4) with
    | none => none
    | some (cs, r) => if s.take 4 = q "not(" then (match cs with
        | [c] => some (.neg c, r)
        | _ => none) else some (.many (decide (s.take 4 = q "all(")) cs, r))
  else if s.take 1 = q "?" then (match word (s.drop 1) with
    | none => none
    | some (w, r) => some (.ask w, r))
  else if s.take 3 = q "yes" then some (.word true, s.drop 3)
  else if s.take 2 = q "no" then some (.word false, s.drop 2) else none
termination_by n
decreasing_by omega
def lpart (n m : Nat) (s : Cs) : Option (Part × Cs) :=
  if h : n = 0 then none else
  if s.take 4 = q "back" then some (.back, s.drop 4)
  else if s.take 3 = q "do " then (match word (s.drop 3) with
    | none => none
    | some (x, r) => some (.step x, r))
  else if s.take 5 = q "call " then (match word (s.drop 5) with
    | none => none
    | some (x, r) => some (.call x, r))
  else if s.take 6 = q "leave " then (match number (s.drop 6) with
    | none => none
    | some (k, r) => if k = 0 then none else some (.leave k, r))
  else if s.take 1 = q "[" then (match lall (lpart (n - 3) m) (q "]") (q "; ") m (s.drop 1) with
    | none => none
    | some (ps, r) => some (.row ps, r))
  else if s.take 3 = q "if " then
    (match lcond (n - 1) m (s.drop 3) with
    | none => none
    | some (c, r2) => (match takes (q " then ") r2 with
      | none => none
      | some r3 => (match lpart (n - 2) m r3 with
        | none => none
        | some (p, r4) => (match takes (q " else ") r4 with
          | none => none
          | some r5 => (match lpart (n - 2) m r5 with
            | none => none
            | some (p2, r6) => some (.ite c p p2, r6))))))
  else if s.take 6 = q "while " then
    (match lcond (n - 1) m (s.drop 6) with
    | none => none
    | some (c, r2) => (match takes (q ": ") r2 with
      | none => none
      | some r3 => (match lpart (n - 1) m r3 with
        | none => none
        | some (p, r4) => some (.whil c p, r4))))
  else none
termination_by n
decreasing_by all_goals omega
/-! ### weights -/
def wt (c : Nat) : Nat := if c = 91 ∨ c = 40 then 3 else if c = 32 then 1 else 0
def om (s : Cs) : Nat := (s.map wt).sum
theorem om_app (a b : Cs) : om (a ++ b) = om a + om b := by
  unfold om
  rw [List.map_append, List.sum_append]
theorem om_nil : om [] = 0 := rfl
/-! ### takes, word, number -/
theorem takes_some {w s r : Cs} : takes w s = some r ↔ s = w ++ r := by
  unfold takes
  constructor
  · intro h
    by_cases e : s.take w.length = w
    · rw [if_pos e] at h
      have h1 := Option.some.inj h
      rw [← h1]
      calc s = s.take w.length ++ s.drop w.length := (List.take_append_drop _ _).symm
        _ = w ++ s.drop w.length := by rw [e]
    · rw [if_neg e] at h
      cases h
  · rintro rfl
    rw [if_pos (by rw [List.take_left']; rfl), List.drop_left' rfl]
theorem takes_none {w s : Cs} : takes w s = none ↔ ∀ r, s ≠ w ++ r := by
  constructor
  · intro h r e
    rw [takes_some.mpr e] at h
    cases h
  · intro h
    cases e : takes w s with
    | none => rfl
    | some r => exact absurd (takes_some.mp e) (h r)
theorem takes_self (w r : Cs) : takes w (w ++ r) = some r := takes_some.mpr rfl
theorem take_iff {w s : Cs} {n : Nat} (h : w.length = n) : s.take n = w ↔ s = w ++ s.drop n := by
  subst h
  constructor
  · intro e
    calc s = s.take w.length ++ s.drop w.length := (List.take_append_drop _ _).symm
      _ = w ++ s.drop w.length := by rw [e]
  · intro e
    rw [e, List.take_left' rfl]
/-- begins with no letter -/
def nl (r : Cs) : Prop := ∀ c, r.head? = some c → isLet c = false
theorem nl_nil : nl [] := fun _ h => by cases h
theorem nl_cons {c : Nat} {r : Cs} (h : isLet c = false) : nl (c :: r) := fun d e => by
  cases e
  exact h
theorem span_app {p : Nat → Bool} {a r : Cs} (ha : ∀ c ∈ a, p c = true) (hr : ∀ c, r.head? = some c → p c = false) : (a ++ r).takeWhile p = a ∧ (a ++ r).dropWhile p = r := by
  induction a with
  | nil =>
    cases r with
    | nil => exact ⟨rfl, rfl⟩
    | cons c r =>
      have h := hr c rfl
      simp [List.takeWhile_cons, List.dropWhile_cons, h]
  | cons c a ih =>
    have h := ha c (List.mem_cons_self ..)
    have i := ih fun d hd => ha d (List.mem_cons_of_mem _ hd)
    simp [List.takeWhile_cons, List.dropWhile_cons, h, i.1, i.2]
theorem span_head {p : Nat → Bool} (s : Cs) : ∀ c, (s.dropWhile p).head? = some c → p c = false := by
  induction s with
  | nil => intro c h; cases h
  | cons d s ih =>
    intro c h
    by_cases e : p d = true
    · rw [List.dropWhile_cons_of_pos e] at h
      exact ih c h
    · rw [List.dropWhile_cons_of_neg e] at h
      cases h
      simpa using e
theorem span_all {p : Nat → Bool} (s : Cs) : ∀ c ∈ s.takeWhile p, p c = true := by
  induction s with
  | nil => intro c h; cases h
  | cons d s ih =>
    intro c h
    by_cases e : p d = true
    · rw [List.takeWhile_cons_of_pos e] at h
      rcases List.mem_cons.mp h with rfl | h
      · exact e
      · exact ih c h
    · rw [List.takeWhile_cons_of_neg e] at h
      cases h
theorem word_some {s w r : Cs} (h : word s = some (w, r)) : s = w ++ r ∧ Nm w ∧ nl r := by
  unfold word at h
  by_cases e : 0 < (s.takeWhile isLet).length ∧ (s.takeWhile isLet).length ≤ 8
  · rw [if_pos e] at h
    obtain ⟨rfl, rfl⟩ := Prod.mk.inj (Option.some.inj h)
    exact ⟨(List.takeWhile_append_dropWhile ..).symm, ⟨e.1, e.2, span_all s⟩, span_head s⟩
  · rw [if_neg e] at h
    cases h
theorem word_app {w r : Cs} (h : Nm w) (hr : nl r) : word (w ++ r) = some (w, r) := by
  obtain ⟨e1, e2⟩ := span_app (p := isLet) h.all hr
  unfold word
  rw [e1, e2, if_pos ⟨h.pos, h.most⟩]
theorem dig_iff (c : Nat) : isDig c = true ↔ 48 ≤ c ∧ c ≤ 57 := by
  unfold isDig
  have e : DIG = [48, 49, 50, 51, 52, 53, 54, 55, 56, 57] := by decide
  rw [decide_eq_true_iff, e]
  simp only [List.mem_cons, List.mem_nil_iff, or_false]
  omega
theorem num_val {a : Cs} (h : ∀ c ∈ a, isDig c = true) (h0 : 0 < a.length) (h1 : a = q "0" ∨ a.head? ≠ some 48) : numL (PySem.NumText.digitsVal a) = a := by
  have hd : PySem.NumText.AllDigits a := fun c hc => (dig_iff c).mp (h c hc)
  have t := PySem.NumText.toDigits_digitsVal (a.length - 1) a (by omega) hd (by
    cases a with
    | nil => cases h0
    | cons c r =>
      rcases h1 with h1 | h1
      · left
        rw [h1]
        rfl
      · right
        refine ⟨c, r, rfl, ?_⟩
        have := hd c (List.mem_cons_self ..)
        have : c ≠ 48 := fun z => h1 (by rw [z]; rfl)
        omega)
  unfold numL
  rw [t, List.map_map]
  have key : ∀ c ∈ a, (Char.toNat ∘ Char.ofNat) c = c := fun c hc => by
    have := hd c hc
    show (Char.ofNat c).toNat = c
    have hv : c.isValidChar := by left; omega
    simp [Char.ofNat, hv, Char.ofNatAux, Char.toNat]
  rw [List.map_congr_left key]
  simp
theorem fold_lt : ∀ (l : Cs) (a : Nat), (∀ c ∈ l, isDig c = true) → l.foldl (fun acc c => acc * 10 + (c - 48)) a < (a + 1) * 10 ^ l.length
  | [], a, _ => by
    show a < (a + 1) * 10 ^ 0
    omega
  | c :: l, a, h => by
    have hc := (dig_iff c).mp (h c (List.mem_cons_self ..))
    have ih := fold_lt l (a * 10 + (c - 48)) fun d hd => h d (List.mem_cons_of_mem _ hd)
    show l.foldl (fun acc c => acc * 10 + (c - 48)) (a * 10 + (c - 48)) < (a + 1) * 10 ^ (l.length + 1)
    refine Nat.lt_of_lt_of_le ih ?_
    rw [Nat.pow_succ, Nat.mul_comm (10 ^ l.length) 10, ← Nat.mul_assoc]
    exact Nat.mul_le_mul_right _ (by omega)
theorem number_some {s r : Cs} {k : Nat} (h : number s = some (k, r)) : s = numL k ++ r ∧ (∀ c, r.head? = some c → isDig c = false) ∧ k < 1000000000 := by
  unfold number at h
  by_cases e : (0 < (s.takeWhile isDig).length ∧ (s.takeWhile isDig).length ≤ 9) ∧ (s.takeWhile isDig = q "0" ∨ (s.takeWhile isDig).head? ≠ some 48)
  · rw [if_pos e] at h
    obtain ⟨rfl, rfl⟩ := Prod.mk.inj (Option.some.inj h)
    have z := num_val (span_all s) e.1.1 e.2
    refine ⟨by rw [z]; exact (List.takeWhile_append_dropWhile ..).symm, span_head s, ?_⟩
    have b := fold_lt (s.takeWhile isDig) 0 (span_all s)
    refine Nat.lt_of_lt_of_le b ?_
    have e9 := e.1.2
    calc (0 + 1) * 10 ^ (s.takeWhile isDig).length ≤ (0 + 1) * 10 ^ 9 := Nat.mul_le_mul_left _ (Nat.pow_le_pow_right (by decide) e9)
      _ ≤ 1000000000 := by decide
  · rw [if_neg e] at h
    cases h
end M
end

section
set_option linter.all false
set_option maxRecDepth 100000
set_option maxHeartbeats 4000000
/-! Soundness of the program's reader; both readers tell the same. -/
namespace M
open L2 TL
theorem q_yes : q "yes" = [121, 101, 115] := by decide
theorem q_no : q "no" = [110, 111] := by decide
theorem q_not : q "not" = [110, 111, 116] := by decide
theorem q_all : q "all" = [97, 108, 108] := by decide
theorem q_any : q "any" = [97, 110, 121] := by decide
theorem q_3f : q "?" = [63] := by decide
theorem q_28 : q "(" = [40] := by decide
theorem q_29 : q ")" = [41] := by decide
theorem q_2c20 : q ", " = [44, 32] := by decide
theorem q_not28 : q "not(" = [110, 111, 116, 40] := by decide
theorem q_all28 : q "all(" = [97, 108, 108, 40] := by decide
theorem q_any28 : q "any(" = [97, 110, 121, 40] := by decide
theorem q_back : q "back" = [98, 97, 99, 107] := by decide
theorem q_leave : q "leave" = [108, 101, 97, 118, 101] := by decide
theorem q_do : q "do" = [100, 111] := by decide
theorem q_call : q "call" = [99, 97, 108, 108] := by decide
theorem q_if : q "if" = [105, 102] := by decide
theorem q_while : q "while" = [119, 104, 105, 108, 101] := by decide
theorem q_5b : q "[" = [91] := by decide
theorem q_5d : q "]" = [93] := by decide
theorem q_3b20 : q "; " = [59, 32] := by decide
theorem q_20 : q " " = [32] := by decide
theorem q_do20 : q "do " = [100, 111, 32] := by decide
theorem q_call20 : q "call " = [99, 97, 108, 108, 32] := by decide
theorem q_leave20 : q "leave " = [108, 101, 97, 118, 101, 32] := by decide
theorem q_if20 : q "if " = [105, 102, 32] := by decide
theorem q_while20 : q "while " = [119, 104, 105, 108, 101, 32] := by decide
theorem q_3a20 : q ": " = [58, 32] := by decide
theorem q_20then20 : q " then " = [32, 116, 104, 101, 110, 32] := by decide
theorem q_20else20 : q " else " = [32, 101, 108, 115, 101, 32] := by decide
theorem q_0 : q "0" = [48] := by decide
theorem shC_map : ∀ cs : List Cond, shC cs = cs.map Cond.sh
  | [] => rfl
  | c :: cs => by show c.sh :: shC cs = _; rw [shC_map cs]; rfl
theorem shP_map : ∀ ps : List Part, shP ps = ps.map Part.sh
  | [] => rfl
  | p :: ps => by show p.sh :: shP ps = _; rw [shP_map ps]; rfl
theorem wfC_iff : ∀ cs : List Cond, wfC cs ↔ ∀ c ∈ cs, c.wf
  | [] => ⟨fun _ _ h => (nomatch h), fun _ => trivial⟩
  | c :: cs => by
    show (c.wf ∧ wfC cs) ↔ _
    rw [wfC_iff cs]
    simp
theorem wfP_iff : ∀ ps : List Part, wfP ps ↔ ∀ p ∈ ps, p.wf
  | [] => ⟨fun _ _ h => (nomatch h), fun _ => trivial⟩
  | p :: ps => by
    show (p.wf ∧ wfP ps) ↔ _
    rw [wfP_iff ps]
    simp
theorem posP_iff : ∀ ps : List Part, posP ps = true ↔ ∀ p ∈ ps, p.pos = true
  | [] => ⟨fun _ _ h => (nomatch h), fun _ => rfl⟩
  | p :: ps => by
    show (p.pos && posP ps) = true ↔ _
    rw [Bool.and_eq_true, posP_iff ps]
    simp
/-! ### several -/
def tailL (b : Cs) (xs : List Cs) : Cs := (xs.map (b ++ ·)).flatten
theorem join_tail (b x : Cs) : ∀ xs : List Cs, joinL b (x :: xs) = x ++ tailL b xs
  | [] => by show x = x ++ []; rw [List.append_nil]
  | y :: xs => by
    show x ++ (b ++ joinL b (y :: xs)) = x ++ ((b ++ y) ++ tailL b xs)
    rw [join_tail b y xs, List.append_assoc]
section
variable {α : Type} {rd rd' : Cs → Option (α × Cs)} {e b : Cs} {f : α → Cs} {G : α → Prop}
theorem sev_sound (hrd : ∀ s d r, rd s = some (d, r) → s = f d ++ r ∧ G d) : ∀ (m : Nat) (acc : List α) (s : Cs) (ds : List α) (r : Cs), sev rd e b m acc s = some (ds, r) →
    ∃ es, ds = acc ++ es ∧ s = (if acc.isEmpty = true then joinL b (es.map f) else tailL b (es.map f)) ++ (e ++ r) ∧ ∀ d ∈ es, G d
  | 0, _, _, _, _, h => by cases h
  | m + 1, acc, s, ds, r, h => by
    unfold sev at h
    cases ht : takes e s with
    | some r' =>
      rw [ht] at h
      obtain ⟨rfl, rfl⟩ := Prod.mk.inj (Option.some.inj h)
      refine ⟨[], by simp, ?_, fun d hd => nomatch hd⟩
      rw [takes_some.mp ht]
      cases acc <;> rfl
    | none =>
      rw [ht] at h
      dsimp only at h
      cases hb : (if acc.isEmpty = true then some s else takes b s) with
      | none =>
        rw [hb] at h
        cases h
      | some s1 =>
        rw [hb] at h
        dsimp only at h
        cases hr : rd s1 with
        | none =>
          rw [hr] at h
          cases h
        | some p =>
          obtain ⟨d, s2⟩ := p
          rw [hr] at h
          obtain ⟨es, e1, e2, e3⟩ := sev_sound hrd m (acc ++ [d]) s2 ds r h
          obtain ⟨e4, g⟩ := hrd _ _ _ hr
          refine ⟨d :: es, by rw [e1]; simp, ?_, fun x hx => ?_⟩
          · have ne : (acc ++ [d]).isEmpty = false := by cases acc <;> rfl
            rw [ne] at e2
            have e2' : s2 = tailL b (es.map f) ++ (e ++ r) := e2
            cases acc with
            | nil =>
              have e5 : s = s1 := Option.some.inj hb
              show s = joinL b (f d :: es.map f) ++ (e ++ r)
              rw [join_tail, e5, e4, e2', List.append_assoc]
            | cons a acc =>
              have e5 : s = b ++ s1 := takes_some.mp hb
              show s = ((b ++ f d) ++ tailL b (es.map f)) ++ (e ++ r)
              rw [e5, e4, e2']
              simp only [List.append_assoc]
          · rcases List.mem_cons.mp hx with rfl | hx
            · exact g
            · exact e3 x hx
/-- behind an element -/
def lcont (rd : Cs → Option (α × Cs)) (e b : Cs) (m : Nat) (acc : List α) (s : Cs) : Option (List α × Cs) := match takes e s with
  | some r => some (acc, r)
  | none => match takes b s with
    | none => none
    | some s2 => lsev rd e b m acc s2
theorem lsev_succ (m : Nat) (acc : List α) (s : Cs) : lsev rd e b (m + 1) acc s = match rd s with
    | none => none
    | some (d, s1) => lcont rd e b m (acc ++ [d]) s1 := by
  rw [lsev]
  cases rd s with
  | none => rfl
  | some p => obtain ⟨d, s1⟩ := p; rfl
variable {M k : Nat}
theorem sev_tail (hf : ∀ d, f d ≠ []) (hrd : ∀ s d r, rd s = some (d, r) → s = f d ++ r) (hgo : ∀ s d r, s.length ≤ M → om s < k → rd s = some (d, r) → G d → rd' s = some (d, r)) :
    ∀ (m : Nat) (acc : List α) (s : Cs) (ds : List α) (r : Cs), acc ≠ [] → sev rd e b m acc s = some (ds, r) → (∀ d ∈ ds, G d) → s.length ≤ M → om s < k → ∀ m', s.length ≤ m' → lcont rd' e b m' acc s = some (ds, r)
  | 0, _, _, _, _, _, h, _, _, _, _, _ => by cases h
  | m + 1, acc, s, ds, r, ha, h, hG, hM, hk, m', hm => by
    unfold sev at h
    unfold lcont
    cases ht : takes e s with
    | some r' =>
      rw [ht] at h
      exact h
    | none =>
      rw [ht] at h
      have ne : acc.isEmpty = false := by
        cases acc with
        | nil => exact absurd rfl ha
        | cons a acc => rfl
      rw [ne] at h
      dsimp only [Bool.false_eq_true, if_false] at h ⊢
      rw [if_neg (by decide)] at h
      cases hb : takes b s with
      | none =>
        rw [hb] at h
        cases h
      | some s1 =>
        rw [hb] at h
        dsimp only at h ⊢
        cases hr : rd s1 with
        | none =>
          rw [hr] at h
          cases h
        | some p =>
          obtain ⟨d, s2⟩ := p
          rw [hr] at h
          dsimp only at h
          have e1 := takes_some.mp hb
          have e2 := hrd _ _ _ hr
          have l1 : s.length = b.length + s1.length := by rw [e1, List.length_append]
          have l2 : s1.length = (f d).length + s2.length := by rw [e2, List.length_append]
          have l3 : 0 < (f d).length := List.length_pos_iff.mpr (hf d)
          have o1 : om s = om b + om s1 := by rw [e1, om_app]
          have o2 : om s1 = om (f d) + om s2 := by rw [e2, om_app]
          have mem : d ∈ ds := by
            obtain ⟨es, z, _⟩ := sev_sound (G := fun _ => True) (f := f) (fun s d r h => ⟨hrd s d r h, trivial⟩) m (acc ++ [d]) s2 ds r h
            rw [z]
            simp
          obtain ⟨j, rfl⟩ : ∃ j, m' = j + 1 := ⟨m' - 1, by omega⟩
          rw [lsev_succ, hgo s1 d s2 (by omega) (by omega) hr (hG d mem)]
          exact sev_tail hf hrd hgo m (acc ++ [d]) s2 ds r (by simp) h hG (by omega) (by omega) j (by omega)
theorem sev_lall (hf : ∀ d, f d ≠ []) (hrd : ∀ s d r, rd s = some (d, r) → s = f d ++ r) (hgo : ∀ s d r, s.length ≤ M → om s < k → rd s = some (d, r) → G d → rd' s = some (d, r))
    {m m' : Nat} {s : Cs} {ds : List α} {r : Cs} (h : sev rd e b m [] s = some (ds, r)) (hG : ∀ d ∈ ds, G d) (hM : s.length ≤ M) (hk : om s < k) (hm : s.length ≤ m') : lall rd' e b m' s = some (ds, r) := by
  cases m with
  | zero => cases h
  | succ m =>
    unfold sev at h
    unfold lall
    cases ht : takes e s with
    | some r' =>
      rw [ht] at h
      exact h
    | none =>
      rw [ht] at h
      have h : (match rd s with
        | none => none
        | some (d, s2) => sev rd e b m ([] ++ [d]) s2) = some (ds, r) := h
      dsimp only
      cases hr : rd s with
      | none =>
        rw [hr] at h
        cases h
      | some p =>
        obtain ⟨d, s2⟩ := p
        rw [hr] at h
        have e2 := hrd _ _ _ hr
        have l2 : s.length = (f d).length + s2.length := by rw [e2, List.length_append]
        have l3 : 0 < (f d).length := List.length_pos_iff.mpr (hf d)
        have o2 : om s = om (f d) + om s2 := by rw [e2, om_app]
        have mem : d ∈ ds := by
          obtain ⟨es, z, _⟩ := sev_sound (G := fun _ => True) (f := f) (fun s d r h => ⟨hrd s d r h, trivial⟩) m ([] ++ [d]) s2 ds r h
          rw [z]
          simp
        obtain ⟨j, rfl⟩ : ∃ j, m' = j + 1 := ⟨m' - 1, by omega⟩
        rw [lsev_succ, hgo s d s2 hM hk hr (hG d mem)]
        exact sev_tail hf hrd hgo m ([] ++ [d]) s2 ds r (by simp) h hG (by omega) (by omega) j (by omega)
/-- .. and back -/
theorem lsev_sev (he : nl e) (hb : nl b) (hne : e ≠ []) (hnb : b ≠ []) (hrd : ∀ s d r, rd s = some (d, r) → s = f d ++ r) (hgo : ∀ s d r, om s < k → rd' s = some (d, r) → nl r → rd s = some (d, r) ∧ G d) :
    ∀ (m' : Nat) (acc : List α) (s : Cs) (ds : List α) (r : Cs), lsev rd' e b m' acc s = some (ds, r) → om s < k →
    ∃ d s2, rd s = some (d, s2) ∧ G d ∧ (∃ es, ds = acc ++ (d :: es) ∧ ∀ x ∈ es, G x) ∧ ∀ m, s2.length < m → sev rd e b m (acc ++ [d]) s2 = some (ds, r)
  | 0, _, _, _, _, h, _ => by cases h
  | m' + 1, acc, s, ds, r, h, hk => by
    have nlapp : ∀ {w x : Cs}, nl w → w ≠ [] → nl (w ++ x) := fun {w x} hw hn => by
      cases w with
      | nil => exact absurd rfl hn
      | cons c w => exact fun d hd => hw d hd
    rw [lsev_succ] at h
    cases hr : rd' s with
    | none =>
      rw [hr] at h
      cases h
    | some p =>
      obtain ⟨d, s1⟩ := p
      rw [hr] at h
      have h : lcont rd' e b m' (acc ++ [d]) s1 = some (ds, r) := h
      have ne : (acc ++ [d]).isEmpty = false := by cases acc <;> rfl
      unfold lcont at h
      cases ht : takes e s1 with
      | some r' =>
        rw [ht] at h
        obtain ⟨rfl, rfl⟩ := Prod.mk.inj (Option.some.inj h)
        have n1 : nl s1 := by
          rw [takes_some.mp ht]
          exact nlapp he hne
        obtain ⟨g1, g2⟩ := hgo s d s1 hk hr n1
        refine ⟨d, s1, g1, g2, ⟨[], rfl, fun x hx => nomatch hx⟩, fun m hm => ?_⟩
        obtain ⟨j, rfl⟩ : ∃ j, m = j + 1 := ⟨m - 1, by omega⟩
        unfold sev
        rw [ht]
      | none =>
        rw [ht] at h
        dsimp only at h
        cases hb2 : takes b s1 with
        | none =>
          rw [hb2] at h
          cases h
        | some s2 =>
          rw [hb2] at h
          dsimp only at h
          have e1 := takes_some.mp hb2
          have n1 : nl s1 := by
            rw [e1]
            exact nlapp hb hnb
          obtain ⟨g1, g2⟩ := hgo s d s1 hk hr n1
          have e0 := hrd _ _ _ g1
          have o0 : om s = om (f d) + om s1 := by rw [e0, om_app]
          have o1 : om s1 = om b + om s2 := by rw [e1, om_app]
          obtain ⟨d2, s3, i1, i2, ⟨es, i3, i4⟩, i5⟩ := lsev_sev he hb hne hnb hrd hgo m' (acc ++ [d]) s2 ds r h (by omega)
          refine ⟨d, s1, g1, g2, ⟨d2 :: es, by rw [i3]; simp, fun x hx => ?_⟩, fun m hm => ?_⟩
          · rcases List.mem_cons.mp hx with rfl | hx
            · exact i2
            · exact i4 x hx
          · obtain ⟨j, rfl⟩ : ∃ j, m = j + 1 := ⟨m - 1, by omega⟩
            have e3 := hrd _ _ _ i1
            have l1 : s1.length = b.length + s2.length := by rw [e1, List.length_append]
            have l2 : s2.length = (f d2).length + s3.length := by rw [e3, List.length_append]
            have l3 : 0 < b.length := List.length_pos_iff.mpr hnb
            unfold sev
            rw [ht, ne]
            dsimp only
            rw [if_neg (by decide), hb2]
            dsimp only
            rw [i1]
            exact i5 j (by omega)
theorem lall_sev (hf : ∀ d, f d ≠ []) (he : nl e) (hb : nl b) (hne : e ≠ []) (hnb : b ≠ []) (hrd : ∀ s d r, rd s = some (d, r) → s = f d ++ r) (hgo : ∀ s d r, om s < k → rd' s = some (d, r) → nl r → rd s = some (d, r) ∧ G d)
    {m' : Nat} {s : Cs} {ds : List α} {r : Cs} (h : lall rd' e b m' s = some (ds, r)) (hk : om s < k) : sev rd e b (s.length + 1) [] s = some (ds, r) ∧ ∀ d ∈ ds, G d := by
  unfold lall at h
  unfold sev
  cases ht : takes e s with
  | some r' =>
    rw [ht] at h
    obtain ⟨rfl, rfl⟩ := Prod.mk.inj (Option.some.inj h)
    exact ⟨rfl, fun d hd => nomatch hd⟩
  | none =>
    rw [ht] at h
    have h : lsev rd' e b m' [] s = some (ds, r) := h
    obtain ⟨d, s2, i1, i2, ⟨es, i3, i4⟩, i5⟩ := lsev_sev he hb hne hnb hrd hgo m' [] s ds r h hk
    refine ⟨?_, fun x hx => ?_⟩
    · show (match rd s with
        | none => none
        | some (d, s2) => sev rd e b s.length ([] ++ [d]) s2) = some (ds, r)
      rw [i1]
      have e3 := hrd _ _ _ i1
      have l2 : s.length = (f d).length + s2.length := by rw [e3, List.length_append]
      have l3 : 0 < (f d).length := List.length_pos_iff.mpr (hf d)
      exact i5 _ (by omega)
    · rw [i3] at hx
      rcases List.mem_cons.mp hx with rfl | hx
      · exact i2
      · exact i4 x hx
end
end M
end

section
set_option linter.all false
set_option maxRecDepth 100000
set_option maxHeartbeats 4000000
namespace M
open L2 TL
theorem yq_ne (b : Bool) : yq b ≠ [] := by cases b <;> decide
theorem nq_ne (b : Bool) : nq b ≠ [] := by cases b <;> decide
theorem app_ne {a b : Cs} (h : a ≠ []) : a ++ b ≠ [] := by
  cases a with
  | nil => exact absurd rfl h
  | cons c a => simp
theorem sh_ne (c : Cond) : c.sh ≠ [] := by
  cases c with
  | word b => exact yq_ne b
  | ask n => exact app_ne (by decide)
  | neg c =>
    unfold Cond.sh
    exact app_ne (by decide)
  | many b cs =>
    unfold Cond.sh
    exact app_ne (nq_ne b)
theorem shp_ne (p : Part) : p.sh ≠ [] := by
  cases p <;> (unfold Part.sh; first | decide | exact app_ne (by decide))
theorem nm_q {s : String} (h : (decide (0 < (q s).length) && decide ((q s).length ≤ 8) && (q s).all isLet) = true) : Nm (q s) := by
  simp only [Bool.and_eq_true, decide_eq_true_eq] at h
  exact ⟨h.1.1, h.1.2, fun c hc => List.all_eq_true.mp h.2 c hc⟩
/-! ### conditions -/
theorem cond_sound : ∀ (n : Nat) (s : Cs) (c : Cond) (r : Cs), cond n s = some (c, r) → s = c.sh ++ r ∧ c.wf := by
  intro n
  induction n using Nat.strongRecOn with
  | _ n ih =>
    intro s c r h
    rw [cond] at h
    by_cases hn : n = 0
    · rw [dif_pos hn] at h
      cases h
    rw [dif_neg hn] at h
    cases ht : takes (q "?") s with
    | some r1 =>
      rw [ht] at h
      dsimp only at h
      cases hw : word r1 with
      | none =>
        rw [hw] at h
        cases h
      | some p =>
        obtain ⟨w, r2⟩ := p
        rw [hw] at h
        obtain ⟨rfl, rfl⟩ := Prod.mk.inj (Option.some.inj h)
        obtain ⟨e1, e2, _⟩ := word_some hw
        refine ⟨?_, e2⟩
        rw [takes_some.mp ht, e1]
        show _ = (q "?" ++ w) ++ r2
        rw [List.append_assoc]
    | none =>
      rw [ht] at h
      dsimp only at h
      cases hw : word s with
      | none =>
        rw [hw] at h
        cases h
      | some p =>
        obtain ⟨w, r1⟩ := p
        rw [hw] at h
        dsimp only at h
        obtain ⟨e1, e2, e3⟩ := word_some hw
        by_cases h1 : w = q "yes"
        · rw [if_pos h1] at h
          obtain ⟨rfl, rfl⟩ := Prod.mk.inj (Option.some.inj h)
          exact ⟨by rw [e1, h1]; rfl, trivial⟩
        rw [if_neg h1] at h
        by_cases h2 : w = q "no"
        · rw [if_pos h2] at h
          obtain ⟨rfl, rfl⟩ := Prod.mk.inj (Option.some.inj h)
          exact ⟨by rw [e1, h2]; rfl, trivial⟩
        rw [if_neg h2] at h
        by_cases h3 : w = q "not" ∨ w = q "all" ∨ w = q "any"
        · rw [if_pos h3] at h
          cases ht2 : takes (q "(") r1 with
          | none =>
            rw [ht2] at h
            cases h
          | some r2 =>
            rw [ht2] at h
            dsimp only at h
            cases hs : sev (cond (n - 3)) (q ")") (q ", ") (r2.length + 1) [] r2 with
            | none =>
              rw [hs] at h
              cases h
            | some p =>
              obtain ⟨cs, r3⟩ := p
              rw [hs] at h
              dsimp only at h
              obtain ⟨es, i1, i2, i3⟩ := sev_sound (f := Cond.sh) (G := Cond.wf) (fun s d r hd => ih (n - 3) (by omega) s d r hd) _ [] r2 cs r3 hs
              have i1' : cs = es := i1
              have i2' : r2 = joinL (q ", ") (es.map Cond.sh) ++ (q ")" ++ r3) := i2
              subst i1'
              by_cases h4 : w = q "not"
              · rw [if_pos h4] at h
                match cs, h with
                | [c'], h =>
                  obtain ⟨rfl, rfl⟩ := Prod.mk.inj (Option.some.inj h)
                  refine ⟨?_, i3 c' (List.mem_singleton.mpr rfl)⟩
                  rw [e1, takes_some.mp ht2, i2', h4]
                  show q "not" ++ (q "(" ++ (c'.sh ++ (q ")" ++ r3))) = (q "not" ++ (q "(" ++ (c'.sh ++ q ")"))) ++ r3
                  simp only [List.append_assoc]
              · rw [if_neg h4] at h
                obtain ⟨rfl, rfl⟩ := Prod.mk.inj (Option.some.inj h)
                refine ⟨?_, (wfC_iff cs).mpr i3⟩
                have ew : w = nq (decide (w = q "all")) := by
                  by_cases h5 : w = q "all"
                  · rw [decide_eq_true h5]
                    exact h5
                  · rw [decide_eq_false h5]
                    rcases h3 with h3 | h3 | h3
                    · exact absurd h3 h4
                    · exact absurd h3 h5
                    · exact h3
                rw [e1, takes_some.mp ht2, i2']
                show w ++ (q "(" ++ (joinL (q ", ") (cs.map Cond.sh) ++ (q ")" ++ r3))) = (nq (decide (w = q "all")) ++ (q "(" ++ (joinL (q ", ") (shC cs) ++ q ")"))) ++ r3
                rw [← ew, shC_map]
                simp only [List.append_assoc]
        · rw [if_neg h3] at h
          cases h
theorem nl_q {s : String} {r : Cs} (h : (match q s with
    | [] => false
    | c :: _ => !isLet c) = true) : nl (q s ++ r) := by
  cases e : q s with
  | nil =>
    rw [e] at h
    cases h
  | cons c w =>
    rw [e] at h
    refine nl_cons ?_
    have h' : (!isLet c) = true := h
    simpa using h'
theorem q_split (a b c : String) (h : decide (q c = q a ++ q b) = true) (r : Cs) : q c ++ r = q a ++ (q b ++ r) := by
  rw [of_decide_eq_true h, List.append_assoc]
theorem om_q {s : String} {k : Nat} (h : decide (om (q s) = k) = true) : om (q s) = k := of_decide_eq_true h
/-- the program's reader tells it: so does the law's -/
theorem cond_forward : ∀ (n : Nat) (s : Cs) (c : Cond) (r : Cs), cond n s = some (c, r) → ∀ n' m, om s < n' → s.length ≤ m → lcond n' m s = some (c, r) := by
  intro n
  induction n using Nat.strongRecOn with
  | _ n ih =>
    intro s c r h n' m ho hm
    have h0 := h
    rw [cond] at h
    by_cases hn : n = 0
    · rw [dif_pos hn] at h
      cases h
    rw [dif_neg hn] at h
    rw [lcond, dif_neg (by omega)]
    cases ht : takes (q "?") s with
    | some r1 =>
      rw [ht] at h
      dsimp only at h
      have e := takes_some.mp ht
      cases hw : word r1 with
      | none =>
        rw [hw] at h
        cases h
      | some p =>
        obtain ⟨w, r2⟩ := p
        rw [hw] at h
        have h' : some (Cond.ask w, r2) = some (c, r) := h
        rw [e, if_neg (by simp [q_yes, q_no, q_not, q_all, q_any, q_3f, q_28, q_29, q_2c20, q_not28, q_all28, q_any28, q_back, q_leave, q_do, q_call, q_if, q_while, q_5b, q_5d, q_3b20, q_20, q_do20, q_call20, q_leave20, q_if20, q_while20, q_3a20, q_20then20, q_20else20, q_0]), if_pos (by simp [q_yes, q_no, q_not, q_all, q_any, q_3f, q_28, q_29, q_2c20, q_not28, q_all28, q_any28, q_back, q_leave, q_do, q_call, q_if, q_while, q_5b, q_5d, q_3b20, q_20, q_do20, q_call20, q_leave20, q_if20, q_while20, q_3a20, q_20then20, q_20else20, q_0])]
        have e2 : (q "?" ++ r1).drop 1 = r1 := rfl
        rw [e2, hw]
        exact h'
    | none =>
      rw [ht] at h
      dsimp only at h
      cases hw : word s with
      | none =>
        rw [hw] at h
        cases h
      | some p =>
        obtain ⟨w, r1⟩ := p
        rw [hw] at h
        dsimp only at h
        obtain ⟨e1, e2, e3⟩ := word_some hw
        by_cases h1 : w = q "yes"
        · rw [if_pos h1] at h
          rw [e1, h1]
          rw [if_neg ?_, if_neg (by simp [q_yes, q_no, q_not, q_all, q_any, q_3f, q_28, q_29, q_2c20, q_not28, q_all28, q_any28, q_back, q_leave, q_do, q_call, q_if, q_while, q_5b, q_5d, q_3b20, q_20, q_do20, q_call20, q_leave20, q_if20, q_while20, q_3a20, q_20then20, q_20else20, q_0]), if_pos (by simp [q_yes, q_no, q_not, q_all, q_any, q_3f, q_28, q_29, q_2c20, q_not28, q_all28, q_any28, q_back, q_leave, q_do, q_call, q_if, q_while, q_5b, q_5d, q_3b20, q_20, q_do20, q_call20, q_leave20, q_if20, q_while20, q_3a20, q_20then20, q_20else20, q_0])]
          · exact h
          · rw [h1] at e1
            cases r1 with
            | nil => simp [q_yes, q_no, q_not, q_all, q_any, q_3f, q_28, q_29, q_2c20, q_not28, q_all28, q_any28, q_back, q_leave, q_do, q_call, q_if, q_while, q_5b, q_5d, q_3b20, q_20, q_do20, q_call20, q_leave20, q_if20, q_while20, q_3a20, q_20then20, q_20else20, q_0]
            | cons d r1 => simp [q_yes, q_no, q_not, q_all, q_any, q_3f, q_28, q_29, q_2c20, q_not28, q_all28, q_any28, q_back, q_leave, q_do, q_call, q_if, q_while, q_5b, q_5d, q_3b20, q_20, q_do20, q_call20, q_leave20, q_if20, q_while20, q_3a20, q_20then20, q_20else20, q_0]
        rw [if_neg h1] at h
        by_cases h2 : w = q "no"
        · rw [if_pos h2] at h
          rw [e1, h2]
          rw [if_neg ?_, if_neg (by simp [q_yes, q_no, q_not, q_all, q_any, q_3f, q_28, q_29, q_2c20, q_not28, q_all28, q_any28, q_back, q_leave, q_do, q_call, q_if, q_while, q_5b, q_5d, q_3b20, q_20, q_do20, q_call20, q_leave20, q_if20, q_while20, q_3a20, q_20then20, q_20else20, q_0]), if_neg ?_, if_pos (by simp [q_yes, q_no, q_not, q_all, q_any, q_3f, q_28, q_29, q_2c20, q_not28, q_all28, q_any28, q_back, q_leave, q_do, q_call, q_if, q_while, q_5b, q_5d, q_3b20, q_20, q_do20, q_call20, q_leave20, q_if20, q_while20, q_3a20, q_20then20, q_20else20, q_0])]
          · exact h
          · cases r1 with
            | nil => simp [q_yes, q_no, q_not, q_all, q_any, q_3f, q_28, q_29, q_2c20, q_not28, q_all28, q_any28, q_back, q_leave, q_do, q_call, q_if, q_while, q_5b, q_5d, q_3b20, q_20, q_do20, q_call20, q_leave20, q_if20, q_while20, q_3a20, q_20then20, q_20else20, q_0]
            | cons d r1 => simp [q_yes, q_no, q_not, q_all, q_any, q_3f, q_28, q_29, q_2c20, q_not28, q_all28, q_any28, q_back, q_leave, q_do, q_call, q_if, q_while, q_5b, q_5d, q_3b20, q_20, q_do20, q_call20, q_leave20, q_if20, q_while20, q_3a20, q_20then20, q_20else20, q_0]
          · cases r1 with
            | nil => simp [q_yes, q_no, q_not, q_all, q_any, q_3f, q_28, q_29, q_2c20, q_not28, q_all28, q_any28, q_back, q_leave, q_do, q_call, q_if, q_while, q_5b, q_5d, q_3b20, q_20, q_do20, q_call20, q_leave20, q_if20, q_while20, q_3a20, q_20then20, q_20else20, q_0]
            | cons d r1 =>
              cases r1 with
              | nil => simp [q_yes, q_no, q_not, q_all, q_any, q_3f, q_28, q_29, q_2c20, q_not28, q_all28, q_any28, q_back, q_leave, q_do, q_call, q_if, q_while, q_5b, q_5d, q_3b20, q_20, q_do20, q_call20, q_leave20, q_if20, q_while20, q_3a20, q_20then20, q_20else20, q_0]
              | cons d2 r1 =>
                intro z
                have hd : isLet d = false := e3 d rfl
                simp [q_yes, q_no, q_not, q_all, q_any, q_3f, q_28, q_29, q_2c20, q_not28, q_all28, q_any28, q_back, q_leave, q_do, q_call, q_if, q_while, q_5b, q_5d, q_3b20, q_20, q_do20, q_call20, q_leave20, q_if20, q_while20, q_3a20, q_20then20, q_20else20, q_0] at z
                obtain ⟨rfl, _⟩ := z
                exact absurd hd (by decide)
        rw [if_neg h2] at h
        by_cases h3 : w = q "not" ∨ w = q "all" ∨ w = q "any"
        · rw [if_pos h3] at h
          cases ht2 : takes (q "(") r1 with
          | none =>
            rw [ht2] at h
            cases h
          | some r2 =>
            rw [ht2] at h
            dsimp only at h
            cases hs : sev (cond (n - 3)) (q ")") (q ", ") (r2.length + 1) [] r2 with
            | none =>
              rw [hs] at h
              cases h
            | some p =>
              obtain ⟨cs, r3⟩ := p
              rw [hs] at h
              dsimp only at h
              have es : s = w ++ (q "(" ++ r2) := by rw [e1, takes_some.mp ht2]
              have lw : w.length = 3 := by rcases h3 with h3 | h3 | h3 <;> (rw [h3]; rfl)
              have e4 : s.take 4 = w ++ q "(" := (take_iff (by rw [List.length_append, lw]; rfl)).mpr (by
                have : s.drop 4 = r2 := by
                  rw [es, ← List.append_assoc]
                  exact List.drop_left' (by rw [List.length_append, lw]; rfl)
                rw [this, es, List.append_assoc])
              have d4 : s.drop 4 = r2 := by
                rw [es, ← List.append_assoc]
                exact List.drop_left' (by rw [List.length_append, lw]; rfl)
              have oq : om s = om w + (3 + om r2) := by
                rw [es, om_app, om_app]
                rfl
              have ls : s.length = 3 + (1 + r2.length) := by
                rw [es, List.length_append, List.length_append, lw]
                rfl
              have go : lall (lcond (n' - 3) m) (q ")") (q ", ") m r2 = some (cs, r3) :=
                sev_lall (f := Cond.sh) (G := fun _ => True) (M := m) (k := n' - 3) sh_ne (fun s d r hd => (cond_sound _ s d r hd).1) (fun s' d r' h1 h2 h3 _ => ih (n - 3) (by omega) s' d r' h3 (n' - 3) m h2 h1) hs (fun _ _ => trivial) (by omega) (by omega) (by omega)
              rw [e4, d4, go]
              rcases h3 with h3 | h3 | h3
              · subst h3
                rw [if_pos (by left; decide)]
                dsimp only
                rw [if_pos (by decide)]
                rw [if_pos rfl] at h
                exact h
              · subst h3
                rw [if_pos (by right; left; decide)]
                dsimp only
                rw [if_neg (by decide)]
                rw [if_neg (by decide)] at h
                exact h
              · subst h3
                rw [if_pos (by right; right; decide)]
                dsimp only
                rw [if_neg (by decide)]
                rw [if_neg (by decide)] at h
                exact h
        · rw [if_neg h3] at h
          cases h
end M
end

section
set_option linter.all false
set_option maxRecDepth 100000
set_option maxHeartbeats 4000000
namespace M
open L2 TL
theorem take_of {w s : Cs} {n : Nat} (h : s.take n = w) : s = w ++ s.drop n := by rw [← h, List.take_append_drop]
theorem takes_no {w a r : Cs} (h : ∀ x, a ++ r ≠ w ++ x) : takes w (a ++ r) = none := takes_none.mpr h
/-- the law's reader tells it: so does the program's -/
theorem cond_reverse : ∀ (n' : Nat) (m : Nat) (s : Cs) (c : Cond) (r : Cs), lcond n' m s = some (c, r) → nl r → ∀ n, om s < n → cond n s = some (c, r) := by
  intro n'
  induction n' using Nat.strongRecOn with
  | _ n' ih =>
    intro m s c r h hr n ho
    rw [lcond] at h
    by_cases hn : n' = 0
    · rw [dif_pos hn] at h
      cases h
    rw [dif_neg hn] at h
    by_cases h1 : s.take 4 = q "not(" ∨ s.take 4 = q "all(" ∨ s.take 4 = q "any("
    · rw [if_pos h1] at h
      cases hl : lall (lcond (n' - 3) m) (q ")") (q ", ") m (s.drop 4) with
      | none =>
        rw [hl] at h
        cases h
      | some p =>
        obtain ⟨cs, r3⟩ := p
        rw [hl] at h
        dsimp only at h
        have key : ∀ w : Cs, Nm w → w ++ q "(" = s.take 4 → om w = 0 → w.head? ≠ some 63 → w ≠ q "yes" → w ≠ q "no" → (w = q "not" ∨ w = q "all" ∨ w = q "any") →
            cond n s = (if w = q "not" then (match cs with
              | [c] => some (.neg c, r3)
              | _ => none) else some (.many (decide (w = q "all")) cs, r3)) := by
          intro w hw e o1 hq hy hno h3
          have es : s = w ++ (q "(" ++ s.drop 4) := by
            rw [← List.append_assoc, e, List.take_append_drop]
          have os : om s = om w + (3 + om (s.drop 4)) := by
            conv => lhs; rw [es, om_app, om_app]
            rfl
          obtain ⟨g1, _⟩ := lall_sev (e := q ")") (b := q ", ") (f := Cond.sh) (G := fun _ => True) (k := n - 3) (rd := cond (n - 3)) sh_ne (nl_cons (by decide)) (nl_cons (by decide)) (by decide) (by decide) (fun s d r hd => (cond_sound _ s d r hd).1)
            (fun s' d r' h1 h2 h3 => ⟨ih (n' - 3) (by omega) m s' d r' h2 h3 (n - 3) h1, trivial⟩) hl (by omega)
          rw [cond, dif_neg (by omega)]
          have t1 : takes (q "?") s = none := takes_none.mpr fun x z => by
            rw [es] at z
            cases w with
            | nil => exact absurd hw.pos (by decide)
            | cons d w =>
              have z2 : d :: (w ++ (q "(" ++ s.drop 4)) = 63 :: x := z
              injection z2 with z3 _
              exact hq (by rw [z3]; rfl)
          have t2 : word s = some (w, q "(" ++ s.drop 4) := by
            conv => lhs; rw [es]
            exact word_app hw (nl_cons (by decide))
          rw [t1, t2]
          dsimp only
          rw [if_neg hy, if_neg hno, if_pos h3, takes_self]
          dsimp only
          rw [g1] <;> rfl
        rcases h1 with h1 | h1 | h1
        · rw [h1, if_pos rfl] at h
          rw [key (q "not") (nm_q (by decide)) (by rw [h1]; decide) (by decide) (by decide) (by decide) (by decide) (by decide), if_pos rfl]
          exact h
        · rw [h1, if_neg (by decide)] at h
          rw [key (q "all") (nm_q (by decide)) (by rw [h1]; decide) (by decide) (by decide) (by decide) (by decide) (by decide), if_neg (by decide)]
          exact h
        · rw [h1, if_neg (by decide)] at h
          rw [key (q "any") (nm_q (by decide)) (by rw [h1]; decide) (by decide) (by decide) (by decide) (by decide) (by decide), if_neg (by decide)]
          exact h
    rw [if_neg h1] at h
    by_cases h2 : s.take 1 = q "?"
    · rw [if_pos h2] at h
      have e := take_of h2
      rw [cond, dif_neg (by omega), takes_some.mpr e]
      dsimp only
      cases hw : word (s.drop 1) with
      | none =>
        rw [hw] at h
        cases h
      | some p =>
        obtain ⟨w, r2⟩ := p
        rw [hw] at h
        exact h
    rw [if_neg h2] at h
    by_cases h3 : s.take 3 = q "yes"
    · rw [if_pos h3] at h
      obtain ⟨rfl, rfl⟩ := Prod.mk.inj (Option.some.inj h)
      have e := take_of h3
      have t2 : word s = some (q "yes", s.drop 3) := by
        conv => lhs; rw [e]
        exact word_app (nm_q (by decide)) hr
      have t1 : takes (q "?") s = none := takes_none.mpr fun x z => by
        rw [e] at z
        simp [q_yes, q_no, q_not, q_all, q_any, q_3f, q_28, q_29, q_2c20, q_not28, q_all28, q_any28, q_back, q_leave, q_do, q_call, q_if, q_while, q_5b, q_5d, q_3b20, q_20, q_do20, q_call20, q_leave20, q_if20, q_while20, q_3a20, q_20then20, q_20else20, q_0] at z
      rw [cond, dif_neg (by omega), t1, t2]
      dsimp only
      rw [if_pos rfl]
    rw [if_neg h3] at h
    by_cases h4 : s.take 2 = q "no"
    · rw [if_pos h4] at h
      obtain ⟨rfl, rfl⟩ := Prod.mk.inj (Option.some.inj h)
      have e := take_of h4
      have t2 : word s = some (q "no", s.drop 2) := by
        conv => lhs; rw [e]
        exact word_app (nm_q (by decide)) hr
      have t1 : takes (q "?") s = none := takes_none.mpr fun x z => by
        rw [e] at z
        simp [q_yes, q_no, q_not, q_all, q_any, q_3f, q_28, q_29, q_2c20, q_not28, q_all28, q_any28, q_back, q_leave, q_do, q_call, q_if, q_while, q_5b, q_5d, q_3b20, q_20, q_do20, q_call20, q_leave20, q_if20, q_while20, q_3a20, q_20then20, q_20else20, q_0] at z
      rw [cond, dif_neg (by omega), t1, t2]
      dsimp only
      rw [if_neg (by decide), if_pos rfl]
    · rw [if_neg h4] at h
      cases h
/-! ### parts -/
theorem part_sound : ∀ (n : Nat) (s : Cs) (p : Part) (r : Cs), part n s = some (p, r) → s = p.sh ++ r ∧ p.wf := by
  intro n
  induction n using Nat.strongRecOn with
  | _ n ih =>
    intro s p r h
    rw [part] at h
    by_cases hn : n = 0
    · rw [dif_pos hn] at h
      cases h
    rw [dif_neg hn] at h
    cases ht : takes (q "[") s with
    | some r1 =>
      rw [ht] at h
      dsimp only at h
      cases hs : sev (part (n - 3)) (q "]") (q "; ") (r1.length + 1) [] r1 with
      | none =>
        rw [hs] at h
        cases h
      | some z =>
        obtain ⟨ps, r2⟩ := z
        rw [hs] at h
        obtain ⟨rfl, rfl⟩ := Prod.mk.inj (Option.some.inj h)
        obtain ⟨es, i1, i2, i3⟩ := sev_sound (f := Part.sh) (G := Part.wf) (fun s d r hd => ih (n - 3) (by omega) s d r hd) _ [] r1 ps r2 hs
        have i1' : ps = es := i1
        have i2' : r1 = joinL (q "; ") (es.map Part.sh) ++ (q "]" ++ r2) := i2
        subst i1'
        refine ⟨?_, (wfP_iff ps).mpr i3⟩
        rw [takes_some.mp ht, i2']
        show _ = (q "[" ++ (joinL (q "; ") (shP ps) ++ q "]")) ++ r2
        rw [shP_map]
        simp only [List.append_assoc]
    | none =>
      rw [ht] at h
      dsimp only at h
      cases hw : word s with
      | none =>
        rw [hw] at h
        cases h
      | some z =>
        obtain ⟨w, r1⟩ := z
        rw [hw] at h
        dsimp only at h
        obtain ⟨e1, e2, e3⟩ := word_some hw
        by_cases h1 : w = q "back"
        · rw [if_pos h1] at h
          obtain ⟨rfl, rfl⟩ := Prod.mk.inj (Option.some.inj h)
          exact ⟨by rw [e1, h1]; rfl, trivial⟩
        rw [if_neg h1] at h
        cases ht2 : takes (q " ") r1 with
        | none =>
          rw [ht2] at h
          cases h
        | some r2 =>
          rw [ht2] at h
          dsimp only at h
          have es : s = w ++ (q " " ++ r2) := by rw [e1, takes_some.mp ht2]
          by_cases h2 : w = q "leave"
          · rw [if_pos h2] at h
            cases hk : number r2 with
            | none =>
              rw [hk] at h
              cases h
            | some z =>
              obtain ⟨k, r3⟩ := z
              rw [hk] at h
              obtain ⟨rfl, rfl⟩ := Prod.mk.inj (Option.some.inj h)
              refine ⟨?_, (number_some hk).2.2⟩
              rw [es, h2, (number_some hk).1]
              show _ = (q "leave" ++ (q " " ++ numL k)) ++ r3
              simp only [List.append_assoc]
          rw [if_neg h2] at h
          by_cases h3 : w = q "do"
          · rw [if_pos h3] at h
            cases hk : word r2 with
            | none =>
              rw [hk] at h
              cases h
            | some z =>
              obtain ⟨k, r3⟩ := z
              rw [hk] at h
              obtain ⟨rfl, rfl⟩ := Prod.mk.inj (Option.some.inj h)
              obtain ⟨k1, k2, _⟩ := word_some hk
              refine ⟨?_, k2⟩
              rw [es, h3, k1]
              show _ = (q "do" ++ (q " " ++ k)) ++ r3
              simp only [List.append_assoc]
          rw [if_neg h3] at h
          by_cases h4 : w = q "call"
          · rw [if_pos h4] at h
            cases hk : word r2 with
            | none =>
              rw [hk] at h
              cases h
            | some z =>
              obtain ⟨k, r3⟩ := z
              rw [hk] at h
              obtain ⟨rfl, rfl⟩ := Prod.mk.inj (Option.some.inj h)
              obtain ⟨k1, k2, _⟩ := word_some hk
              refine ⟨?_, k2⟩
              rw [es, h4, k1]
              show _ = (q "call" ++ (q " " ++ k)) ++ r3
              simp only [List.append_assoc]
          rw [if_neg h4] at h
          by_cases h5 : w = q "if" ∨ w = q "while"
          · rw [if_pos h5] at h
            cases hc : cond (n - 1) r2 with
            | none =>
              rw [hc] at h
              cases h
            | some z =>
              obtain ⟨c, r3⟩ := z
              rw [hc] at h
              dsimp only at h
              obtain ⟨c1, c2⟩ := cond_sound _ _ _ _ hc
              by_cases h6 : w = q "while"
              · rw [if_pos h6] at h
                cases ht3 : takes (q ": ") r3 with
                | none =>
                  rw [ht3] at h
                  cases h
                | some r4 =>
                  rw [ht3] at h
                  dsimp only at h
                  cases hp : part (n - 1) r4 with
                  | none =>
                    rw [hp] at h
                    cases h
                  | some z =>
                    obtain ⟨p1, r5⟩ := z
                    rw [hp] at h
                    obtain ⟨rfl, rfl⟩ := Prod.mk.inj (Option.some.inj h)
                    obtain ⟨p2, p3⟩ := ih (n - 1) (by omega) _ _ _ hp
                    refine ⟨?_, c2, p3⟩
                    rw [es, h6, c1, takes_some.mp ht3, p2]
                    show _ = (q "while " ++ (c.sh ++ (q ": " ++ p1.sh))) ++ r5
                    simp only [List.append_assoc]
                    rfl
              · rw [if_neg h6] at h
                have hif : w = q "if" := h5.resolve_right h6
                cases ht3 : takes (q " then ") r3 with
                | none =>
                  rw [ht3] at h
                  cases h
                | some r4 =>
                  rw [ht3] at h
                  dsimp only at h
                  cases hp : part (n - 1) r4 with
                  | none =>
                    rw [hp] at h
                    cases h
                  | some z =>
                    obtain ⟨p1, r5⟩ := z
                    rw [hp] at h
                    dsimp only at h
                    obtain ⟨p2, p3⟩ := ih (n - 1) (by omega) _ _ _ hp
                    cases ht4 : takes (q " else ") r5 with
                    | none =>
                      rw [ht4] at h
                      cases h
                    | some r6 =>
                      rw [ht4] at h
                      dsimp only at h
                      cases hp2 : part (n - 1) r6 with
                      | none =>
                        rw [hp2] at h
                        cases h
                      | some z =>
                        obtain ⟨p4, r7⟩ := z
                        rw [hp2] at h
                        obtain ⟨rfl, rfl⟩ := Prod.mk.inj (Option.some.inj h)
                        obtain ⟨p5, p6⟩ := ih (n - 1) (by omega) _ _ _ hp2
                        refine ⟨?_, c2, p3, p6⟩
                        rw [es, hif, c1, takes_some.mp ht3, p2, takes_some.mp ht4, p5]
                        show _ = (q "if " ++ (c.sh ++ (q " then " ++ (p1.sh ++ (q " else " ++ p4.sh))))) ++ r7
                        simp only [List.append_assoc]
                        rfl
          · rw [if_neg h5] at h
            cases h
end M
end

section
set_option linter.all false
set_option maxRecDepth 100000
set_option maxHeartbeats 4000000
namespace M
open L2 TL
theorem om_le {a b s : Cs} (h : s = a ++ b) : om b ≤ om s := by
  rw [h, om_app]
  omega
theorem len_le {a b s : Cs} (h : s = a ++ b) : b.length ≤ s.length := by
  rw [h, List.length_append]
  omega
/-- the program's reader tells a part without leave 0: so does the law's -/
theorem part_forward : ∀ (n : Nat) (s : Cs) (p : Part) (r : Cs), part n s = some (p, r) → p.pos = true → ∀ n' m, om s < n' → s.length ≤ m → lpart n' m s = some (p, r) := by
  intro n
  induction n using Nat.strongRecOn with
  | _ n ih =>
    intro s p r h hpos n' m ho hm
    rw [part] at h
    by_cases hn : n = 0
    · rw [dif_pos hn] at h
      cases h
    rw [dif_neg hn] at h
    cases ht : takes (q "[") s with
    | some r1 =>
      rw [ht] at h
      dsimp only at h
      have e := takes_some.mp ht
      cases hs : sev (part (n - 3)) (q "]") (q "; ") (r1.length + 1) [] r1 with
      | none =>
        rw [hs] at h
        cases h
      | some z =>
        obtain ⟨ps, r2⟩ := z
        rw [hs] at h
        obtain ⟨rfl, rfl⟩ := Prod.mk.inj (Option.some.inj h)
        have os : om s = 3 + om r1 := by rw [e, om_app]; rfl
        have ls : s.length = 1 + r1.length := by rw [e, List.length_append]; rfl
        have go : lall (lpart (n' - 3) m) (q "]") (q "; ") m r1 = some (ps, r2) :=
          sev_lall (f := Part.sh) (G := fun p => p.pos = true) (M := m) (k := n' - 3) shp_ne (fun s d r hd => (part_sound _ s d r hd).1) (fun s' d r' h1 h2 h3 hg => ih (n - 3) (by omega) s' d r' h3 hg (n' - 3) m h2 h1) hs ((posP_iff ps).mp hpos) (by omega) (by omega) (by omega)
        rw [lpart, dif_neg (by omega), e, if_neg (by simp [q_yes, q_no, q_not, q_all, q_any, q_3f, q_28, q_29, q_2c20, q_not28, q_all28, q_any28, q_back, q_leave, q_do, q_call, q_if, q_while, q_5b, q_5d, q_3b20, q_20, q_do20, q_call20, q_leave20, q_if20, q_while20, q_3a20, q_20then20, q_20else20, q_0]), if_neg (by simp [q_yes, q_no, q_not, q_all, q_any, q_3f, q_28, q_29, q_2c20, q_not28, q_all28, q_any28, q_back, q_leave, q_do, q_call, q_if, q_while, q_5b, q_5d, q_3b20, q_20, q_do20, q_call20, q_leave20, q_if20, q_while20, q_3a20, q_20then20, q_20else20, q_0]), if_neg (by simp [q_yes, q_no, q_not, q_all, q_any, q_3f, q_28, q_29, q_2c20, q_not28, q_all28, q_any28, q_back, q_leave, q_do, q_call, q_if, q_while, q_5b, q_5d, q_3b20, q_20, q_do20, q_call20, q_leave20, q_if20, q_while20, q_3a20, q_20then20, q_20else20, q_0]), if_neg (by simp [q_yes, q_no, q_not, q_all, q_any, q_3f, q_28, q_29, q_2c20, q_not28, q_all28, q_any28, q_back, q_leave, q_do, q_call, q_if, q_while, q_5b, q_5d, q_3b20, q_20, q_do20, q_call20, q_leave20, q_if20, q_while20, q_3a20, q_20then20, q_20else20, q_0]), if_pos (by simp [q_yes, q_no, q_not, q_all, q_any, q_3f, q_28, q_29, q_2c20, q_not28, q_all28, q_any28, q_back, q_leave, q_do, q_call, q_if, q_while, q_5b, q_5d, q_3b20, q_20, q_do20, q_call20, q_leave20, q_if20, q_while20, q_3a20, q_20then20, q_20else20, q_0])]
        have e2 : (q "[" ++ r1).drop 1 = r1 := rfl
        rw [e2, go]
    | none =>
      rw [ht] at h
      dsimp only at h
      cases hw : word s with
      | none =>
        rw [hw] at h
        cases h
      | some z =>
        obtain ⟨w, r1⟩ := z
        rw [hw] at h
        dsimp only at h
        obtain ⟨e1, e2, e3⟩ := word_some hw
        by_cases h1 : w = q "back"
        · rw [if_pos h1] at h
          rw [lpart, dif_neg (by omega), e1, h1, if_pos (by simp [q_yes, q_no, q_not, q_all, q_any, q_3f, q_28, q_29, q_2c20, q_not28, q_all28, q_any28, q_back, q_leave, q_do, q_call, q_if, q_while, q_5b, q_5d, q_3b20, q_20, q_do20, q_call20, q_leave20, q_if20, q_while20, q_3a20, q_20then20, q_20else20, q_0])]
          exact h
        rw [if_neg h1] at h
        cases ht2 : takes (q " ") r1 with
        | none =>
          rw [ht2] at h
          cases h
        | some r2 =>
          rw [ht2] at h
          dsimp only at h
          have es : s = w ++ (q " " ++ r2) := by rw [e1, takes_some.mp ht2]
          by_cases h2 : w = q "leave"
          · rw [if_pos h2] at h
            have ex : s = q "leave " ++ r2 := by rw [es, h2]; rfl
            have d6 : s.drop 6 = r2 := by rw [ex]; rfl
            cases hk : number r2 with
            | none =>
              rw [hk] at h
              cases h
            | some z =>
              obtain ⟨k, r3⟩ := z
              rw [hk] at h
              obtain ⟨rfl, rfl⟩ := Prod.mk.inj (Option.some.inj h)
              have hk0 : ¬ k = 0 := by
                have : decide (0 < k) = true := hpos
                have := of_decide_eq_true this
                omega
              rw [lpart, dif_neg (by omega), d6, ex, if_neg (by simp [q_yes, q_no, q_not, q_all, q_any, q_3f, q_28, q_29, q_2c20, q_not28, q_all28, q_any28, q_back, q_leave, q_do, q_call, q_if, q_while, q_5b, q_5d, q_3b20, q_20, q_do20, q_call20, q_leave20, q_if20, q_while20, q_3a20, q_20then20, q_20else20, q_0]), if_neg (by simp [q_yes, q_no, q_not, q_all, q_any, q_3f, q_28, q_29, q_2c20, q_not28, q_all28, q_any28, q_back, q_leave, q_do, q_call, q_if, q_while, q_5b, q_5d, q_3b20, q_20, q_do20, q_call20, q_leave20, q_if20, q_while20, q_3a20, q_20then20, q_20else20, q_0]), if_neg (by simp [q_yes, q_no, q_not, q_all, q_any, q_3f, q_28, q_29, q_2c20, q_not28, q_all28, q_any28, q_back, q_leave, q_do, q_call, q_if, q_while, q_5b, q_5d, q_3b20, q_20, q_do20, q_call20, q_leave20, q_if20, q_while20, q_3a20, q_20then20, q_20else20, q_0]), if_pos (by simp [q_yes, q_no, q_not, q_all, q_any, q_3f, q_28, q_29, q_2c20, q_not28, q_all28, q_any28, q_back, q_leave, q_do, q_call, q_if, q_while, q_5b, q_5d, q_3b20, q_20, q_do20, q_call20, q_leave20, q_if20, q_while20, q_3a20, q_20then20, q_20else20, q_0]), hk]
              dsimp only
              rw [if_neg hk0]
          rw [if_neg h2] at h
          by_cases h3 : w = q "do"
          · rw [if_pos h3] at h
            have ex : s = q "do " ++ r2 := by rw [es, h3]; rfl
            have d3 : s.drop 3 = r2 := by rw [ex]; rfl
            rw [lpart, dif_neg (by omega), d3, ex, if_neg ?_, if_pos (by simp [q_yes, q_no, q_not, q_all, q_any, q_3f, q_28, q_29, q_2c20, q_not28, q_all28, q_any28, q_back, q_leave, q_do, q_call, q_if, q_while, q_5b, q_5d, q_3b20, q_20, q_do20, q_call20, q_leave20, q_if20, q_while20, q_3a20, q_20then20, q_20else20, q_0])]
            · exact h
            · cases r2 <;> simp [q_yes, q_no, q_not, q_all, q_any, q_3f, q_28, q_29, q_2c20, q_not28, q_all28, q_any28, q_back, q_leave, q_do, q_call, q_if, q_while, q_5b, q_5d, q_3b20, q_20, q_do20, q_call20, q_leave20, q_if20, q_while20, q_3a20, q_20then20, q_20else20, q_0]
          rw [if_neg h3] at h
          by_cases h4 : w = q "call"
          · rw [if_pos h4] at h
            have ex : s = q "call " ++ r2 := by rw [es, h4]; rfl
            have d5 : s.drop 5 = r2 := by rw [ex]; rfl
            rw [lpart, dif_neg (by omega), d5, ex, if_neg (by simp [q_yes, q_no, q_not, q_all, q_any, q_3f, q_28, q_29, q_2c20, q_not28, q_all28, q_any28, q_back, q_leave, q_do, q_call, q_if, q_while, q_5b, q_5d, q_3b20, q_20, q_do20, q_call20, q_leave20, q_if20, q_while20, q_3a20, q_20then20, q_20else20, q_0]), if_neg (by simp [q_yes, q_no, q_not, q_all, q_any, q_3f, q_28, q_29, q_2c20, q_not28, q_all28, q_any28, q_back, q_leave, q_do, q_call, q_if, q_while, q_5b, q_5d, q_3b20, q_20, q_do20, q_call20, q_leave20, q_if20, q_while20, q_3a20, q_20then20, q_20else20, q_0]), if_pos (by simp [q_yes, q_no, q_not, q_all, q_any, q_3f, q_28, q_29, q_2c20, q_not28, q_all28, q_any28, q_back, q_leave, q_do, q_call, q_if, q_while, q_5b, q_5d, q_3b20, q_20, q_do20, q_call20, q_leave20, q_if20, q_while20, q_3a20, q_20then20, q_20else20, q_0])]
            exact h
          rw [if_neg h4] at h
          by_cases h5 : w = q "if" ∨ w = q "while"
          · rw [if_pos h5] at h
            cases hc : cond (n - 1) r2 with
            | none =>
              rw [hc] at h
              cases h
            | some z =>
              obtain ⟨c, r3⟩ := z
              rw [hc] at h
              dsimp only at h
              obtain ⟨c1, c2⟩ := cond_sound _ _ _ _ hc
              have o2 : om s = om w + (1 + om r2) := by rw [es, om_app, om_app]; rfl
              have l2 : r2.length ≤ s.length := by rw [es, List.length_append, List.length_append]; omega
              have o3 := om_le c1
              have l3 := len_le c1
              have fc : lcond (n' - 1) m r2 = some (c, r3) := cond_forward _ _ _ _ hc _ _ (by omega) (by omega)
              by_cases h6 : w = q "while"
              · rw [if_pos h6] at h
                cases ht3 : takes (q ": ") r3 with
                | none =>
                  rw [ht3] at h
                  cases h
                | some r4 =>
                  rw [ht3] at h
                  dsimp only at h
                  have o4 := om_le (takes_some.mp ht3)
                  have l4 := len_le (takes_some.mp ht3)
                  cases hp : part (n - 1) r4 with
                  | none =>
                    rw [hp] at h
                    cases h
                  | some z =>
                    obtain ⟨p1, r5⟩ := z
                    rw [hp] at h
                    obtain ⟨rfl, rfl⟩ := Prod.mk.inj (Option.some.inj h)
                    have fp := ih (n - 1) (by omega) _ _ _ hp hpos (n' - 1) m (by omega) (by omega)
                    have ex : s = q "while " ++ r2 := by rw [es, h6]; rfl
                    have d6 : s.drop 6 = r2 := by rw [ex]; rfl
                    rw [lpart, dif_neg (by omega), d6, ex, if_neg (by simp [q_yes, q_no, q_not, q_all, q_any, q_3f, q_28, q_29, q_2c20, q_not28, q_all28, q_any28, q_back, q_leave, q_do, q_call, q_if, q_while, q_5b, q_5d, q_3b20, q_20, q_do20, q_call20, q_leave20, q_if20, q_while20, q_3a20, q_20then20, q_20else20, q_0]), if_neg (by simp [q_yes, q_no, q_not, q_all, q_any, q_3f, q_28, q_29, q_2c20, q_not28, q_all28, q_any28, q_back, q_leave, q_do, q_call, q_if, q_while, q_5b, q_5d, q_3b20, q_20, q_do20, q_call20, q_leave20, q_if20, q_while20, q_3a20, q_20then20, q_20else20, q_0]), if_neg (by simp [q_yes, q_no, q_not, q_all, q_any, q_3f, q_28, q_29, q_2c20, q_not28, q_all28, q_any28, q_back, q_leave, q_do, q_call, q_if, q_while, q_5b, q_5d, q_3b20, q_20, q_do20, q_call20, q_leave20, q_if20, q_while20, q_3a20, q_20then20, q_20else20, q_0]), if_neg (by simp [q_yes, q_no, q_not, q_all, q_any, q_3f, q_28, q_29, q_2c20, q_not28, q_all28, q_any28, q_back, q_leave, q_do, q_call, q_if, q_while, q_5b, q_5d, q_3b20, q_20, q_do20, q_call20, q_leave20, q_if20, q_while20, q_3a20, q_20then20, q_20else20, q_0]), if_neg (by simp [q_yes, q_no, q_not, q_all, q_any, q_3f, q_28, q_29, q_2c20, q_not28, q_all28, q_any28, q_back, q_leave, q_do, q_call, q_if, q_while, q_5b, q_5d, q_3b20, q_20, q_do20, q_call20, q_leave20, q_if20, q_while20, q_3a20, q_20then20, q_20else20, q_0]), if_neg (by simp [q_yes, q_no, q_not, q_all, q_any, q_3f, q_28, q_29, q_2c20, q_not28, q_all28, q_any28, q_back, q_leave, q_do, q_call, q_if, q_while, q_5b, q_5d, q_3b20, q_20, q_do20, q_call20, q_leave20, q_if20, q_while20, q_3a20, q_20then20, q_20else20, q_0]), if_pos (by simp [q_yes, q_no, q_not, q_all, q_any, q_3f, q_28, q_29, q_2c20, q_not28, q_all28, q_any28, q_back, q_leave, q_do, q_call, q_if, q_while, q_5b, q_5d, q_3b20, q_20, q_do20, q_call20, q_leave20, q_if20, q_while20, q_3a20, q_20then20, q_20else20, q_0]), fc]
                    dsimp only
                    rw [ht3]
                    dsimp only
                    rw [fp]
              · rw [if_neg h6] at h
                have hif : w = q "if" := h5.resolve_right h6
                cases ht3 : takes (q " then ") r3 with
                | none =>
                  rw [ht3] at h
                  cases h
                | some r4 =>
                  rw [ht3] at h
                  dsimp only at h
                  have o4 : om r3 = 2 + om r4 := by rw [takes_some.mp ht3, om_app]; rfl
                  have l4 := len_le (takes_some.mp ht3)
                  cases hp : part (n - 1) r4 with
                  | none =>
                    rw [hp] at h
                    cases h
                  | some z =>
                    obtain ⟨p1, r5⟩ := z
                    rw [hp] at h
                    dsimp only at h
                    obtain ⟨s1, _⟩ := part_sound _ _ _ _ hp
                    have o5 := om_le s1
                    have l5 := len_le s1
                    cases ht4 : takes (q " else ") r5 with
                    | none =>
                      rw [ht4] at h
                      cases h
                    | some r6 =>
                      rw [ht4] at h
                      dsimp only at h
                      have o6 := om_le (takes_some.mp ht4)
                      have l6 := len_le (takes_some.mp ht4)
                      cases hp2 : part (n - 1) r6 with
                      | none =>
                        rw [hp2] at h
                        cases h
                      | some z =>
                        obtain ⟨p4, r7⟩ := z
                        rw [hp2] at h
                        obtain ⟨rfl, rfl⟩ := Prod.mk.inj (Option.some.inj h)
                        have hpos' : (p1.pos && p4.pos) = true := hpos
                        obtain ⟨g1, g2⟩ := Bool.and_eq_true_iff.mp hpos'
                        have fp := ih (n - 1) (by omega) _ _ _ hp g1 (n' - 2) m (by omega) (by omega)
                        have fp2 := ih (n - 1) (by omega) _ _ _ hp2 g2 (n' - 2) m (by omega) (by omega)
                        have ex : s = q "if " ++ r2 := by rw [es, hif]; rfl
                        have d3 : s.drop 3 = r2 := by rw [ex]; rfl
                        rw [lpart, dif_neg (by omega), d3, ex, if_neg ?_, if_neg (by simp [q_yes, q_no, q_not, q_all, q_any, q_3f, q_28, q_29, q_2c20, q_not28, q_all28, q_any28, q_back, q_leave, q_do, q_call, q_if, q_while, q_5b, q_5d, q_3b20, q_20, q_do20, q_call20, q_leave20, q_if20, q_while20, q_3a20, q_20then20, q_20else20, q_0]), if_neg ?_, if_neg ?_, if_neg (by simp [q_yes, q_no, q_not, q_all, q_any, q_3f, q_28, q_29, q_2c20, q_not28, q_all28, q_any28, q_back, q_leave, q_do, q_call, q_if, q_while, q_5b, q_5d, q_3b20, q_20, q_do20, q_call20, q_leave20, q_if20, q_while20, q_3a20, q_20then20, q_20else20, q_0]), if_pos (by simp [q_yes, q_no, q_not, q_all, q_any, q_3f, q_28, q_29, q_2c20, q_not28, q_all28, q_any28, q_back, q_leave, q_do, q_call, q_if, q_while, q_5b, q_5d, q_3b20, q_20, q_do20, q_call20, q_leave20, q_if20, q_while20, q_3a20, q_20then20, q_20else20, q_0]), fc]
                        · dsimp only
                          rw [ht3]
                          dsimp only
                          rw [fp]
                          dsimp only
                          rw [ht4]
                          dsimp only
                          rw [fp2]
                        · cases r2 <;> simp [q_yes, q_no, q_not, q_all, q_any, q_3f, q_28, q_29, q_2c20, q_not28, q_all28, q_any28, q_back, q_leave, q_do, q_call, q_if, q_while, q_5b, q_5d, q_3b20, q_20, q_do20, q_call20, q_leave20, q_if20, q_while20, q_3a20, q_20then20, q_20else20, q_0]
                        · cases r2 <;> simp [q_yes, q_no, q_not, q_all, q_any, q_3f, q_28, q_29, q_2c20, q_not28, q_all28, q_any28, q_back, q_leave, q_do, q_call, q_if, q_while, q_5b, q_5d, q_3b20, q_20, q_do20, q_call20, q_leave20, q_if20, q_while20, q_3a20, q_20then20, q_20else20, q_0]
                        · cases r2 <;> simp [q_yes, q_no, q_not, q_all, q_any, q_3f, q_28, q_29, q_2c20, q_not28, q_all28, q_any28, q_back, q_leave, q_do, q_call, q_if, q_while, q_5b, q_5d, q_3b20, q_20, q_do20, q_call20, q_leave20, q_if20, q_while20, q_3a20, q_20then20, q_20else20, q_0]
          · rw [if_neg h5] at h
            cases h
/-- the law's reader tells it: so does the program's, and it has no leave 0 -/
theorem part_reverse : ∀ (n' : Nat) (m : Nat) (s : Cs) (p : Part) (r : Cs), lpart n' m s = some (p, r) → nl r → ∀ n, om s < n → part n s = some (p, r) ∧ p.pos = true := by
  intro n'
  induction n' using Nat.strongRecOn with
  | _ n' ih =>
    intro m s p r h hr n ho
    rw [lpart] at h
    by_cases hn : n' = 0
    · rw [dif_pos hn] at h
      cases h
    rw [dif_neg hn] at h
    rw [part, dif_neg (by omega)]
    -- the first word of s
    have first : ∀ (w : String) (x : Cs), s = q w ++ x → nl x → (decide (0 < (q w).length) && decide ((q w).length ≤ 8) && (q w).all isLet) = true → takes (q "[") s = none ∧ word s = some (q w, x) := fun w x e hx hw => by
      refine ⟨takes_none.mpr fun y z => ?_, by rw [e]; exact word_app (nm_q hw) hx⟩
      have hn := nm_q hw
      rw [e] at z
      cases ew : q w with
      | nil =>
        rw [ew] at hn
        exact absurd hn.pos (by decide)
      | cons d u =>
        rw [ew] at z hn
        have z2 : d :: (u ++ x) = 91 :: y := z
        injection z2 with z3 _
        have := hn.all d (List.mem_cons_self ..)
        rw [z3] at this
        exact absurd this (by decide)
    have sp : ∀ x : Cs, nl (q " " ++ x) := fun x => nl_cons (by decide)
    by_cases h1 : s.take 4 = q "back"
    · rw [if_pos h1] at h
      obtain ⟨rfl, rfl⟩ := Prod.mk.inj (Option.some.inj h)
      obtain ⟨f1, f2⟩ := first "back" _ (take_of h1) hr (by decide)
      rw [f1, f2]
      dsimp only
      rw [if_pos rfl]
      exact ⟨rfl, rfl⟩
    rw [if_neg h1] at h
    by_cases h2 : s.take 3 = q "do "
    · rw [if_pos h2] at h
      have e : s = q "do" ++ (q " " ++ s.drop 3) := take_of h2
      obtain ⟨f1, f2⟩ := first "do" _ e (sp _) (by decide)
      rw [f1, f2]
      dsimp only
      rw [if_neg (by decide), takes_self]
      dsimp only
      rw [if_neg (by decide), if_pos rfl]
      cases hw : word (s.drop 3) with
      | none =>
        rw [hw] at h
        cases h
      | some z =>
        obtain ⟨x, r2⟩ := z
        rw [hw] at h
        obtain ⟨rfl, rfl⟩ := Prod.mk.inj (Option.some.inj h)
        exact ⟨rfl, rfl⟩
    rw [if_neg h2] at h
    by_cases h3 : s.take 5 = q "call "
    · rw [if_pos h3] at h
      have e : s = q "call" ++ (q " " ++ s.drop 5) := take_of h3
      obtain ⟨f1, f2⟩ := first "call" _ e (sp _) (by decide)
      rw [f1, f2]
      dsimp only
      rw [if_neg (by decide), takes_self]
      dsimp only
      rw [if_neg (by decide), if_neg (by decide), if_pos rfl]
      cases hw : word (s.drop 5) with
      | none =>
        rw [hw] at h
        cases h
      | some z =>
        obtain ⟨x, r2⟩ := z
        rw [hw] at h
        obtain ⟨rfl, rfl⟩ := Prod.mk.inj (Option.some.inj h)
        exact ⟨rfl, rfl⟩
    rw [if_neg h3] at h
    by_cases h4 : s.take 6 = q "leave "
    · rw [if_pos h4] at h
      have e : s = q "leave" ++ (q " " ++ s.drop 6) := take_of h4
      obtain ⟨f1, f2⟩ := first "leave" _ e (sp _) (by decide)
      rw [f1, f2]
      dsimp only
      rw [if_neg (by decide), takes_self]
      dsimp only
      rw [if_pos rfl]
      cases hw : number (s.drop 6) with
      | none =>
        rw [hw] at h
        cases h
      | some z =>
        obtain ⟨k, r2⟩ := z
        rw [hw] at h
        dsimp only at h
        by_cases hk : k = 0
        · rw [if_pos hk] at h
          cases h
        · rw [if_neg hk] at h
          obtain ⟨rfl, rfl⟩ := Prod.mk.inj (Option.some.inj h)
          exact ⟨rfl, decide_eq_true (by omega)⟩
    rw [if_neg h4] at h
    by_cases h5 : s.take 1 = q "["
    · rw [if_pos h5] at h
      have e := take_of h5
      have os : om s = 3 + om (s.drop 1) := by
        conv => lhs; rw [e, om_app]
        rfl
      rw [takes_some.mpr e]
      dsimp only
      cases hl : lall (lpart (n' - 3) m) (q "]") (q "; ") m (s.drop 1) with
      | none =>
        rw [hl] at h
        cases h
      | some z =>
        obtain ⟨ps, r2⟩ := z
        rw [hl] at h
        obtain ⟨rfl, rfl⟩ := Prod.mk.inj (Option.some.inj h)
        obtain ⟨g1, g2⟩ := lall_sev (e := q "]") (b := q "; ") (f := Part.sh) (G := fun p => p.pos = true) (k := n - 3) (rd := part (n - 3)) shp_ne (nl_cons (by decide)) (nl_cons (by decide)) (by decide) (by decide) (fun s d r hd => (part_sound _ s d r hd).1)
            (fun s' d r' h1 h2 h3 => ih (n' - 3) (by omega) m s' d r' h2 h3 (n - 3) h1) hl (by omega)
        rw [g1]
        exact ⟨rfl, (posP_iff ps).mpr g2⟩
    rw [if_neg h5] at h
    by_cases h6 : s.take 3 = q "if "
    · rw [if_pos h6] at h
      have e : s = q "if" ++ (q " " ++ s.drop 3) := take_of h6
      have os : om s = 1 + om (s.drop 3) := by
        conv => lhs; rw [e, om_app, om_app]
        have a1 : om (q "if") = 0 := by decide
        have a2 : om (q " ") = 1 := by decide
        omega
      obtain ⟨f1, f2⟩ := first "if" _ e (sp _) (by decide)
      rw [f1, f2]
      dsimp only
      rw [if_neg (by decide), takes_self]
      dsimp only
      rw [if_neg (by decide), if_neg (by decide), if_neg (by decide), if_pos (by left; rfl)]
      cases hc : lcond (n' - 1) m (s.drop 3) with
      | none =>
        rw [hc] at h
        cases h
      | some z =>
        obtain ⟨c, r2⟩ := z
        rw [hc] at h
        dsimp only at h
        cases ht : takes (q " then ") r2 with
        | none =>
          rw [ht] at h
          cases h
        | some r3 =>
          rw [ht] at h
          dsimp only at h
          have e2 := takes_some.mp ht
          have c1 := cond_reverse _ _ _ _ _ hc (by rw [e2]; exact nl_cons (by decide)) (n - 1) (by omega)
          have o2 := om_le (cond_sound _ _ _ _ c1).1
          have o3 := om_le e2
          rw [c1]
          dsimp only
          rw [if_neg (by decide), ht]
          dsimp only
          cases hp : lpart (n' - 2) m r3 with
          | none =>
            rw [hp] at h
            cases h
          | some z =>
            obtain ⟨p1, r4⟩ := z
            rw [hp] at h
            dsimp only at h
            cases ht2 : takes (q " else ") r4 with
            | none =>
              rw [ht2] at h
              cases h
            | some r5 =>
              rw [ht2] at h
              dsimp only at h
              have e3 := takes_some.mp ht2
              obtain ⟨p2, p3⟩ := ih (n' - 2) (by omega) m _ _ _ hp (by rw [e3]; exact nl_cons (by decide)) (n - 1) (by omega)
              have o4 := om_le (part_sound _ _ _ _ p2).1
              have o5 := om_le e3
              rw [p2]
              dsimp only
              rw [ht2]
              dsimp only
              cases hp2 : lpart (n' - 2) m r5 with
              | none =>
                rw [hp2] at h
                cases h
              | some z =>
                obtain ⟨p4, r6⟩ := z
                rw [hp2] at h
                obtain ⟨rfl, rfl⟩ := Prod.mk.inj (Option.some.inj h)
                obtain ⟨p5, p6⟩ := ih (n' - 2) (by omega) m _ _ _ hp2 hr (n - 1) (by omega)
                rw [p5]
                exact ⟨rfl, by show (p1.pos && p4.pos) = true; rw [p3, p6]; rfl⟩
    rw [if_neg h6] at h
    by_cases h7 : s.take 6 = q "while "
    · rw [if_pos h7] at h
      have e : s = q "while" ++ (q " " ++ s.drop 6) := take_of h7
      have os : om s = 1 + om (s.drop 6) := by
        conv => lhs; rw [e, om_app, om_app]
        have a1 : om (q "while") = 0 := by decide
        have a2 : om (q " ") = 1 := by decide
        omega
      obtain ⟨f1, f2⟩ := first "while" _ e (sp _) (by decide)
      rw [f1, f2]
      dsimp only
      rw [if_neg (by decide), takes_self]
      dsimp only
      rw [if_neg (by decide), if_neg (by decide), if_neg (by decide), if_pos (by right; rfl)]
      cases hc : lcond (n' - 1) m (s.drop 6) with
      | none =>
        rw [hc] at h
        cases h
      | some z =>
        obtain ⟨c, r2⟩ := z
        rw [hc] at h
        dsimp only at h
        cases ht : takes (q ": ") r2 with
        | none =>
          rw [ht] at h
          cases h
        | some r3 =>
          rw [ht] at h
          dsimp only at h
          have e2 := takes_some.mp ht
          have c1 := cond_reverse _ _ _ _ _ hc (by rw [e2]; exact nl_cons (by decide)) (n - 1) (by omega)
          have o2 := om_le (cond_sound _ _ _ _ c1).1
          have o3 := om_le e2
          rw [c1]
          dsimp only
          rw [if_pos rfl, ht]
          dsimp only
          cases hp : lpart (n' - 1) m r3 with
          | none =>
            rw [hp] at h
            cases h
          | some z =>
            obtain ⟨p1, r4⟩ := z
            rw [hp] at h
            obtain ⟨rfl, rfl⟩ := Prod.mk.inj (Option.some.inj h)
            obtain ⟨p2, p3⟩ := ih (n' - 1) (by omega) m _ _ _ hp hr (n - 1) (by omega)
            rw [p2]
            exact ⟨rfl, p3⟩
    · rw [if_neg h7] at h
      cases h
/-! ### what is told of a whole text -/
def readC (n : Nat) (s : Cs) : Option Cond := match cond n s with
  | none => none
  | some (c, _) => if c.sh = s then some c else none
def readP (n : Nat) (s : Cs) : Option Part := match part n s with
  | none => none
  | some (p, _) => if p.sh = s ∧ p.pos = true then some p else none
def lawC (n m : Nat) (s : Cs) : Option Cond := match lcond n m s with
  | none => none
  | some (c, r) => if r = [] then some c else none
def lawP (n m : Nat) (s : Cs) : Option Part := match lpart n m s with
  | none => none
  | some (p, r) => if r = [] then some p else none
theorem readC_eq {n n' m : Nat} {s : Cs} (h1 : om s < n) (h2 : om s < n') (hm : s.length ≤ m) : readC n s = lawC n' m s := by
  unfold readC lawC
  cases hc : cond n s with
  | none =>
    cases hl : lcond n' m s with
    | none => rfl
    | some z =>
      obtain ⟨c, r⟩ := z
      dsimp only
      by_cases hr : r = []
      · subst hr
        rw [cond_reverse _ _ _ _ _ hl nl_nil n h1] at hc
        cases hc
      · rw [if_neg hr]
  | some z =>
    obtain ⟨c, r⟩ := z
    rw [cond_forward _ _ _ _ hc n' m h2 hm]
    dsimp only
    have e := (cond_sound _ _ _ _ hc).1
    by_cases hr : r = []
    · rw [if_pos hr, if_pos (by rw [e, hr, List.append_nil])]
    · rw [if_neg hr, if_neg fun z => hr (by
        rw [e] at z
        have l := congrArg List.length z
        rw [List.length_append] at l
        exact List.length_eq_zero_iff.mp (by omega))]
theorem readP_eq {n n' m : Nat} {s : Cs} (h1 : om s < n) (h2 : om s < n') (hm : s.length ≤ m) : readP n s = lawP n' m s := by
  unfold readP lawP
  cases hc : part n s with
  | none =>
    cases hl : lpart n' m s with
    | none => rfl
    | some z =>
      obtain ⟨c, r⟩ := z
      dsimp only
      by_cases hr : r = []
      · subst hr
        rw [(part_reverse _ _ _ _ _ hl nl_nil n h1).1] at hc
        cases hc
      · rw [if_neg hr]
  | some z =>
    obtain ⟨c, r⟩ := z
    dsimp only
    have e := (part_sound _ _ _ _ hc).1
    have whole : c.sh = s ↔ r = [] := by
      constructor
      · intro z
        rw [e] at z
        have l := congrArg List.length z
        rw [List.length_append] at l
        exact List.length_eq_zero_iff.mp (by omega)
      · intro z
        rw [e, z, List.append_nil]
    by_cases hp : c.pos = true
    · rw [part_forward _ _ _ _ hc hp n' m h2 hm]
      dsimp only
      by_cases hr : r = []
      · rw [if_pos hr, if_pos ⟨whole.mpr hr, hp⟩]
      · rw [if_neg hr, if_neg fun z => hr (whole.mp z.1)]
    · rw [if_neg fun z => hp z.2]
      cases hl : lpart n' m s with
      | none => rfl
      | some z =>
        obtain ⟨c2, r2⟩ := z
        dsimp only
        by_cases hr : r2 = []
        · subst hr
          obtain ⟨z1, z2⟩ := part_reverse _ _ _ _ _ hl nl_nil n h1
          rw [z1] at hc
          obtain ⟨rfl, _⟩ := Prod.mk.inj (Option.some.inj hc)
          exact absurd z2 hp
        · rw [if_neg hr]
theorem lawC_sh {n m : Nat} {s : Cs} {c : Cond} (h : lawC n m s = some c) : c.sh = s ∧ c.wf := by
  unfold lawC at h
  cases hl : lcond n m s with
  | none =>
    rw [hl] at h
    cases h
  | some z =>
    obtain ⟨c', r⟩ := z
    rw [hl] at h
    dsimp only at h
    by_cases hr : r = []
    · rw [if_pos hr] at h
      cases h
      subst hr
      obtain ⟨e, w⟩ := cond_sound _ _ _ _ (cond_reverse _ _ _ _ _ hl nl_nil (om s + 1) (by omega))
      exact ⟨by rw [e, List.append_nil], w⟩
    · rw [if_neg hr] at h
      cases h
theorem lawP_sh {n m : Nat} {s : Cs} {p : Part} (h : lawP n m s = some p) : p.sh = s ∧ p.wf ∧ p.pos = true := by
  unfold lawP at h
  cases hl : lpart n m s with
  | none =>
    rw [hl] at h
    cases h
  | some z =>
    obtain ⟨c', r⟩ := z
    rw [hl] at h
    dsimp only at h
    by_cases hr : r = []
    · rw [if_pos hr] at h
      cases h
      subst hr
      obtain ⟨z1, z2⟩ := part_reverse _ _ _ _ _ hl nl_nil (om s + 1) (by omega)
      obtain ⟨e, w⟩ := part_sound _ _ _ _ z1
      exact ⟨by rw [e, List.append_nil], w, z2⟩
    · rw [if_neg hr] at h
      cases h
end M
end

section
set_option Elab.async false
set_option linter.all false
set_option maxRecDepth 100000
set_option maxHeartbeats 4000000
/-! k92: the small defs. The bodies' terms are printed by mk.py. -/
namespace K92
open PySem PySem.Spec PyProof.Rows L2 He HL
abbrev P0 : Program := PySem.Challenge.pw_bynamealone_k92_small_texts_spoilt
abbrev CN (K : PySem.W.Frag) : Addr := ga K "NoText"
def supO (b : List Stmt) : Expr := match b with
  | [.Expr (.Call (.Attribute o _ _) _ _ _) _] => o
  | _ => .Constant .none 0 ⟨0, 0, 0, 0⟩
theorem pmkN {X : Cx} {k : Nat} {p pos : Pos} (W : Wl X.K X.mg) (hr : Room (k + 1) X.A) (hP : X.prog = P0 := by rfl) (hg : Gl X "NoText" := by rfl) : PMk X (.Call (.Name "NoText" p) [] [] pos) (XR.tMkN (CN X.K)) := by
  subst_eqs
  refine XR.pmk_noarg (pl := fun env => do return (← importBound (supO x_NoText.body) env).getD true) (file := "/claim/cut.py") (name := "__init__") (qual := x_NoText.qual) (params := x_NoText.params) (scope := x_NoText.scope) (W.na_x_NoText) ⟨by decide +kernel, by decide +kernel, by decide +kernel, by decide +kernel, by decide +kernel, by decide +kernel, by decide +kernel⟩
    ⟨fun _ _ _ _ => rfl, fun _ _ _ _ => rfl, fun _ _ _ _ => rfl⟩ ⟨_, rfl, rfl⟩ (fun _ _ _ _ _ _ _ _ => rfl) (by rw [hP]; decide +kernel) (by rw [hP]; decide +kernel) (hr.mono (by omega)) hg W.g_NoText
section
variable {w : World} {K : PySem.W.Frag} {mg : Str → Option Value} {base : Heap}
/-- a def of the text keeps its promise -/
abbrev OkD (w : World) (K : PySem.W.Frag) (mg : Str → Option Value) (base : Heap) (CX : CXT) (k : Nat) (d : DefD) (ps : List Str) (sp : Sp) : Prop := HL.Ok P0 w K mg base CX k d.at_ ps sp
abbrev CXN (w : World) : CXT := L2.CX P0 w
theorem ofq_tl (s : String) : (Str.ofString s).cps.toList = M.q s := by
  rw [HL.ofq]
  rfl
theorem isLet_in (c : Nat) : decide (c ∈ (Str.ofString "abcdefghijklmnopqrstuvwxyz").cps.toList) = M.isLet c := by
  rw [ofq_tl]
  rfl
theorem isDig_in (c : Nat) : decide (c ∈ (Str.ofString "0123456789").cps.toList) = M.isDig c := by
  rw [ofq_tl]
  rfl
theorem all_id {α : Type} (f : α → Bool) (l : List α) : (l.map f).all id = l.all f := by
  rw [List.all_map]
  rfl
abbrev n_need : List Str := ["truth"]
theorem sc_need : FnScope n_need ["truth"] (defScope s_need) := ⟨rfl, rfl, rfl, by decide +kernel, rfl, by decide +kernel, by decide +kernel⟩
theorem bi_need : ∀ (kV doc pm : Value) (an : Option Addr) (cdv ct : Value) (us : List Value), us.length = 1 → bindArgs (PySem.W.fnOf d_need.name d_need.qual d_need.params d_need.body d_need.scope .none kV doc pm an cdv ct) ⟨us, []⟩ = pure ([("truth" : Str)].zip us) := fun kV doc pm an cdv ct us hu => by
  match us, hu with
  | [u0], _ => rfl
def spNeed (K : PySem.W.Frag) : Sp := fun vs H Q E => ∃ b, vs = [.bl b] ∧ (b = true → Q .non H) ∧ (b = false → E (.ref (CN K)) none H)
theorem o_need (W : Wl K mg) : OkD w K mg base (CXN w) 2 d_need ["truth"] (spNeed K) := by
  refine HL.ok_of W.D_need sc_need (fun vs H Q E ⟨b, h, _⟩ => by rw [h]; rfl) bi_need fun cdv A outer s H vs Q E hr h => ?_
  have tk := takes_of (X := cxOf (CXN w) P0 w K mg base n_need d_need.qual d_need.scope (fAd K d_need.at_) cdv A outer s H E) rfl rfl rfl rfl
  refine ⟨_, (pss_one (ps_if (pt_not (pt_truth (pv 0) (by intro _; rfl))) (pss_one (ps_raise rfl tk (pmkN W hr))) pss_nil)), ?_⟩
  obtain ⟨b, rfl, hT, hF⟩ := h
  refine ⟨_, rfl, b, rfl, ?_⟩
  cases b with
  | true => exact iteF (hT rfl)
  | false => exact iteT (hF rfl)
abbrev n_need_text : List Str := ["text"]
theorem sc_need_text : FnScope n_need_text ["text"] (defScope s_need_text) := ⟨rfl, rfl, rfl, by decide +kernel, rfl, by decide +kernel, by decide +kernel⟩
theorem bi_need_text : ∀ (kV doc pm : Value) (an : Option Addr) (cdv ct : Value) (us : List Value), us.length = 1 → bindArgs (PySem.W.fnOf d_need_text.name d_need_text.qual d_need_text.params d_need_text.body d_need_text.scope .none kV doc pm an cdv ct) ⟨us, []⟩ = pure ([("text" : Str)].zip us) := fun kV doc pm an cdv ct us hu => by
  match us, hu with
  | [u0], _ => rfl
/-- what is no text -/
def NoStr (K : PySem.W.Frag) (H : Hp) (v : V) : Prop := ∃ t, TyX K H v (.type t) ∧ PySem.W.kitOne K (.type t) (.type "str") = some false
def spNeedText (K : PySem.W.Frag) : Sp := fun vs H Q E => ∃ v, vs = [v] ∧ ((∃ s, v = .str s ∧ Q .non H) ∨ (NoStr K H v ∧ E (.ref (CN K)) none H))
theorem o_need_text (W : Wl K mg) : OkD w K mg base (CXN w) 2 d_need_text ["text"] (spNeedText K) := by
  refine HL.ok_of W.D_need_text sc_need_text (fun vs H Q E ⟨b, h, _⟩ => by rw [h]; rfl) bi_need_text fun cdv A outer s H vs Q E hr h => ?_
  have tk := takes_of (X := cxOf (CXN w) P0 w K mg base n_need_text d_need_text.qual d_need_text.scope (fAd K d_need_text.at_) cdv A outer s H E) rfl rfl rfl rfl
  refine ⟨_, (pss_one (ps_if (pt_not (pt_val (pe_callB call_isi (by rfl) W.f_isinstance (by decide +kernel) (pa_cons (pv 0) (pa_cons (pe_bltn (v := .ty "str") (by rfl) W.f_str (by decide +kernel) rfl) pa_nil))))) (pss_one (ps_raise rfl tk (pmkN W hr))) pss_nil)), ?_⟩
  obtain ⟨v, rfl, ⟨s, rfl, hq⟩ | ⟨⟨t, ht, hk⟩, he⟩⟩ := h
  · refine ⟨_, rfl, _, _, _, _, true, rfl, .ty _, .base (.str s), kit_ty (by decide +kernel), _, rfl, ?_⟩
    exact iteF hq
  · refine ⟨_, rfl, _, _, _, _, false, rfl, .ty _, ht, hk, _, rfl, ?_⟩
    exact iteT he
abbrev n_is_name : List Str := ["thing", "sign"]
theorem sc_is_name : FnScope n_is_name ["thing"] (defScope s_is_name) := ⟨rfl, rfl, rfl, by decide +kernel, rfl, by decide +kernel, by decide +kernel⟩
theorem bi_is_name : ∀ (kV doc pm : Value) (an : Option Addr) (cdv ct : Value) (us : List Value), us.length = 1 → bindArgs (PySem.W.fnOf d_is_name.name d_is_name.qual d_is_name.params d_is_name.body d_is_name.scope .none kV doc pm an cdv ct) ⟨us, []⟩ = pure ([("thing" : Str)].zip us) := fun kV doc pm an cdv ct us hu => by
  match us, hu with
  | [u0], _ => rfl
def spIsName : Sp := fun vs H Q _ => ∃ n, vs = [.str (S n)] ∧ n.length ≤ 1000000 ∧ ∀ H', Same H H' → Q (.bl (decide (0 < n.length ∧ n.length ≤ 8) && n.all M.isLet)) H'
theorem o_is_name (W : Wl K mg) : OkD w K mg base CX0 1 d_is_name ["thing"] spIsName := by
  refine HL.ok_of0 W.D_is_name sc_is_name (fun vs H Q E ⟨b, h, _⟩ => by rw [h]; rfl) bi_is_name fun cdv A outer s H vs Q E hr h => ?_
  have nd := sc_is_name.nd
  obtain ⟨tL, hc_LETTERS⟩ := W.c_LETTERS
  obtain ⟨tN, hc_LONGEST_NAME⟩ := W.c_LONGEST_NAME
  have NN : List Str := n_is_name
  refine ⟨_, (pss_one (ps_ret (pe_and (pe_callB call_isi (by rfl) W.f_isinstance (by decide +kernel) (pa_cons (pv 0) (pa_cons (pe_bltn (v := .ty "str") (by rfl) W.f_str (by decide +kernel) rfl) pa_nil))) (pe_and (pe_chain op_lt op_le pe_int (pe_callB call_len_str (by rfl) W.f_len (by decide +kernel) (pa_cons (pv 0) pa_nil)) (pe_glob (v := .int 8) (by rfl) hc_LONGEST_NAME ⟨_, rfl⟩)) (pe_one (pe_callB (cr_all rfl) (by rfl) W.f_all (by decide +kernel) (pa_cons (pe_lc (own := [("sign", 1)]) (g := gName 1) (tt := tYes) (by rfl) nd (pi_str (pv 0)) (blkOk_by (own := [("sign", 1)]) (N := n_is_name) (sc := defScope s_is_name) (by decide +kernel)) (fun _ _ _ _ _ => pg_name (i := 1) nd rfl (Or.inl rfl)) (fun _ _ _ _ _ => pts_nil) (fun _ _ _ _ _ => (pe_cmpR op_in_sign (pv 1) (pe_glob (v := .str "abcdefghijklmnopqrstuvwxyz") (by rfl) hc_LETTERS ⟨_, rfl⟩) (by rfl)))) pa_nil))))))), ?_⟩
  obtain ⟨n, rfl, hn, hq⟩ := h
  refine ⟨_, rfl, _, _, _, _, true, rfl, .ty _, .base (.str _), kit_ty (by decide +kernel), _, rfl, ?_⟩
  refine iteT ⟨_, rfl, _, rfl, by rw [S_len]; exact small hn, _, _, rfl, rfl, ?_⟩
  have b1 : decide ((0 : Int) < ((S n).length : Nat)) = decide (0 < n.length) := by
    rw [S_len]
    exact decide_eq_decide.mpr (by omega)
  have b2 : decide ((((S n).length : Nat) : Int) ≤ 8) = decide (n.length ≤ 8) := by
    rw [S_len]
    exact decide_eq_decide.mpr (by omega)
  refine ⟨_, rfl, ite2 (fun h1 => ?_) (fun h1 => ?_)⟩
  · rw [b1] at h1
    have h1 := of_decide_eq_true h1
    refine ⟨_, _, rfl, rfl, _, rfl, ite2 (fun h2 => ?_) (fun h2 => ?_)⟩
    · rw [b2] at h2
      have h2 := of_decide_eq_true h2
      refine ⟨_, rfl, _, rfl, fun D hD => HL.lcS (out := n.map fun c => V.bl (M.isLet c)) hD (by simp [S]) (small hn) (fun k c y H Q hx ho e hl hq => ?_) fun H e hl => ?_⟩
      · refine ⟨_, rfl, _, _, rfl, rfl, ?_⟩
        have hc : n[k]? = some c := by simpa [S] using hx
        rw [List.getElem?_map, hc] at ho
        have ho : some (V.bl (M.isLet c)) = some y := ho
        cases ho
        rw [isLet_in]
        exact hq _ (Same.refl _)
      · refine ⟨_, n.map M.isLet, rfl, .inl (.inl (by rw [hl, List.map_map] <;> rfl)), ?_⟩
        rw [all_id]
        have q := hq H e
        rw [decide_eq_true (p := 0 < n.length ∧ n.length ≤ 8) ⟨h1, h2⟩, Bool.true_and] at q
        exact q
    · rw [b2] at h2
      have q := hq H (Same.refl _)
      rw [decide_eq_false (p := 0 < n.length ∧ n.length ≤ 8) (fun z => h2 (decide_eq_true z.2)), Bool.false_and] at q
      exact q
  · rw [b1] at h1
    refine ⟨_, rfl, iteF ?_⟩
    have q := hq H (Same.refl _)
    rw [decide_eq_false (p := 0 < n.length ∧ n.length ≤ 8) (fun z => h1 (decide_eq_true z.1)), Bool.false_and] at q
    exact q
end
end K92
end

section
set_option Elab.async false
set_option linter.all false
set_option maxRecDepth 100000
set_option maxHeartbeats 4000000
/-! k92: the reader's small methods. -/
namespace K92
open PySem PySem.Spec PyProof.Rows L2 He HL
theorem cut_ij (s : List Nat) (i j : Nat) : cutS (S s) (some (i : Int)) (some (j : Int)) = S ((s.drop i).take (j - i)) := by
  unfold cutS
  rw [show (S s).length = s.length from S_len s, HT.sIx_nat, HT.sIx_nat]
  show S ((s.drop _).take _) = _
  congr 1
  apply List.ext_getElem?
  intro k
  simp only [List.getElem?_take, List.getElem?_drop]
  by_cases h : s.length ≤ i
  · rw [List.getElem?_eq_none (by omega), List.getElem?_eq_none (by omega)]
    simp
  · by_cases h2 : s.length ≤ i + k
    · rw [List.getElem?_eq_none (by omega), List.getElem?_eq_none (by omega)]
      simp
    · rw [show min i s.length = i by omega]
      by_cases h3 : k < j - i
      · rw [if_pos h3, if_pos (by omega)]
      · rw [if_neg h3, if_neg (by omega)]
theorem cut_i (s : List Nat) (i : Nat) : cutS (S s) (some (i : Int)) none = S (s.drop i) := by
  unfold cutS
  rw [show (S s).length = s.length from S_len s, HT.sIx_nat, HT.sIx_none]
  show S ((s.drop _).take _) = _
  congr 1
  apply List.ext_getElem?
  intro k
  simp only [List.getElem?_take, List.getElem?_drop]
  by_cases h : s.length ≤ i
  · rw [List.getElem?_eq_none (by omega), List.getElem?_eq_none (by omega)]
    simp
  · rw [show min i s.length = i by omega]
    by_cases h3 : k < s.length - i
    · rw [if_pos h3]
    · rw [if_neg h3, List.getElem?_eq_none (by omega)]
theorem cut_j (s : List Nat) (j : Nat) : cutS (S s) none (some (j : Int)) = S (s.take j) := by
  unfold cutS
  rw [show (S s).length = s.length from S_len s, HT.sIx_nat, HT.sIx_none]
  show S ((s.drop 0).take _) = _
  congr 1
  rw [List.drop_zero, Nat.sub_zero, Nat.min_comm]
  apply List.ext_getElem?
  intro k
  simp only [List.getElem?_take]
  by_cases h3 : k < s.length
  · by_cases h4 : k < j
    · rw [if_pos (by omega), if_pos h4]
    · rw [if_neg (by omega), if_neg h4]
  · rw [List.getElem?_eq_none (by omega)]
    simp
/-! ### scanning -/
theorem tw_take {f : Nat → Bool} : ∀ (l : List Nat) (n : Nat), (∀ k, k < n → ∃ c, l[k]? = some c ∧ f c = true) → (∀ c, l[n]? = some c → f c = false) → l.take n = l.takeWhile f ∧ n = (l.takeWhile f).length
  | [], 0, _, _ => ⟨rfl, rfl⟩
  | [], n + 1, h, _ => by
    obtain ⟨c, e, _⟩ := h 0 (by omega)
    simp at e
  | c :: l, 0, _, h => by
    have q := h c (by simp)
    rw [List.takeWhile_cons_of_neg (by rw [q]; simp)]
    exact ⟨rfl, rfl⟩
  | c :: l, n + 1, h, h2 => by
    obtain ⟨d, e, q⟩ := h 0 (by omega)
    have : c = d := by simpa using e
    subst this
    rw [List.takeWhile_cons_of_pos q]
    obtain ⟨e1, e2⟩ := tw_take l n (fun k hk => by simpa using h (k + 1) (by omega)) (fun c' z => h2 c' (by simpa using z))
    exact ⟨by rw [List.take_succ_cons, e1], by rw [List.length_cons, ← e2]⟩
/-- all signs from i to e are f's -/
def Sc (f : Nat → Bool) (s : List Nat) (i e : Nat) : Prop := i ≤ e ∧ ∀ k, i ≤ k → k < e → ∃ c, s[k]? = some c ∧ f c = true
theorem Sc.start (f : Nat → Bool) (s : List Nat) (i : Nat) : Sc f s i i := ⟨Nat.le_refl _, fun k h1 h2 => by omega⟩
theorem Sc.next {f : Nat → Bool} {s : List Nat} {i e c : Nat} (h : Sc f s i e) (hc : s[e]? = some c) (hf : f c = true) : Sc f s i (e + 1) := ⟨by have := h.1; omega, fun k h1 h2 => by
  by_cases q : k = e
  · rw [q]
    exact ⟨c, hc, hf⟩
  · exact h.2 k h1 (by omega)⟩
theorem Sc.stop {f : Nat → Bool} {s : List Nat} {i e : Nat} (h : Sc f s i e) (hn : ∀ c, s[e]? = some c → f c = false) : (s.drop i).take (e - i) = (s.drop i).takeWhile f ∧ e = i + ((s.drop i).takeWhile f).length := by
  have h1 := h.1
  obtain ⟨e1, e2⟩ := tw_take (s.drop i) (e - i) (fun k hk => by
    rw [List.getElem?_drop]
    exact h.2 (i + k) (by omega) (by omega)) (fun c z => by
    rw [List.getElem?_drop, show i + (e - i) = e by omega] at z
    exact hn c z)
  exact ⟨e1, by omega⟩
section
variable {w : World} {K : PySem.W.Frag} {mg : Str → Option Value} {base : Heap}
abbrev RC (K : PySem.W.Frag) : Addr := ga K "Reader"
/-- the reader at p: its text, its place -/
def RdAt (K : PySem.W.Frag) (H : Hp) (p : Addr) (s : List Nat) (i : Nat) : Prop := ∃ dx, H p = some (.ins (RC K) dx [("its_text", .str (S s)), ("its_place", .int (i : Nat))])
abbrev n_Reader_init : List Str := ["self", "text"]
theorem sc_Reader_init : FnScope n_Reader_init ["self", "text"] (defScope s_Reader_init) := ⟨rfl, rfl, rfl, by decide +kernel, rfl, by decide +kernel, by decide +kernel⟩
theorem bi_Reader_init : ∀ (kV doc pm : Value) (an : Option Addr) (cdv ct : Value) (us : List Value), us.length = 2 → bindArgs (PySem.W.fnOf d_Reader_init.name d_Reader_init.qual d_Reader_init.params d_Reader_init.body d_Reader_init.scope .none kV doc pm an cdv ct) ⟨us, []⟩ = pure ([("self" : Str), ("text" : Str)].zip us) := fun kV doc pm an cdv ct us hu => by
  match us, hu with
  | [u0, u1], _ => rfl
def spInit (K : PySem.W.Frag) : Sp := fun vs H Q _ => ∃ p dx s, vs = [.ref p, .str (S s)] ∧ H p = some (.ins (RC K) dx []) ∧ ∀ H', SameB p H H' → RdAt K H' p s 0 → Q .non H'
theorem o_init (W : Wl K mg) : OkD w K mg base CX0 1 d_Reader_init ["self", "text"] (spInit K) := by
  refine HL.ok_of0 W.D_Reader_init sc_Reader_init (fun vs H Q E ⟨_, _, _, h, _⟩ => by rw [h]; rfl) bi_Reader_init fun cdv A outer s H vs Q E hr h => ?_
  refine ⟨_, (pss_cons (ps_fld (pv 0) (pv 1) rfl)
    (pss_one (ps_fld (pv 0) pe_int rfl))), ?_⟩
  obtain ⟨p, dx, s, rfl, hp, hq⟩ := h
  refine ⟨_, rfl, _, rfl, p, _, dx, _, rfl, hp, W.k_Reader, W.n_Reader_its_text, by simp, ?_⟩
  refine ⟨_, rfl, p, _, dx, _, rfl, upd_same, W.k_Reader, W.n_Reader_its_place, Nat.lt_of_lt_of_le (show 1 < 2 by decide) (by decide), ?_⟩
  exact hq _ (((SameB.refl p H).upd).upd) ⟨dx, by rw [upd_same] <;> rfl⟩
abbrev n_Reader_takes : List Str := ["self", "sign"]
theorem sc_Reader_takes : FnScope n_Reader_takes ["self", "sign"] (defScope s_Reader_takes) := ⟨rfl, rfl, rfl, by decide +kernel, rfl, by decide +kernel, by decide +kernel⟩
theorem bi_Reader_takes : ∀ (kV doc pm : Value) (an : Option Addr) (cdv ct : Value) (us : List Value), us.length = 2 → bindArgs (PySem.W.fnOf d_Reader_takes.name d_Reader_takes.qual d_Reader_takes.params d_Reader_takes.body d_Reader_takes.scope .none kV doc pm an cdv ct) ⟨us, []⟩ = pure ([("self" : Str), ("sign" : Str)].zip us) := fun kV doc pm an cdv ct us hu => by
  match us, hu with
  | [u0, u1], _ => rfl
def spTakes (K : PySem.W.Frag) : Sp := fun vs H Q _ => ∃ p s i w, vs = [.ref p, .str (S w)] ∧ RdAt K H p s i ∧ s.length ≤ 1000000 ∧ w.length ≤ 1000 ∧
  (M.takes w (s.drop i) = none → Q (.bl false) H) ∧ (∀ r, M.takes w (s.drop i) = some r → ∀ H', SameB p H H' → RdAt K H' p s (i + w.length) → Q (.bl true) H')
theorem o_takes (W : Wl K mg) : OkD w K mg base CX0 1 d_Reader_takes ["self", "sign"] (spTakes K) := by
  refine HL.ok_of0 W.D_Reader_takes sc_Reader_takes (fun vs H Q E ⟨_, _, _, _, h, _⟩ => by rw [h]; rfl) bi_Reader_takes fun cdv A outer s H vs Q E hr h => ?_
  refine ⟨_, (pss_cons (ps_if (pt_cmpR op_ne (pe_slice sl_str (pe_fld (pv 0) rfl) (po_some (pe_fld (pv 0) rfl)) (po_some (pe_op op_add (pe_fld (pv 0) rfl) (pe_callB call_len_str (by rfl) W.f_len (by decide +kernel) (pa_cons (pv 1) pa_nil))))) (pv 1) (nomark _)) (pss_one (ps_ret pe_bl)) pss_nil)
    (pss_cons (ps_fldaug (pv 0) (pe_callB call_len_str (by rfl) W.f_len (by decide +kernel) (pa_cons (pv 1) pa_nil)) in_add)
    (pss_one (ps_ret pe_bl)))), ?_⟩
  obtain ⟨p, s, i, w, rfl, ⟨dx, hp⟩, hs, hw, hF, hT⟩ := h
  have sl : (S s).length ≤ sizeLine := by rw [S_len]; exact small hs
  have wl : (S w).length ≤ sizeLine := by rw [S_len]; exact small (by omega)
  refine ⟨_, rfl, p, _, dx, _, _, rfl, hp, W.k_Reader, W.n_Reader_its_text, rfl, ?_⟩
  refine ⟨_, rfl, p, _, dx, _, _, rfl, hp, W.k_Reader, W.n_Reader_its_place, rfl, ?_⟩
  refine ⟨_, rfl, ⟨_, rfl, p, _, dx, _, _, rfl, hp, W.k_Reader, W.n_Reader_its_place, rfl, ?_⟩⟩
  refine ⟨_, rfl, _, rfl, wl, _, _, rfl, rfl, _, rfl, _, rfl, sl, _, rfl, ?_⟩
  rw [S_len, show ((i : Nat) : Int) + ((w.length : Nat) : Int) = ((i + w.length : Nat) : Int) by omega, cut_ij, Nat.add_sub_cancel_left]
  refine ⟨rfl, _, rfl, ?_⟩
  rw [dec_S]
  refine ite2 (fun h => ?_) (fun h => ?_)
  · have hn : ¬ (s.drop i).take w.length = w := by simpa using h
    exact hF (by unfold M.takes; rw [if_neg hn])
  · have hn : (s.drop i).take w.length = w := by simpa using h
    refine ⟨_, rfl, p, _, dx, _, _, rfl, hp, W.k_Reader, W.n_Reader_its_place, rfl, ⟨_, rfl, _, rfl, wl, _, _, rfl, rfl, dx, _, hp, by simp, ?_⟩⟩
    exact hT _ (by unfold M.takes; rw [if_pos hn]) _ (SameB.refl p H).upd ⟨dx, by rw [upd_same, S_len] <;> rfl⟩
abbrev n_Reader_needs : List Str := ["self", "sign"]
theorem sc_Reader_needs : FnScope n_Reader_needs ["self", "sign"] (defScope s_Reader_needs) := ⟨rfl, rfl, rfl, by decide +kernel, rfl, by decide +kernel, by decide +kernel⟩
theorem bi_Reader_needs : ∀ (kV doc pm : Value) (an : Option Addr) (cdv ct : Value) (us : List Value), us.length = 2 → bindArgs (PySem.W.fnOf d_Reader_needs.name d_Reader_needs.qual d_Reader_needs.params d_Reader_needs.body d_Reader_needs.scope .none kV doc pm an cdv ct) ⟨us, []⟩ = pure ([("self" : Str), ("sign" : Str)].zip us) := fun kV doc pm an cdv ct us hu => by
  match us, hu with
  | [u0, u1], _ => rfl
def spNeeds (K : PySem.W.Frag) : Sp := fun vs H Q E => ∃ p s i w, vs = [.ref p, .str (S w)] ∧ RdAt K H p s i ∧ s.length ≤ 1000000 ∧ w.length ≤ 1000 ∧
  (M.takes w (s.drop i) = none → E (.ref (CN K)) none H) ∧ (∀ r, M.takes w (s.drop i) = some r → ∀ H', SameB p H H' → RdAt K H' p s (i + w.length) → Q .non H')
theorem o_needs (W : Wl K mg) : OkD w K mg base (CXN w) 3 d_Reader_needs ["self", "sign"] (spNeeds K) := by
  refine HL.ok_of W.D_Reader_needs sc_Reader_needs (fun vs H Q E ⟨_, _, _, _, h, _⟩ => by rw [h]; rfl) bi_Reader_needs fun cdv A outer s H vs Q E hr h => ?_
  have tk := takes_of (X := cxOf (CXN w) P0 w K mg base n_Reader_needs d_Reader_needs.qual d_Reader_needs.scope (fAd K d_Reader_needs.at_) cdv A outer s H E) rfl rfl rfl rfl
  have O_need := o_need (w := w) (base := base) W
  have O_takes := o_takes (w := w) (base := base) W
  refine ⟨_, (pss_one (ps_expr (pe_cal O_need (hr.mono (by omega)) W.g_need (passes_call tk (fun _ _ _ _ h => h)) (pa_cons (pe_cam O_takes W.k_Reader W.m_Reader_takes (hr.mono (by omega)) pass0 (pv 0) (pa_cons (pv 1) pa_nil)) pa_nil)))), ?_⟩
  obtain ⟨p, s, i, w, rfl, hp, hs, hw, hF, hT⟩ := h
  obtain ⟨dx, hp'⟩ := id hp
  refine ⟨_, rfl, p, dx, _, rfl, hp', rfl, _, rfl, p, s, i, w, rfl, hp, hs, hw, fun hn => ?_, fun r hr H' e hp2 => ?_⟩
  · exact ⟨_, rfl, nofun, fun _ => hF hn⟩
  · exact ⟨_, rfl, fun _ => hT r hr H' e hp2, nofun⟩
abbrev n_Reader_signs : List Str := ["self", "some", "end", "found"]
theorem sc_Reader_signs : FnScope n_Reader_signs ["self", "some"] (defScope s_Reader_signs) := ⟨rfl, rfl, rfl, by decide +kernel, rfl, by decide +kernel, by decide +kernel⟩
theorem bi_Reader_signs : ∀ (kV doc pm : Value) (an : Option Addr) (cdv ct : Value) (us : List Value), us.length = 2 → bindArgs (PySem.W.fnOf d_Reader_signs.name d_Reader_signs.qual d_Reader_signs.params d_Reader_signs.body d_Reader_signs.scope .none kV doc pm an cdv ct) ⟨us, []⟩ = pure ([("self" : Str), ("some" : Str)].zip us) := fun kV doc pm an cdv ct us hu => by
  match us, hu with
  | [u0, u1], _ => rfl
def spSigns (K : PySem.W.Frag) : Sp := fun vs H Q _ => ∃ p s i z, vs = [.ref p, .str z] ∧ RdAt K H p s i ∧ s.length ≤ 1000000 ∧
  ∀ f, (∀ c, f c = decide (c ∈ z.cps.toList)) → ∀ H', SameB p H H' → RdAt K H' p s (i + ((s.drop i).takeWhile f).length) → Q (.str (S ((s.drop i).takeWhile f))) H'
theorem o_signs (W : Wl K mg) : OkD w K mg base CX0 1 d_Reader_signs ["self", "some"] (spSigns K) := by
  refine HL.ok_of0 W.D_Reader_signs sc_Reader_signs (fun vs H Q E ⟨_, _, _, _, h, _⟩ => by rw [h]; rfl) bi_Reader_signs fun cdv A outer s H vs Q E hr h => ?_
  have nd := sc_Reader_signs.nd
  refine ⟨_, (pss_cons (ps_set (i := 2) nd rfl (Or.inl rfl) (pe_fld (pv 0) rfl))
    (pss_cons (ps_while PassesOwn.never (PW.pt (pw_and (pt_cmpR op_lt (pv 2) (pe_callB call_len_str (by rfl) W.f_len (by decide +kernel) (pa_cons (pe_fld (pv 0) rfl) pa_nil)) (nomark _)) (pw_and1 (pt_cmpR op_in_sign (pe_ix ix_str (pe_fld (pv 0) rfl) (pv 2) (fun _ _ => rfl)) (pv 1) (by rfl))))) (pss_one (ps_aug (i := 2) nd rfl (.inl rfl) pe_int ip_add)))
    (pss_cons (ps_set (i := 3) nd rfl (Or.inl rfl) (pe_slice sl_str (pe_fld (pv 0) rfl) (po_some (pe_fld (pv 0) rfl)) (po_some (pv 2))))
    (pss_cons (ps_fld (pv 0) (pv 2) rfl)
    (pss_one (ps_ret (pv 3))))))), ?_⟩
  obtain ⟨p, s, i, z, rfl, ⟨dx, hp⟩, hs, hq⟩ := h
  have sl : (S s).length ≤ sizeLine := by rw [S_len]; exact small hs
  have hq := hq (fun c => decide (c ∈ z.cps.toList)) (fun _ => rfl)
  generalize hf : (fun c => decide (c ∈ z.cps.toList)) = f at hq
  refine ⟨_, rfl, p, _, dx, _, _, rfl, hp, W.k_Reader, W.n_Reader_its_place, rfl, ?_⟩
  refine HL.while_zz (fun m σ H1 => ∃ e : Nat, m = s.length - e ∧ H1 = H ∧ σ = [some (.ref p), some (.str z), some (.int (e : Nat)), none] ∧ Sc f s i e)
    (fun σ H1 => ∃ e : Nat, H1 = H ∧ σ = [some (.ref p), some (.str z), some (.int (e : Nat)), none] ∧ Sc f s i e ∧ ∀ c, s[e]? = some c → f c = false) ⟨_, i, rfl, rfl, rfl, Sc.start f s i⟩ ?_ ?_
  · rintro m σ H1 ⟨e, rfl, rfl, rfl, hsc⟩ R hT hF
    refine ⟨_, rfl, _, rfl, p, _, dx, _, _, rfl, hp, W.k_Reader, W.n_Reader_its_text, rfl, _, rfl, sl, _, _, rfl, rfl, _, rfl, ?_⟩
    refine ite2 (fun h1 => ?_) (fun h1 => ?_)
    · have h1 : e < s.length := by
        have := of_decide_eq_true h1
        rw [S_len] at this
        omega
      refine ⟨_, rfl, p, _, dx, _, _, rfl, hp, W.k_Reader, W.n_Reader_its_text, rfl, _, rfl, _, _, _, rfl, rfl, sl, atI_nat (List.getElem?_eq_getElem h1), _, rfl, _, _, rfl, rfl, _, rfl, ?_⟩
      rw [congrFun hf]
      cases hc : f s[e] with
      | true =>
        refine hT _ fun N F hN hF => ?_
        refine ⟨_, rfl, _, _, rfl, rfl, ?_⟩
        exact hN (s.length - (e + 1)) _ _ (by omega) ⟨e + 1, rfl, rfl, rfl, hsc.next (List.getElem?_eq_getElem h1) hc⟩
      | false => exact hF _ ⟨e, rfl, rfl, hsc, fun c z => by
          rw [List.getElem?_eq_getElem h1] at z
          cases z
          exact hc⟩
    · have h1 : ¬ e < s.length := by
        intro z
        apply h1
        rw [S_len]
        exact decide_eq_true (by omega)
      exact hF _ ⟨e, rfl, rfl, hsc, fun c z => by
        rw [List.getElem?_eq_none (by omega)] at z
        cases z⟩
  · rintro σ H1 ⟨e, rfl, rfl, hsc, hst⟩
    obtain ⟨e1, e2⟩ := hsc.stop hst
    refine ⟨_, rfl, p, _, dx, _, _, rfl, hp, W.k_Reader, W.n_Reader_its_text, rfl, _, rfl, p, _, dx, _, _, rfl, hp, W.k_Reader, W.n_Reader_its_place, rfl, _, rfl, _, rfl, _, rfl, _, rfl, sl, ?_⟩
    rw [cut_ij, e1]
    refine ⟨_, rfl, _, rfl, p, _, dx, _, rfl, hp, W.k_Reader, W.n_Reader_its_place, by simp, ?_⟩
    refine ⟨_, rfl, hq _ (SameB.refl p _).upd ⟨dx, by rw [upd_same, e2] <;> rfl⟩⟩
abbrev n_Reader_word_here : List Str := ["self", "found"]
theorem sc_Reader_word_here : FnScope n_Reader_word_here ["self"] (defScope s_Reader_word_here) := ⟨rfl, rfl, rfl, by decide +kernel, rfl, by decide +kernel, by decide +kernel⟩
theorem bi_Reader_word_here : ∀ (kV doc pm : Value) (an : Option Addr) (cdv ct : Value) (us : List Value), us.length = 1 → bindArgs (PySem.W.fnOf d_Reader_word_here.name d_Reader_word_here.qual d_Reader_word_here.params d_Reader_word_here.body d_Reader_word_here.scope .none kV doc pm an cdv ct) ⟨us, []⟩ = pure ([("self" : Str)].zip us) := fun kV doc pm an cdv ct us hu => by
  match us, hu with
  | [u0], _ => rfl
def spWord (K : PySem.W.Frag) : Sp := fun vs H Q E => ∃ p s i, vs = [.ref p] ∧ RdAt K H p s i ∧ s.length ≤ 1000000 ∧
  (M.word (s.drop i) = none → ∀ H', SameB p H H' → E (.ref (CN K)) none H') ∧ (∀ w r, M.word (s.drop i) = some (w, r) → ∀ H', SameB p H H' → RdAt K H' p s (i + w.length) → Q (.str (S w)) H')
theorem o_word_here (W : Wl K mg) : OkD w K mg base (CXN w) 3 d_Reader_word_here ["self"] (spWord K) := by
  refine HL.ok_of W.D_Reader_word_here sc_Reader_word_here (fun vs H Q E ⟨_, _, _, h, _⟩ => by rw [h]; rfl) bi_Reader_word_here fun cdv A outer s H vs Q E hr h => ?_
  have tk := takes_of (X := cxOf (CXN w) P0 w K mg base n_Reader_word_here d_Reader_word_here.qual d_Reader_word_here.scope (fAd K d_Reader_word_here.at_) cdv A outer s H E) rfl rfl rfl rfl
  have nd := sc_Reader_word_here.nd
  obtain ⟨tL, hc_LETTERS⟩ := W.c_LETTERS
  have O_need := o_need (w := w) (base := base) W
  have O_is_name := o_is_name (w := w) (base := base) W
  have O_signs := o_signs (w := w) (base := base) W
  refine ⟨_, (pss_cons (ps_set (i := 1) nd rfl (Or.inl rfl) (pe_cam O_signs W.k_Reader W.m_Reader_signs (hr.mono (by omega)) pass0 (pv 0) (pa_cons (pe_glob (v := .str "abcdefghijklmnopqrstuvwxyz") (by rfl) hc_LETTERS ⟨_, rfl⟩) pa_nil)))
    (pss_cons (ps_expr (pe_cal O_need (hr.mono (by omega)) W.g_need (passes_call tk (fun _ _ _ _ h => h)) (pa_cons (pe_cal O_is_name (hr.mono (by omega)) W.g_is_name pass0 (pa_cons (pv 1) pa_nil)) pa_nil)))
    (pss_one (ps_ret (pv 1))))), ?_⟩
  obtain ⟨p, s, i, rfl, hp, hs, hF, hT⟩ := h
  obtain ⟨dx, hp'⟩ := id hp
  refine ⟨_, rfl, p, dx, _, rfl, hp', rfl, p, s, i, _, rfl, hp, hs, ?_⟩
  intro f hf H1 e1 hp1
  obtain rfl : f = M.isLet := funext fun c => by rw [hf c, isLet_in]
  refine ⟨_, rfl, _, rfl, ?_, fun H2 e2 => ?_⟩
  · have := (List.takeWhile_sublist M.isLet (l := s.drop i)).length_le
    rw [List.length_drop] at this
    omega
  have hall : ((s.drop i).takeWhile M.isLet).all M.isLet = true := List.all_eq_true.mpr (M.span_all _)
  rw [hall, Bool.and_true]
  have e3 : SameB p H H2 := e1.trans (.of e2)
  have hp2 : RdAt K H2 p s (i + ((s.drop i).takeWhile M.isLet).length) := let ⟨dx, q⟩ := hp1; ⟨dx, e2 _ _ q⟩
  refine ⟨_, rfl, fun hk => ?_, fun hk => ?_⟩
  · exact ⟨_, rfl, hT _ _ (by unfold M.word; rw [if_pos (of_decide_eq_true hk)]) _ e3 hp2⟩
  · exact hF (by unfold M.word; rw [if_neg (of_decide_eq_false hk)]) _ e3
abbrev n_number_of : List Str := ["text", "sign"]
theorem sc_number_of : FnScope n_number_of ["text"] (defScope s_number_of) := ⟨rfl, rfl, rfl, by decide +kernel, rfl, by decide +kernel, by decide +kernel⟩
theorem bi_number_of : ∀ (kV doc pm : Value) (an : Option Addr) (cdv ct : Value) (us : List Value), us.length = 1 → bindArgs (PySem.W.fnOf d_number_of.name d_number_of.qual d_number_of.params d_number_of.body d_number_of.scope .none kV doc pm an cdv ct) ⟨us, []⟩ = pure ([("text" : Str)].zip us) := fun kV doc pm an cdv ct us hu => by
  match us, hu with
  | [u0], _ => rfl
def spNumber (K : PySem.W.Frag) : Sp := fun vs H Q E => ∃ s w, vs = [.str (S w)] ∧ w = s.takeWhile M.isDig ∧ s.length ≤ 1000000 ∧
  (M.number s = none → ∀ H', Same H H' → E (.ref (CN K)) none H') ∧ (∀ k r, M.number s = some (k, r) → ∀ H', Same H H' → Q (.int (k : Nat)) H')
theorem o_number_of (W : Wl K mg) : OkD w K mg base (CXN w) 3 d_number_of ["text"] (spNumber K) := by
  refine HL.ok_of W.D_number_of sc_number_of (fun vs H Q E ⟨_, _, h, _⟩ => by rw [h]; rfl) bi_number_of fun cdv A outer s H vs Q E hr h => ?_
  have tk := takes_of (X := cxOf (CXN w) P0 w K mg base n_number_of d_number_of.qual d_number_of.scope (fAd K d_number_of.at_) cdv A outer s H E) rfl rfl rfl rfl
  have nd := sc_number_of.nd
  obtain ⟨tL, hc_DIGITS⟩ := W.c_DIGITS
  obtain ⟨tM, hc_MOST_DIGITS⟩ := W.c_MOST_DIGITS
  have O_need := o_need (w := w) (base := base) W
  refine ⟨_, (pss_cons (ps_expr (pe_cal O_need (hr.mono (by omega)) W.g_need (passes_call tk (fun _ _ _ _ h => h)) (pa_cons (pe_and (pe_chain op_lt op_le pe_int (pe_callB call_len_str (by rfl) W.f_len (by decide +kernel) (pa_cons (pv 0) pa_nil)) (pe_glob (v := .int 9) (by rfl) hc_MOST_DIGITS ⟨_, rfl⟩)) (pe_one (pe_callB (cr_all rfl) (by rfl) W.f_all (by decide +kernel) (pa_cons (pe_lc (own := [("sign", 1)]) (g := gName 1) (tt := tYes) (by rfl) nd (pi_str (pv 0)) (blkOk_by (own := [("sign", 1)]) (N := n_number_of) (sc := defScope s_number_of) (by decide +kernel)) (fun _ _ _ _ _ => pg_name (i := 1) nd rfl (Or.inl rfl)) (fun _ _ _ _ _ => pts_nil) (fun _ _ _ _ _ => (pe_cmpR op_in_sign (pv 1) (pe_glob (v := .str "0123456789") (by rfl) hc_DIGITS ⟨_, rfl⟩) (by rfl)))) pa_nil)))) pa_nil)))
    (pss_cons (ps_expr (pe_cal O_need (hr.mono (by omega)) W.g_need (passes_call tk (fun _ _ _ _ h => h)) (pa_cons (pe_or (pe_cmpR op_eq (pv 0) pe_str (nomark _)) (pe_one (pe_cmpR op_ne (pe_ix ix_str (pv 0) pe_int (fun _ _ => rfl)) pe_str (nomark _)))) pa_nil)))
    (pss_one (ps_ret (pe_callTy call_int_str (by rfl) W.f_int (by decide +kernel) (pa_cons (pv 0) pa_nil)))))), ?_⟩
  obtain ⟨s, w, rfl, hw, hs, hF, hT⟩ := h
  have hwl : w.length ≤ 1000000 := by
    have := (List.takeWhile_sublist M.isDig (l := s)).length_le
    rw [hw]
    omega
  have hall : ∀ c ∈ w, M.isDig c = true := by
    rw [hw]
    exact M.span_all _
  have wl : (S w).length ≤ sizeLine := by rw [S_len]; exact small hwl
  have b1 : decide ((0 : Int) < ((S w).length : Nat)) = decide (0 < w.length) := by
    rw [S_len]
    exact decide_eq_decide.mpr (by omega)
  have b2 : decide ((((S w).length : Nat) : Int) ≤ 9) = decide (w.length ≤ 9) := by
    rw [S_len]
    exact decide_eq_decide.mpr (by omega)
  refine ⟨_, rfl, _, rfl, wl, _, _, rfl, rfl, ?_⟩
  refine ⟨_, rfl, ite2 (fun h1 => ?_) (fun h1 => ?_)⟩
  · rw [b1] at h1
    have h1 := of_decide_eq_true h1
    refine ⟨_, _, rfl, rfl, _, rfl, ite2 (fun h2 => ?_) (fun h2 => ?_)⟩
    · rw [b2] at h2
      have h2 := of_decide_eq_true h2
      refine ⟨_, rfl, _, rfl, fun D hD => HL.lcS (out := w.map fun c => V.bl (M.isDig c)) hD (by simp [S]) (small hwl) (fun k c y H Q hx ho e hl hq => ?_) fun H1 e1 hl => ?_⟩
      · refine ⟨_, rfl, _, _, rfl, rfl, ?_⟩
        have hc : w[k]? = some c := by simpa [S] using hx
        rw [List.getElem?_map, hc] at ho
        have ho : some (V.bl (M.isDig c)) = some y := ho
        cases ho
        rw [isDig_in]
        exact hq _ (Same.refl _)
      · refine ⟨_, w.map M.isDig, rfl, .inl (.inl (by rw [hl, List.map_map] <;> rfl)), ?_⟩
        rw [all_id, List.all_eq_true.mpr hall]
        refine ⟨_, rfl, fun _ => ?_, nofun⟩
        have hne : w ≠ [] := fun z => by rw [z] at h1; simp at h1
        obtain ⟨c, w', ew⟩ := List.exists_cons_of_ne_nil hne
        refine ⟨_, rfl, rfl, _, rfl, ite2 (fun h3 => ?_) (fun h3 => ?_)⟩
        · rw [HL.ofq, dec_S] at h3
          refine ⟨_, rfl, fun _ => ?_, nofun⟩
          refine ⟨_, rfl, _, _, rfl, SX.int_S ?_ hne (by omega), by rw [S_len]; omega, ?_⟩
          · refine List.all_eq_true.mpr fun d hd => ?_
            have := (M.dig_iff d).mp (hall d hd)
            simp [this]
          · exact hT _ _ (by unfold M.number; rw [← hw, if_pos ⟨⟨h1, h2⟩, .inl (of_decide_eq_true h3)⟩]) _ e1
        · rw [HL.ofq, dec_S] at h3
          have h3 := fun z => h3 (decide_eq_true z)
          refine ⟨_, rfl, _, _, c, rfl, rfl, wl, (show atI w ((0 : Nat) : Int) = some c from atI_nat (by rw [ew] <;> rfl)), rfl, ?_⟩
          rw [HL.ofq, show (⟨#[c]⟩ : Str) = S [c] from rfl, dec_S]
          refine ⟨_, rfl, fun hk => ?_, fun hk => ?_⟩
          · have hc : c ≠ 48 := fun z => by
              rw [z] at hk
              revert hk
              decide
            refine ⟨_, rfl, _, _, rfl, SX.int_S ?_ hne (by omega), by rw [S_len]; omega, ?_⟩
            · refine List.all_eq_true.mpr fun d hd => ?_
              have := (M.dig_iff d).mp (hall d hd)
              simp [this]
            · exact hT _ _ (by unfold M.number; rw [← hw, if_pos ⟨⟨h1, h2⟩, .inr (by rw [ew]; simpa using hc)⟩]) _ e1
          · have hc : c = 48 := by
              have h4 : decide ([c] = List.map Char.toNat "0".toList) = true := by simpa using hk
              have h5 := of_decide_eq_true h4
              have h6 : [c] = [48] := h5
              injection h6
            refine hF ?_ _ e1
            unfold M.number
            rw [← hw, if_neg]
            rintro ⟨_, z | z⟩
            · exact h3 z
            · rw [ew, hc] at z
              exact z rfl
    · rw [b2] at h2
      refine ⟨_, rfl, nofun, fun _ => hF ?_ _ (Same.refl _)⟩
      unfold M.number
      rw [← hw, if_neg (fun z => h2 (decide_eq_true z.1.2))]
  · rw [b1] at h1
    refine ⟨_, rfl, iteF ⟨_, rfl, nofun, fun _ => hF ?_ _ (Same.refl _)⟩⟩
    unfold M.number
    rw [← hw, if_neg (fun z => h1 (decide_eq_true z.1.1))]
end
end K92
end

section
set_option Elab.async false
set_option linter.all false
set_option maxRecDepth 100000
set_option maxHeartbeats 4000000
/-! k92: conditions and parts as they stand in the heap. -/
namespace K92
open PySem PySem.Spec PyProof.Rows L2 He HL M
mutual
def cd : Cond → PyData
  | .word b => .tuple [.str (HL.S (yq b))]
  | .ask n => .tuple [.str (HL.S (q "ask")), .str (HL.S n)]
  | .neg c => .tuple [.str (HL.S (q "not")), cd c]
  | .many b cs => .tuple [.str (HL.S (nq b)), .tuple (cdL cs)]
def cdL : List Cond → List PyData
  | [] => []
  | c :: cs => cd c :: cdL cs
end
mutual
def pd : Part → PyData
  | .back => .tuple [.str (HL.S (q "back"))]
  | .leave k => .tuple [.str (HL.S (q "leave")), .int (k : Nat)]
  | .step n => .tuple [.str (HL.S (q "step")), .str (HL.S n)]
  | .call n => .tuple [.str (HL.S (q "call")), .str (HL.S n)]
  | .row ps => .tuple [.str (HL.S (q "row")), .tuple (pdL ps)]
  | .whil c p => .tuple [.str (HL.S (q "while")), cd c, pd p]
  | .ite c p r => .tuple [.str (HL.S (q "if")), cd c, pd p, pd r]
def pdL : List Part → List PyData
  | [] => []
  | p :: ps => pd p :: pdL ps
end
mutual
def CAt (H : Hp) : Cond → V → Prop
  | .word b, v => ∃ a, v = .ref a ∧ H a = some (.tup [.str (HL.S (yq b))])
  | .ask n, v => ∃ a, v = .ref a ∧ H a = some (.tup [.str (HL.S (q "ask")), .str (HL.S n)])
  | .neg c, v => ∃ a u, v = .ref a ∧ H a = some (.tup [.str (HL.S (q "not")), u]) ∧ CAt H c u
  | .many b cs, v => ∃ a t us, v = .ref a ∧ H a = some (.tup [.str (HL.S (nq b)), .ref t]) ∧ H t = some (.tup us) ∧ CAtL H cs us
def CAtL (H : Hp) : List Cond → List V → Prop
  | [], us => us = []
  | c :: cs, us => ∃ v vs, us = v :: vs ∧ CAt H c v ∧ CAtL H cs vs
end
mutual
def PAt (H : Hp) : Part → V → Prop
  | .back, v => ∃ a, v = .ref a ∧ H a = some (.tup [.str (HL.S (q "back"))])
  | .leave k, v => ∃ a, v = .ref a ∧ H a = some (.tup [.str (HL.S (q "leave")), .int (k : Nat)])
  | .step n, v => ∃ a, v = .ref a ∧ H a = some (.tup [.str (HL.S (q "step")), .str (HL.S n)])
  | .call n, v => ∃ a, v = .ref a ∧ H a = some (.tup [.str (HL.S (q "call")), .str (HL.S n)])
  | .row ps, v => ∃ a t us, v = .ref a ∧ H a = some (.tup [.str (HL.S (q "row")), .ref t]) ∧ H t = some (.tup us) ∧ PAtL H ps us
  | .whil c p, v => ∃ a u x, v = .ref a ∧ H a = some (.tup [.str (HL.S (q "while")), u, x]) ∧ CAt H c u ∧ PAt H p x
  | .ite c p r, v => ∃ a u x y, v = .ref a ∧ H a = some (.tup [.str (HL.S (q "if")), u, x, y]) ∧ CAt H c u ∧ PAt H p x ∧ PAt H r y
def PAtL (H : Hp) : List Part → List V → Prop
  | [], us => us = []
  | p :: ps, us => ∃ v vs, us = v :: vs ∧ PAt H p v ∧ PAtL H ps vs
end
theorem cAtL_iff {H : Hp} : ∀ {cs : List Cond} {us : List V}, CAtL H cs us ↔ All2 (fun v c => CAt H c v) us cs
  | [], us => by
    unfold CAtL
    cases us with
    | nil => exact ⟨fun _ => trivial, fun _ => rfl⟩
    | cons v vs => exact ⟨fun h => (nomatch h), fun h => False.elim h⟩
  | c :: cs, us => by
    unfold CAtL
    cases us with
    | nil => exact ⟨fun ⟨_, _, h, _⟩ => (nomatch h), fun h => False.elim h⟩
    | cons v vs => exact ⟨fun ⟨v', vs', h, h1, h2⟩ => by
        injection h with e1 e2
        subst e1 e2
        exact ⟨h1, cAtL_iff.mp h2⟩, fun h => ⟨v, vs, rfl, h.1, cAtL_iff.mpr h.2⟩⟩
theorem pAtL_iff {H : Hp} : ∀ {cs : List Part} {us : List V}, PAtL H cs us ↔ All2 (fun v c => PAt H c v) us cs
  | [], us => by
    unfold PAtL
    cases us with
    | nil => exact ⟨fun _ => trivial, fun _ => rfl⟩
    | cons v vs => exact ⟨fun h => (nomatch h), fun h => False.elim h⟩
  | c :: cs, us => by
    unfold PAtL
    cases us with
    | nil => exact ⟨fun ⟨_, _, h, _⟩ => (nomatch h), fun h => False.elim h⟩
    | cons v vs => exact ⟨fun ⟨v', vs', h, h1, h2⟩ => by
        injection h with e1 e2
        subst e1 e2
        exact ⟨h1, pAtL_iff.mp h2⟩, fun h => ⟨v, vs, rfl, h.1, pAtL_iff.mpr h.2⟩⟩
/-! ### what moves does not touch them -/
mutual
theorem CAt.keep {H H' : Hp} (e : TupK H H') : ∀ (c : Cond) (v : V), CAt H c v → CAt H' c v
  | .word b, v, h => by
    unfold CAt at h ⊢
    obtain ⟨a, r, h⟩ := h
    exact ⟨a, r, e _ _ h⟩
  | .ask n, v, h => by
    unfold CAt at h ⊢
    obtain ⟨a, r, h⟩ := h
    exact ⟨a, r, e _ _ h⟩
  | .neg c, v, h => by
    unfold CAt at h ⊢
    obtain ⟨a, u, r, h, h1⟩ := h
    exact ⟨a, u, r, e _ _ h, CAt.keep e c u h1⟩
  | .many b cs, v, h => by
    unfold CAt at h ⊢
    obtain ⟨a, t, us, r, h, h1, h2⟩ := h
    exact ⟨a, t, us, r, e _ _ h, e _ _ h1, CAtL.keep e cs us h2⟩
theorem CAtL.keep {H H' : Hp} (e : TupK H H') : ∀ (cs : List Cond) (us : List V), CAtL H cs us → CAtL H' cs us
  | [], us, h => by
    unfold CAtL at h ⊢
    exact h
  | c :: cs, us, h => by
    unfold CAtL at h ⊢
    obtain ⟨v, vs, r, h1, h2⟩ := h
    exact ⟨v, vs, r, CAt.keep e c v h1, CAtL.keep e cs vs h2⟩
end
mutual
theorem PAt.keep {H H' : Hp} (e : TupK H H') : ∀ (c : Part) (v : V), PAt H c v → PAt H' c v
  | .back, v, h => by
    unfold PAt at h ⊢
    obtain ⟨a, r, h⟩ := h
    exact ⟨a, r, e _ _ h⟩
  | .leave k, v, h => by
    unfold PAt at h ⊢
    obtain ⟨a, r, h⟩ := h
    exact ⟨a, r, e _ _ h⟩
  | .step n, v, h => by
    unfold PAt at h ⊢
    obtain ⟨a, r, h⟩ := h
    exact ⟨a, r, e _ _ h⟩
  | .call n, v, h => by
    unfold PAt at h ⊢
    obtain ⟨a, r, h⟩ := h
    exact ⟨a, r, e _ _ h⟩
  | .row ps, v, h => by
    unfold PAt at h ⊢
    obtain ⟨a, t, us, r, h, h1, h2⟩ := h
    exact ⟨a, t, us, r, e _ _ h, e _ _ h1, PAtL.keep e ps us h2⟩
  | .whil c p, v, h => by
    unfold PAt at h ⊢
    obtain ⟨a, u, x, r, h, h1, h2⟩ := h
    exact ⟨a, u, x, r, e _ _ h, h1.keep e, PAt.keep e p x h2⟩
  | .ite c p r, v, h => by
    unfold PAt at h ⊢
    obtain ⟨a, u, x, y, r', h, h1, h2, h3⟩ := h
    exact ⟨a, u, x, y, r', e _ _ h, h1.keep e, PAt.keep e p x h2, PAt.keep e r y h3⟩
theorem PAtL.keep {H H' : Hp} (e : TupK H H') : ∀ (cs : List Part) (us : List V), PAtL H cs us → PAtL H' cs us
  | [], us, h => by
    unfold PAtL at h ⊢
    exact h
  | c :: cs, us, h => by
    unfold PAtL at h ⊢
    obtain ⟨v, vs, r, h1, h2⟩ := h
    exact ⟨v, vs, r, PAt.keep e c v h1, PAtL.keep e cs vs h2⟩
end
/-! ### as data -/
section
variable {K : PySem.W.Frag} {H : Hp}
theorem sqt {a : Addr} {xs : List V} (h : H a = some (.tup xs)) : SqT K H a xs := .inl (.inl h)
theorem sql {a : Addr} {xs : List V} (h : H a = some (.lst xs)) : SqL K H a xs := .inl (.inl h)
mutual
theorem CAt.dp : ∀ (c : Cond) (v : V), CAt H c v → Dp K H v (cd c)
  | .word b, v, h => by
    unfold CAt at h
    obtain ⟨a, rfl, h⟩ := h
    unfold cd
    exact .tup (sqt h) (.cons (.str _) .nil)
  | .ask n, v, h => by
    unfold CAt at h
    obtain ⟨a, rfl, h⟩ := h
    unfold cd
    exact .tup (sqt h) (.cons (.str _) (.cons (.str _) .nil))
  | .neg c, v, h => by
    unfold CAt at h
    obtain ⟨a, u, rfl, h, h1⟩ := h
    unfold cd
    exact .tup (sqt h) (.cons (.str _) (.cons (CAt.dp c u h1) .nil))
  | .many b cs, v, h => by
    unfold CAt at h
    obtain ⟨a, t, us, rfl, h, h1, h2⟩ := h
    unfold cd
    exact .tup (sqt h) (.cons (.str _) (.cons (.tup (sqt h1) (CAtL.dp cs us h2)) .nil))
theorem CAtL.dp : ∀ (cs : List Cond) (us : List V), CAtL H cs us → DpAll K H us (cdL cs)
  | [], us, h => by
    unfold CAtL at h
    subst h
    unfold cdL
    exact .nil
  | c :: cs, us, h => by
    unfold CAtL at h
    obtain ⟨v, vs, rfl, h1, h2⟩ := h
    unfold cdL
    exact .cons (CAt.dp c v h1) (CAtL.dp cs vs h2)
end
mutual
theorem PAt.dp : ∀ (c : Part) (v : V), PAt H c v → Dp K H v (pd c)
  | .back, v, h => by
    unfold PAt at h
    obtain ⟨a, rfl, h⟩ := h
    unfold pd
    exact .tup (sqt h) (.cons (.str _) .nil)
  | .leave k, v, h => by
    unfold PAt at h
    obtain ⟨a, rfl, h⟩ := h
    unfold pd
    exact .tup (sqt h) (.cons (.str _) (.cons (.int _) .nil))
  | .step n, v, h => by
    unfold PAt at h
    obtain ⟨a, rfl, h⟩ := h
    unfold pd
    exact .tup (sqt h) (.cons (.str _) (.cons (.str _) .nil))
  | .call n, v, h => by
    unfold PAt at h
    obtain ⟨a, rfl, h⟩ := h
    unfold pd
    exact .tup (sqt h) (.cons (.str _) (.cons (.str _) .nil))
  | .row cs, v, h => by
    unfold PAt at h
    obtain ⟨a, t, us, rfl, h, h1, h2⟩ := h
    unfold pd
    exact .tup (sqt h) (.cons (.str _) (.cons (.tup (sqt h1) (PAtL.dp cs us h2)) .nil))
  | .whil c p, v, h => by
    unfold PAt at h
    obtain ⟨a, u, x, rfl, h, h1, h2⟩ := h
    unfold pd
    exact .tup (sqt h) (.cons (.str _) (.cons h1.dp (.cons (PAt.dp p x h2) .nil)))
  | .ite c p r, v, h => by
    unfold PAt at h
    obtain ⟨a, u, x, y, rfl, h, h1, h2, h3⟩ := h
    unfold pd
    exact .tup (sqt h) (.cons (.str _) (.cons h1.dp (.cons (PAt.dp p x h2) (.cons (PAt.dp r y h3) .nil))))
theorem PAtL.dp : ∀ (cs : List Part) (us : List V), PAtL H cs us → DpAll K H us (pdL cs)
  | [], us, h => by
    unfold PAtL at h
    subst h
    unfold pdL
    exact .nil
  | c :: cs, us, h => by
    unfold PAtL at h
    obtain ⟨v, vs, rfl, h1, h2⟩ := h
    unfold pdL
    exact .cons (PAt.dp c v h1) (PAtL.dp cs vs h2)
end
end
/-! ### laid, shown, deep -/
theorem okS (l : List Nat) (h : l.all (fun c => decide (c < 0x110000)) = true) : PyData.strOk (HL.S l) = true := by
  unfold PyData.strOk
  rw [Array.all_eq_true']
  intro c hc
  exact List.all_eq_true.mp h c (by simpa [HL.S] using hc)
theorem nm_ok {n : Cs} (h : Nm n) : PyData.strOk (HL.S n) = true := okS n (List.all_eq_true.mpr fun c hc => by
  have h3 : c ∈ LET := of_decide_eq_true (h.all c hc)
  have h4 : ∀ d ∈ LET, d < 0x110000 := by decide
  exact decide_eq_true (h4 c h3))
theorem ok_yq (b : Bool) : PyData.strOk (HL.S (yq b)) = true := by cases b <;> exact okS _ (by decide)
theorem ok_nq (b : Bool) : PyData.strOk (HL.S (nq b)) = true := by cases b <;> exact okS _ (by decide)
theorem ok_ask : PyData.strOk (HL.S (q "ask")) = true := okS _ (by decide)
theorem ok_not : PyData.strOk (HL.S (q "not")) = true := okS _ (by decide)
theorem ok_back : PyData.strOk (HL.S (q "back")) = true := okS _ (by decide)
theorem ok_leave : PyData.strOk (HL.S (q "leave")) = true := okS _ (by decide)
theorem ok_step : PyData.strOk (HL.S (q "step")) = true := okS _ (by decide)
theorem ok_call : PyData.strOk (HL.S (q "call")) = true := okS _ (by decide)
theorem ok_row : PyData.strOk (HL.S (q "row")) = true := okS _ (by decide)
theorem ok_while : PyData.strOk (HL.S (q "while")) = true := okS _ (by decide)
theorem ok_if : PyData.strOk (HL.S (q "if")) = true := okS _ (by decide)
mutual
theorem cd_lay : ∀ c : Cond, c.wf → (cd c).canLay0 = true
  | .word b, _ => by
    unfold cd
    simp only [PyData.canLay0, PyData.canLayAll0, ok_yq, ok_nq, ok_ask, ok_not, ok_back, ok_leave, ok_step, ok_call, ok_row, ok_while, ok_if, Bool.and_true, Bool.true_and]
  | .ask n, h => by
    unfold cd
    have := nm_ok (show Nm n by simpa [Cond.wf] using h)
    simp only [PyData.canLay0, PyData.canLayAll0, this, ok_yq, ok_nq, ok_ask, ok_not, ok_back, ok_leave, ok_step, ok_call, ok_row, ok_while, ok_if, Bool.and_true, Bool.true_and]
  | .neg c, h => by
    unfold cd
    have := cd_lay c (by simpa [Cond.wf] using h)
    simp only [PyData.canLay0, PyData.canLayAll0, this, ok_yq, ok_nq, ok_ask, ok_not, ok_back, ok_leave, ok_step, ok_call, ok_row, ok_while, ok_if, Bool.and_true, Bool.true_and]
  | .many b cs, h => by
    unfold cd
    have := cdL_lay cs (by simpa [Cond.wf] using h)
    simp only [PyData.canLay0, PyData.canLayAll0, this, ok_yq, ok_nq, ok_ask, ok_not, ok_back, ok_leave, ok_step, ok_call, ok_row, ok_while, ok_if, Bool.and_true, Bool.true_and]
theorem cdL_lay : ∀ cs : List Cond, wfC cs → PyData.canLayAll0 (cdL cs) = true
  | [], _ => by
    unfold cdL
    rfl
  | c :: cs, h => by
    unfold cdL
    have h1 : c.wf ∧ wfC cs := by simpa [wfC] using h
    simp only [PyData.canLayAll0, cd_lay c h1.1, cdL_lay cs h1.2, Bool.and_true]
end
mutual
theorem pd_lay : ∀ c : Part, c.wf → (pd c).canLay0 = true
  | .back, _ => by
    unfold pd
    simp only [PyData.canLay0, PyData.canLayAll0, ok_yq, ok_nq, ok_ask, ok_not, ok_back, ok_leave, ok_step, ok_call, ok_row, ok_while, ok_if, Bool.and_true, Bool.true_and]
  | .leave k, _ => by
    unfold pd
    simp only [PyData.canLay0, PyData.canLayAll0, ok_yq, ok_nq, ok_ask, ok_not, ok_back, ok_leave, ok_step, ok_call, ok_row, ok_while, ok_if, Bool.and_true, Bool.true_and]
  | .step n, h => by
    unfold pd
    have := nm_ok (show Nm n by simpa [Part.wf] using h)
    simp only [PyData.canLay0, PyData.canLayAll0, this, ok_yq, ok_nq, ok_ask, ok_not, ok_back, ok_leave, ok_step, ok_call, ok_row, ok_while, ok_if, Bool.and_true, Bool.true_and]
  | .call n, h => by
    unfold pd
    have := nm_ok (show Nm n by simpa [Part.wf] using h)
    simp only [PyData.canLay0, PyData.canLayAll0, this, ok_yq, ok_nq, ok_ask, ok_not, ok_back, ok_leave, ok_step, ok_call, ok_row, ok_while, ok_if, Bool.and_true, Bool.true_and]
  | .row cs, h => by
    unfold pd
    have := pdL_lay cs (by simpa [Part.wf] using h)
    simp only [PyData.canLay0, PyData.canLayAll0, this, ok_yq, ok_nq, ok_ask, ok_not, ok_back, ok_leave, ok_step, ok_call, ok_row, ok_while, ok_if, Bool.and_true, Bool.true_and]
  | .whil c p, h => by
    unfold pd
    have h1 : c.wf ∧ p.wf := by simpa [Part.wf] using h
    simp only [PyData.canLay0, PyData.canLayAll0, cd_lay c h1.1, pd_lay p h1.2, ok_yq, ok_nq, ok_ask, ok_not, ok_back, ok_leave, ok_step, ok_call, ok_row, ok_while, ok_if, Bool.and_true, Bool.true_and]
  | .ite c p r, h => by
    unfold pd
    have h1 : c.wf ∧ p.wf ∧ r.wf := by simpa [Part.wf] using h
    simp only [PyData.canLay0, PyData.canLayAll0, cd_lay c h1.1, pd_lay p h1.2.1, pd_lay r h1.2.2, ok_yq, ok_nq, ok_ask, ok_not, ok_back, ok_leave, ok_step, ok_call, ok_row, ok_while, ok_if, Bool.and_true, Bool.true_and]
theorem pdL_lay : ∀ cs : List Part, wfP cs → PyData.canLayAll0 (pdL cs) = true
  | [], _ => by
    unfold pdL
    rfl
  | c :: cs, h => by
    unfold pdL
    have h1 : c.wf ∧ wfP cs := by simpa [wfP] using h
    simp only [PyData.canLayAll0, pd_lay c h1.1, pdL_lay cs h1.2, Bool.and_true]
end
end K92
end

section
set_option Elab.async false
set_option linter.all false
set_option maxRecDepth 100000
set_option maxHeartbeats 4000000
/-! k92: several. -/
namespace K92
open PySem PySem.Spec PyProof.Rows L2 He HL
section
variable {w : World} {K : PySem.W.Frag} {mg : Str → Option Value} {base : Heap}
/-- the reader at p has r still to read -/
def RdR (K : PySem.W.Frag) (H : Hp) (p : Addr) (s r : List Nat) : Prop := ∃ i, RdAt K H p s i ∧ s.drop i = r
theorem RdR.ins {H : Hp} {p : Addr} {s r : List Nat} (h : RdR K H p s r) : ∃ dx fs, H p = some (.ins (RC K) dx fs) := let ⟨_, ⟨dx, e⟩, _⟩ := h; ⟨dx, _, e⟩
/-- what reading may change: the reader, tables of code -/
abbrev XRd (p : Addr) : Addr → HO → Prop := fun b o => b ≠ p ∧ ∀ ps, o ≠ .tbl ps
abbrev Kp (p : Addr) : Hp → Hp → Prop := Fr (XRd p)
theorem kpB {p : Addr} {H H' : Hp} (e : SameB p H H') : Kp p H H' := fun b o h x => e b o h x.1
theorem kpS {p : Addr} {H H' : Hp} (e : Same H H') : Kp p H H' := fun b o h x => e b o h
theorem kpN {p : Addr} {H H' : Hp} {dx : Addr} {fs : List (Str × V)} {C : Addr} (h : H p = some (.ins C dx fs)) (e : LamX.ExtN H H') : Kp p H H' := fun b o z x => e b o z x.2
theorem kpT {p : Addr} {H H' : Hp} {s r : List Nat} (e : Kp p H H') (h : RdR K H p s r) : TupK H H' := e.tup fun b xs z => ⟨fun q => by
  obtain ⟨dx, fs, h⟩ := h.ins
  rw [q, h] at z
  exact (nomatch z), fun ps q => (nomatch q)⟩
theorem tabB {T : List (Addr × Str)} {p : Addr} {H H' : Hp} {s r : List Nat} (t : LamX.Tabs T H) (e : SameB p H H') (h : RdR K H p s r) : LamX.Tabs T H' := fun x hx => by
  obtain ⟨dx, fs, h⟩ := h.ins
  obtain ⟨ps, h1, h2, h3⟩ := t x hx
  refine ⟨ps, e _ _ h1 (fun z => by rw [z, h] at h1; cases h1), h2, fun pos cv hc => ?_⟩
  obtain ⟨c, e1, e2⟩ := h3 pos cv hc
  exact ⟨c, e1, e _ _ e2 (fun z => by rw [z, h] at e2; cases e2)⟩
theorem drop_takes {s w r : List Nat} {i : Nat} (h : M.takes w (s.drop i) = some r) : s.drop (i + w.length) = r := by
  unfold M.takes at h
  split at h
  · rw [← List.drop_drop]
    exact Option.some.inj h
  · cases h
/-- takes, by what is left to read -/
def spTakesR (K : PySem.W.Frag) : Sp := fun vs H Q _ => ∃ p s r w, vs = [.ref p, .str (S w)] ∧ RdR K H p s r ∧ s.length ≤ 1000000 ∧ w.length ≤ 1000 ∧
  (M.takes w r = none → Q (.bl false) H) ∧ (∀ r', M.takes w r = some r' → ∀ H', SameB p H H' → RdR K H' p s r' → Q (.bl true) H')
theorem o_takesR (W : Wl K mg) : OkD w K mg base CX0 1 d_Reader_takes ["self", "sign"] (spTakesR K) := (o_takes W).imp fun vs H Q E ⟨p, s, r, w, e, ⟨i, h1, h2⟩, h3, h4, h5, h6⟩ =>
  ⟨p, s, i, w, e, h1, h3, h4, fun z => h5 (h2 ▸ z), fun r' z H' e' q => h6 r' (h2 ▸ z) H' e' ⟨_, q, drop_takes z⟩⟩
def spNeedsR (K : PySem.W.Frag) : Sp := fun vs H Q E => ∃ p s r w, vs = [.ref p, .str (S w)] ∧ RdR K H p s r ∧ s.length ≤ 1000000 ∧ w.length ≤ 1000 ∧
  (M.takes w r = none → E (.ref (CN K)) none H) ∧ (∀ r', M.takes w r = some r' → ∀ H', SameB p H H' → RdR K H' p s r' → Q .non H')
theorem o_needsR (W : Wl K mg) : OkD w K mg base (CXN w) 3 d_Reader_needs ["self", "sign"] (spNeedsR K) := (o_needs W).imp fun vs H Q E ⟨p, s, r, w, e, ⟨i, h1, h2⟩, h3, h4, h5, h6⟩ =>
  ⟨p, s, i, w, e, h1, h3, h4, fun z => h5 (h2 ▸ z), fun r' z H' e' q => h6 r' (h2 ▸ z) H' e' ⟨_, q, drop_takes z⟩⟩
theorem drop_tw {f : Nat → Bool} {s : List Nat} {i : Nat} : s.drop (i + ((s.drop i).takeWhile f).length) = (s.drop i).dropWhile f := by
  rw [← List.drop_drop]
  generalize s.drop i = l
  induction l with
  | nil => rfl
  | cons c l ih =>
    by_cases h : f c = true
    · rw [List.takeWhile_cons_of_pos h, List.dropWhile_cons_of_pos h, List.length_cons, List.drop_succ_cons, ih]
    · rw [List.takeWhile_cons_of_neg h, List.dropWhile_cons_of_neg h]
      rfl
def spSignsR (K : PySem.W.Frag) : Sp := fun vs H Q _ => ∃ p s r z, vs = [.ref p, .str z] ∧ RdR K H p s r ∧ s.length ≤ 1000000 ∧
  ∀ f, (∀ c, f c = decide (c ∈ z.cps.toList)) → ∀ H', SameB p H H' → RdR K H' p s (r.dropWhile f) → Q (.str (S (r.takeWhile f))) H'
theorem o_signsR (W : Wl K mg) : OkD w K mg base CX0 1 d_Reader_signs ["self", "some"] (spSignsR K) := (o_signs W).imp fun vs H Q E ⟨p, s, r, z, e, ⟨i, h1, h2⟩, h3, h4⟩ =>
  ⟨p, s, i, z, e, h1, h3, fun f hf H' e' q => by
    subst h2
    exact h4 f hf H' e' ⟨_, q, drop_tw⟩⟩
def spWordR (K : PySem.W.Frag) : Sp := fun vs H Q E => ∃ p s r, vs = [.ref p] ∧ RdR K H p s r ∧ s.length ≤ 1000000 ∧
  (M.word r = none → ∀ H', SameB p H H' → E (.ref (CN K)) none H') ∧ (∀ w r', M.word r = some (w, r') → ∀ H', SameB p H H' → RdR K H' p s r' → Q (.str (S w)) H')
theorem o_wordR (W : Wl K mg) : OkD w K mg base (CXN w) 3 d_Reader_word_here ["self"] (spWordR K) := (o_word_here W).imp fun vs H Q E ⟨p, s, r, e, ⟨i, h1, h2⟩, h3, h4, h5⟩ =>
  ⟨p, s, i, e, h1, h3, fun z => h4 (h2 ▸ z), fun w r' z H' e' q => h5 w r' (h2 ▸ z) H' e' ⟨_, q, by
    obtain ⟨e1, _, _⟩ := M.word_some z
    rw [← List.drop_drop, e1, List.drop_left]⟩⟩
abbrev n_Reader_several : List Str := ["self", "end", "between", "read", "found"]
theorem sc_Reader_several : FnScope n_Reader_several ["self", "end", "between", "read"] (defScope s_Reader_several) := ⟨rfl, rfl, rfl, by decide +kernel, rfl, by decide +kernel, by decide +kernel⟩
theorem bi_Reader_several : ∀ (kV doc pm : Value) (an : Option Addr) (cdv ct : Value) (us : List Value), us.length = 4 → bindArgs (PySem.W.fnOf d_Reader_several.name d_Reader_several.qual d_Reader_several.params d_Reader_several.body d_Reader_several.scope .none kV doc pm an cdv ct) ⟨us, []⟩ = pure ([("self" : Str), ("end" : Str), ("between" : Str), ("read" : Str)].zip us) := fun kV doc pm an cdv ct us hu => by
  match us, hu with
  | [u0, u1, u2, u3], _ => rfl
theorem codeO_ins {c : Addr} {q : Str} {C dx : Addr} {fs : List (Str × V)} : LamX.CodeO c q ≠ .ins C dx fs := fun z => by
  unfold LamX.CodeO at z
  cases z
theorem codeO_lst {c : Addr} {q : Str} {xs : List V} : LamX.CodeO c q ≠ .lst xs := fun z => by
  unfold LamX.CodeO at z
  cases z
/-- several, by what its reader reads -/
def TTs (K : PySem.W.Frag) {α : Type} (rd : List Nat → Option (α × List Nat)) (G : α → Prop) (At : Hp → α → V → Prop) (dat : α → PyData) (T : List (Addr × Str)) : List V → XK → (XK → Hp → VK → Prop) → Hp → VK → Prop := fun vs Eg tl H Q =>
  ∃ (p : Addr) (s r e b : List Nat), vs = [.ref p, .str (S e), .str (S b)] ∧ RdR K H p s r ∧ s.length ≤ 1000000 ∧ r.length ≤ s.length ∧ e.length ≤ 1000 ∧ b.length ≤ 1000 ∧ LamX.Tabs T H ∧
  (∀ (E' : XK) (H' : Hp) (Q' : VK) (r' : List Nat), RdR K H' p s r' → Kp p H H' → LamX.Tabs T H' → (∃ a, r = a ++ r') →
    (rd r' = none → ∀ H'', Kp p H' H'' → LamX.Tabs T H'' → E' (.ref (CN K)) none H'') →
    (∀ d r'', rd r' = some (d, r'') → ∀ v H'', Kp p H' H'' → LamX.Tabs T H'' → RdR K H'' p s r'' → At H'' d v → Q' v H'') → tl E' H' Q') ∧
  (M.sev rd e b (r.length + 1) [] r = none → ∀ H', Kp p H H' → LamX.Tabs T H' → Eg (.ref (CN K)) none H') ∧
  (∀ cs r', M.sev rd e b (r.length + 1) [] r = some (cs, r') → ∀ u us H', Kp p H H' → LamX.Tabs T H' → RdR K H' p s r' → H' u = some (.tup us) → All2 (fun v c => At H' c v) us cs → us.length ≤ 1000000 → Q (.ref u) H')
theorem eqv_nil {α : Type} (dat : α → PyData) (l : List α) : PyData.eqv (.list (l.map dat)) (.list []) = l.isEmpty := by
  cases l <;> simp [PyData.eqv, PyData.eqvAll]
theorem dpAll_of {α : Type} {K : PySem.W.Frag} {H : Hp} {At : Hp → α → V → Prop} {dat : α → PyData} (h : ∀ d v, At H d v → Dp K H v (dat d)) : ∀ {us : List V} {cs : List α}, All2 (fun v c => At H c v) us cs → DpAll K H us (cs.map dat)
  | [], [], _ => .nil
  | u :: us, c :: cs, z => .cons (h c u z.1) (dpAll_of h z.2)
  | [], _ :: _, z => False.elim z
  | _ :: _, [], z => False.elim z
theorem lay_of {α : Type} {G : α → Prop} {dat : α → PyData} (h : ∀ d, G d → (dat d).canLay0 = true) : ∀ {cs : List α}, (∀ c ∈ cs, G c) → PyData.canLayAll0 (cs.map dat) = true
  | [], _ => rfl
  | c :: cs, z => by
    show ((dat c).canLay0 && PyData.canLayAll0 (cs.map dat)) = true
    rw [h c (z c (by simp)), lay_of h fun x hx => z x (by simp [hx])]
    rfl
theorem several_gives (W : Wl K mg) {α : Type} {rd : List Nat → Option (α × List Nat)} {G : α → Prop} {At : Hp → α → V → Prop} {dat : α → PyData} {T : List (Addr × Str)} {q0 : Str}
    (hrd : ∀ s d r, rd s = some (d, r) → G d ∧ ∃ a, s = a ++ r ∧ a ≠ []) (hAt : ∀ H H' d v, TupK H H' → At H d v → At H' d v) (hdp : ∀ H d v, At H d v → Dp K H v (dat d)) (hlay : ∀ d, G d → (dat d).canLay0 = true)
    {N : List Str} {qual : Str} {scope : Scope} {f0 : Addr} {cdv0 : Value} {A : Around} {outer : List Env} {s0 : Shared} {H0 : Hp} {E0 : XK} {k : Nat} {g : Addr} :
    XP.GivesM (cxOf (CXN w) P0 w K mg base N qual scope f0 cdv0 A outer s0 H0 E0) (CXN w) (k + 3) n_Reader_several d_Reader_several.qual d_Reader_several.scope g d_Reader_several.body "read" 3 q0 (TTs K rd G At dat T) := by
  intro f c' cdg s1 H vs Q E tl hvs hr hact hc h
  have tk := takes_of (X := cxOf (CXN w) P0 w K mg base n_Reader_several d_Reader_several.qual d_Reader_several.scope g cdg (cxOf (CXN w) P0 w K mg base N qual scope f0 cdv0 A outer s0 H0 E0).A (cxOf (CXN w) P0 w K mg base N qual scope f0 cdv0 A outer s0 H0 E0).stack s1 H E) rfl rfl rfl rfl
  have nd := sc_Reader_several.nd
  have O_takes := o_takesR (w := w) (base := base) W
  have O_needs := o_needsR (w := w) (base := base) W
  have hact2 := fun p1 p2 => hact (fun cls d _ H => E cls d H) _ _ E p1 p2 tk (fun _ _ _ _ h => h)
  refine ⟨_, (pss_cons (ps_set (i := 4) nd rfl (Or.inl rfl) (pe_lst pa_nil))
    (pss_cons (ps_while (passes_of rfl) (pt_not (pt_val (pe_cam O_takes W.k_Reader W.m_Reader_takes (hr.mono (by omega)) pass0 (pv 0) (pa_cons (pv 1) pa_nil)))) (pss_cons (ps_if (pt_cmpR XP.op_neE (pv 4) (pe_lst pa_nil) (nomark _)) (pss_one (ps_expr (pe_cam O_needs W.k_Reader W.m_Reader_needs (hr.mono (by omega)) (passes_call tk (fun _ _ _ _ h => h)) (pv 0) (pa_cons (pv 2) pa_nil)))) pss_nil)
      (pss_one (ps_expr (pe_bm PySem.F.plainAttrs_list PySem.F.slot_list_append PySem.F.type_list_append mt_append (pv 4) (pa_cons (hact2 _ _) pa_nil))))))
    (pss_one (ps_ret (pe_callTy call_tuple_of (by rfl) W.f_tuple (by decide +kernel) (pa_cons (pv 4) pa_nil)))))), ?_⟩
  obtain ⟨p, s, r, e, b, rfl, hR, hs, hrs, he, hb, hT, hact3, hF, hQ⟩ := h
  obtain ⟨dx0, fs0, hp0⟩ := hR.ins
  have hun : ∀ X : PyData, (cxOf (CXN w) P0 w K mg base N qual scope f0 cdv0 A outer s0 H0 E0).A.deeper (envOfC d_Reader_several.qual d_Reader_several.scope s1.heap.objs.size g cdg) |>.units |> fun u => u + min X.depth (PyData.list []).depth < cLine := fun X => by
    have h1 := hr.un
    have h2 : (PyData.list []).depth = 1 := by simp [PyData.depth, PyData.depthAll]
    have h3 := Nat.min_le_right X.depth (PyData.list []).depth
    show _ + _ < _
    omega
  refine ⟨Nat.zero_le _, fun L hL => ?_⟩
  have nLp : L ≠ p := (ne_of_none hp0 hL).symm
  refine HL.while_zz
    (fun m σ H1 => ∃ (acc : List α) (us : List V) (r' : List Nat) (n : Nat), m = r'.length ∧ σ = [some (.ref p), some (.str (S e)), some (.str (S b)), some (.ref f), some (.ref L)] ∧ Kp p H H1 ∧ H1 L = some (.lst us) ∧ All2 (fun v c => At H1 c v) us acc ∧ (∀ c ∈ acc, G c) ∧
      RdR K H1 p s r' ∧ LamX.Tabs T H1 ∧ (∃ a, r = a ++ r') ∧ us.length + r'.length ≤ r.length ∧ r'.length < n ∧ M.sev rd e b n acc r' = M.sev rd e b (r.length + 1) [] r)
    (fun σ H1 => ∃ (acc : List α) (us : List V) (r' : List Nat), σ = [some (.ref p), some (.str (S e)), some (.str (S b)), some (.ref f), some (.ref L)] ∧ Kp p H H1 ∧ H1 L = some (.lst us) ∧ All2 (fun v c => At H1 c v) us acc ∧
      RdR K H1 p s r' ∧ LamX.Tabs T H1 ∧ us.length ≤ r.length ∧ M.sev rd e b (r.length + 1) [] r = some (acc, r'))
    ⟨_, [], [], r, r.length + 1, rfl, rfl, .of (same_new hL), upd_same, trivial, (fun c hc => by simp at hc), ⟨hR.choose, let ⟨dx, z⟩ := hR.choose_spec.1; ⟨dx, by rw [upd_ne nLp.symm]; exact z⟩, hR.choose_spec.2⟩, hT.ext (same_new hL), ⟨[], rfl⟩, by simp, by omega, rfl⟩ ?_ ?_
  · rintro m σ H1 ⟨acc, us, r', n, rfl, rfl, e1, hl, hA, hG, hR1, hT1, ⟨a, ha⟩, hn, hfu, hse⟩ R hYes hNo
    obtain ⟨ix, ⟨dx, hp⟩, _⟩ := id hR1
    have nL : ∀ {H2 : Hp} {o : HO}, H2 p = some o → ∀ {xs}, H2 L = some (HO.lst xs) → True := fun _ _ _ => trivial
    obtain ⟨n, rfl⟩ : ∃ m, n = m + 1 := ⟨n - 1, by omega⟩
    have kpL : ∀ {Ha Hb : Hp} {xs : List V}, Kp p Ha Hb → Ha L = some (.lst xs) → Hb L = some (.lst xs) := fun z h => z _ _ h ⟨nLp, fun ps q => nomatch q⟩
    have kpC : ∀ {Ha : Hp}, Kp p H Ha → Ha c' = some (LamX.CodeO c' q0) := fun z => z _ _ hc ⟨fun q => by rw [q, hp0] at hc; exact codeO_ins (Option.some.inj hc).symm, fun ps => LamX.codeO_ne ps⟩
    refine ⟨_, rfl, p, dx, _, rfl, hp, rfl, _, rfl, p, s, r', e, rfl, hR1, hs, he, fun hno => ⟨_, rfl, ?_⟩, fun r2 hyes H2 e2 hR2 => ⟨_, rfl, ?_⟩⟩
    · -- one more
      have hse' : M.sev rd e b (n + 1) acc r' = (match (if acc.isEmpty = true then some r' else M.takes b r') with
        | none => none
        | some s1 => match rd s1 with
          | none => none
          | some (d, s2) => M.sev rd e b n (acc ++ [d]) s2) := by
        show (match M.takes e r' with | some r => some (acc, r) | none => _) = _
        rw [hno] <;> rfl
      refine hYes _ fun N F hN hZ => ?_
      -- what is read next, from r3
      have step : ∀ (r3 : List Nat) (H3 : Hp), Kp p H1 H3 → RdR K H3 p s r3 → LamX.Tabs T H3 → (∃ a, r' = a ++ r3) → (if acc.isEmpty = true then some r' else M.takes b r') = some r3 → tDrop (tBM K "list" rAppend (tVar 4) (tCons (fun σZ HZ Q => σZ[3]? = some (some (V.ref f)) ∧ HZ c' = some (LamX.CodeO c' q0) ∧ tl E HZ Q) tNil))
          { nx := N, ct := N, bk := F, rt := Q } [some (.ref p), some (.str (S e)), some (.str (S b)), some (.ref f), some (.ref L)] H3 := by
        intro r3 H3 e3 hR3 hT3 ⟨a3, ha3⟩ h3
        have hl3 := kpL e3 hl
        have e03 := e1.trans e3
        refine ⟨_, rfl, .inl ⟨rfl, _, sql hl3⟩, rfl, kpC e03, ?_⟩
        rw [h3] at hse'
        refine hact3 E H3 _ r3 hR3 e03 hT3 ⟨a ++ a3, by rw [ha, ha3, List.append_assoc]⟩ (fun hn4 H4 e4 hT4 => ?_) fun d r4 hd v H4 e4 hT4 hR4 hv => ?_
        · refine hF ?_ H4 (e03.trans e4) hT4
          rw [← hse, hse']
          show (match rd r3 with | none => none | some (d, s2) => _) = _
          rw [hn4] <;> rfl
        · have hl4 := kpL e4 hl3
          obtain ⟨g1, a4, ha4, hne⟩ := hrd _ _ _ hd
          have hlen4 : r4.length < r3.length := by
            have := List.length_pos_iff.mpr hne
            rw [ha4, List.length_append]
            omega
          have hlen3 : r3.length ≤ r'.length := by rw [ha3, List.length_append]; omega
          refine ⟨L, us, v, rfl, rfl, hl4, Nat.lt_of_le_of_lt (show us.length ≤ 1000000 by omega) (by decide), ?_⟩
          have tk4 : TupK H1 H4 := kpT (e3.trans e4) hR1
          refine hN r4.length _ _ (by omega) ⟨acc ++ [d], us ++ [v], r4, n, rfl, rfl, ?_, upd_same, ?_, ?_, ?_, ?_, ⟨a ++ (a3 ++ a4), by rw [ha, ha3, ha4]; simp⟩, by rw [List.length_append]; simp; omega, by omega, ?_⟩
          · exact (e03.trans e4).mutN hL
          · have up : TupK H4 (upd H4 L (.lst (us ++ [v]))) := (TupK.refl H4).mut hl4 (fun xs q => nomatch q)
            exact All2.snoc (R := fun v c => At (upd H4 L (.lst (us ++ [_]))) c v) (hAt _ _ _ _ up hv) (hA.imp fun v c z => hAt _ _ _ _ (tk4.trans up) z)
          · intro c hc
            rcases List.mem_append.mp hc with z | z
            · exact hG c z
            · have : c = d := by simpa using z
              rw [this]
              exact g1
          · obtain ⟨i4, ⟨dx4, z4⟩, z5⟩ := hR4
            exact ⟨i4, ⟨dx4, by rw [upd_ne nLp.symm]; exact z4⟩, z5⟩
          · exact fun x hx => by
              obtain ⟨ps, t1, t2, t3⟩ := hT4 x hx
              refine ⟨ps, by rw [upd_ne (fun z => by rw [z, hl4] at t1; cases t1)]; exact t1, t2, fun pos cv hcv => ?_⟩
              obtain ⟨c0, c1, c2⟩ := t3 pos cv hcv
              exact ⟨c0, c1, by rw [upd_ne (fun z => by rw [z, hl4] at c2; exact codeO_lst (Option.some.inj c2).symm)]; exact c2⟩
          · rw [← hse, hse']
            show _ = (match rd r3 with | none => none | some (d, s2) => _)
            rw [hd] <;> rfl
      refine ⟨_, rfl, Nat.zero_le _, fun l hlN => ?_⟩
      have sN : Same H1 (upd H1 l (.lst [])) := same_new hlN
      have hRN : RdR K (upd H1 l (.lst [])) p s r' := ⟨hR1.choose, let ⟨dx, z⟩ := hR1.choose_spec.1; ⟨dx, sN _ _ z⟩, hR1.choose_spec.2⟩
      have hpN := sN _ _ hp
      refine ⟨.list (acc.map dat), .list [], .lst (sql (sN _ _ hl)) (dpAll_of (hdp _) (hA.imp fun v c z => hAt _ _ _ _ (.of sN) z)), .lst (sql upd_same) .nil, lay_of hlay hG, rfl, hun _, ?_⟩
      rw [eqv_nil]
      refine ⟨_, rfl, ?_⟩
      cases hacc : acc.isEmpty with
      | true => exact iteF (step r' _ (kpS sN) hRN (hT1.ext sN) ⟨[], rfl⟩ (by rw [hacc] <;> rfl))
      | false =>
        refine iteT ⟨_, rfl, p, dx, _, rfl, hpN, rfl, _, rfl, p, s, r', b, rfl, hRN, hs, hb, fun hno3 => ?_, fun r3 hyes3 H3 e3 hR3 => ?_⟩
        · refine hF ?_ _ (e1.trans (kpS sN)) (hT1.ext sN)
          rw [← hse, hse', hacc]
          show (match M.takes b r' with | none => none | some s1 => _) = _
          rw [hno3] <;> rfl
        · exact step r3 _ ((kpS sN).trans (kpB e3)) hR3 (tabB (hT1.ext sN) e3 hRN) ⟨b, M.takes_some.mp hyes3⟩ (by rw [hacc]; exact hyes3)
    · -- the end is met
      have := hNo H2 ⟨acc, us, r2, rfl, e1.trans (kpB e2), kpL (kpB e2) hl, hA.imp fun v c z => hAt _ _ _ _ (kpT (kpB e2) hR1) z, hR2, tabB hT1 e2 hR1, by omega, by
        rw [← hse]
        show (match M.takes e r' with | some r => some (acc, r) | none => _) = _
        rw [hyes] <;> rfl⟩
      exact this
  · rintro σ H1 ⟨acc, us, r', rfl, e1, hl, hA, hR1, hT1, hn, hse⟩
    refine ⟨_, rfl, L, us, rfl, .inl ⟨sql hl, fun u hu => ?_⟩⟩
    have up : TupK H1 (upd H1 u (.tup us)) := .of (same_new hu)
    refine hQ acc r' hse u us _ (e1.new hu) (hT1.ext (same_new hu)) ?_ upd_same (hA.imp fun v c z => hAt _ _ _ _ up z) (by omega)
    obtain ⟨i4, ⟨dx4, z4⟩, z5⟩ := hR1
    exact ⟨i4, ⟨dx4, same_new hu _ _ z4⟩, z5⟩
end
end K92
end

section
set_option Elab.async false
set_option linter.all false
set_option maxRecDepth 100000
set_option maxHeartbeats 4000000
/-! k92: condition_here. -/
namespace K92
open PySem PySem.Spec PyProof.Rows L2 He HL
theorem sq (s : String) : V.str (Str.ofString s) = V.str (S (M.q s)) := by
  rw [HL.ofq]
  rfl
theorem eqV_str (a b : Str) : eqV (.str a) (.str b) = decide (a = b) := by
  show (a == b) = _
  by_cases h : a = b
  · rw [decide_eq_true h, h]
    simp
  · rw [decide_eq_false h]
    simpa using h
theorem S_dec (a b : List Nat) : decide (S a = S b) = decide (a = b) := by
  by_cases h : a = b
  · rw [h]
    simp
  · rw [decide_eq_false h, decide_eq_false fun z => h (S_inj z)]
theorem in_words {K : PySem.W.Frag} {H : Hp} {t : Addr} {w : List Nat} (l : List String) {Q : VK} (ht : H t = some (.tup (l.map fun s => V.str (Str.ofString s)))) (h : Q (.bl (l.any fun s => decide (w = M.q s))) H) : rIn K false (.str (S w)) (.ref t) H Q := by
  refine ⟨t, _, rfl, .inr (sqt ht), rfl, ?_, ?_⟩
  · rw [List.all_map]
    exact List.all_eq_true.mpr fun _ _ => rfl
  · have e : inV (.str (S w)) (l.map fun s => V.str (Str.ofString s)) = l.any fun s => decide (w = M.q s) := by
      unfold inV
      rw [List.any_map]
      congr 1
      funext s
      show eqV (V.str (Str.ofString s)) (.str (S w)) = _
      rw [sq, eqV_str, S_dec]
      exact decide_eq_decide.mpr ⟨Eq.symm, Eq.symm⟩
    show Q (.bl (inV _ _)) H
    rw [e]
    exact h
/-- the tables that the makers of lambdas have -/
structure Tb (K : PySem.W.Frag) (mg : Str → Option Value) (base : Heap) : Prop where
  tab : ∀ p ∈ tf, LamX.TabB base mg (He.cT K p).1 (He.cT K p).2
def qLam (d : DefD) : Str := (d.qual ++ ".<locals>.") ++ "<lambda>"
def TK (K : PySem.W.Frag) : List (Addr × Str) := [((He.cT K ("Reader", some "condition_here")).2, qLam d_Reader_condition_here), ((He.cT K ("law", none)).2, qLam d_law)]
theorem Wl.nodT {K : PySem.W.Frag} {mg : Str → Option Value} (W : Wl K mg) : ((TK K).map (·.1)).Nodup := let ⟨_, _, _, _, c⟩ := W.ex; of_decide_eq_true c.nod
theorem tab_uniq {T : List (Addr × Str)} (h : (T.map (·.1)).Nodup) {P : Addr} {q : Str} (hm : (P, q) ∈ T) : ∀ p ∈ T, p.1 = P → p.2 = q := by
  induction T with
  | nil => exact fun p hp => by simp at hp
  | cons a T ih =>
    rw [List.map_cons, List.nodup_cons] at h
    intro p hp e
    rcases List.mem_cons.mp hp with z1 | hp1
    · rcases List.mem_cons.mp hm with z2 | hm1
      · rw [z1, ← z2]
      · exact absurd (List.mem_map.mpr ⟨(P, q), hm1, by rw [← z1, e]⟩) h.1
    · rcases List.mem_cons.mp hm with z2 | hm1
      · exact absurd (List.mem_map.mpr ⟨p, hp1, by rw [← z2, e]⟩) h.1
      · exact ih h.2 hm1 p hp1 e
section
variable {w : World} {K : PySem.W.Frag} {mg : Str → Option Value} {base : Heap}
/-- a def that makes lambdas: its code object is told -/
theorem ok_ofT {CX : CXT} {k : Nat} {d : DefD} {N ps : List Str} {sp : Sp} (D : ∃ fd, FunD K d.name d.qual d.params d.body d.scope [] [] (fAd K d.at_) fd) (Sc : FnScope N ps d.scope) (len : ∀ vs H Q E, sp vs H Q E → vs.length = ps.length)
    (hb : ∀ (kV doc pm : Value) (an : Option Addr) (cdv ct : Value) (us : List Value), us.length = ps.length → bindArgs (PySem.W.fnOf d.name d.qual d.params d.body d.scope .none kV doc pm an cdv ct) ⟨us, []⟩ = pure (ps.zip us))
    (hbody : ∀ (A : Around) (outer : List Env) (s : Shared) (H : Hp) (vs : List V) (Q : VK) (E : XK), Room k (A.deeper (envOfC d.qual d.scope s.heap.objs.size (fAd K d.at_) (.ref (He.cT K d.at_).1))) → sp vs H Q E →
      ∃ t, PSs (cxOf CX P0 w K mg base N d.qual d.scope (fAd K d.at_) (.ref (He.cT K d.at_).1) A outer s H E) d.body t ∧ t { nx := fun _ H' => Q .non H', rt := Q } (L2.start N vs) H) : OkD w K mg base CX (k + 1) d ps sp := by
  obtain ⟨fd, F⟩ := D
  obtain ⟨oc, od, dV, kV, doc, pm, an, cdv, ct, osl, rfl, lk, hcd, h1, h2⟩ := id F.ex
  obtain ⟨c, rfl⟩ := He.codeIn_ref hcd
  have hc : He.codeOf K d.at_ = c := He.codeOf_eq lk rfl
  refine ⟨⟨_, fn_of lk hcd Sc len fun A outer s H vs Q E hr hsp => ?_, F.bindsN hb⟩, F.kp⟩
  subst hc
  exact hbody A outer s H vs Q E hr hsp
theorem o_vac {CX : CXT} {k : Nat} {d : DefD} {N ps : List Str} {sp : Sp} (D : ∃ fd, FunD K d.name d.qual d.params d.body d.scope [] [] (fAd K d.at_) fd) (Sc : FnScope N ps d.scope)
    (hb : ∀ (kV doc pm : Value) (an : Option Addr) (cdv ct : Value) (us : List Value), us.length = ps.length → bindArgs (PySem.W.fnOf d.name d.qual d.params d.body d.scope .none kV doc pm an cdv ct) ⟨us, []⟩ = pure (ps.zip us)) (h : ∀ vs H Q E, ¬ sp vs H Q E) : OkD w K mg base CX (k + 1) d ps sp :=
  HL.ok_of D Sc (fun vs H Q E z => (h vs H Q E z).elim) hb fun cdv A outer s H vs Q E hr z => (h vs H Q E z).elim
theorem RdR.len {H : Hp} {p : Addr} {s r : List Nat} (h : RdR K H p s r) : r.length ≤ s.length := by
  obtain ⟨i, _, e⟩ := h
  rw [← e, List.length_drop]
  omega
theorem RdR.keep {H H' : Hp} {p : Addr} {s r : List Nat} (h : RdR K H p s r) (e : ∀ o, H p = some o → (∀ ps, o ≠ .tbl ps) → H' p = some o) : RdR K H' p s r := let ⟨i, ⟨dx, z⟩, q⟩ := h; ⟨i, ⟨dx, e _ z (fun _ z => nomatch z)⟩, q⟩
abbrev n_Reader_condition_here : List Str := ["self", "word", "some"]
theorem sc_Reader_condition_here : FnScope n_Reader_condition_here ["self"] (defScope s_Reader_condition_here) := ⟨rfl, rfl, rfl, by decide +kernel, rfl, by decide +kernel, by decide +kernel⟩
theorem bi_Reader_condition_here : ∀ (kV doc pm : Value) (an : Option Addr) (cdv ct : Value) (us : List Value), us.length = 1 → bindArgs (PySem.W.fnOf d_Reader_condition_here.name d_Reader_condition_here.qual d_Reader_condition_here.params d_Reader_condition_here.body d_Reader_condition_here.scope .none kV doc pm an cdv ct) ⟨us, []⟩ = pure ([("self" : Str)].zip us) := fun kV doc pm an cdv ct us hu => by
  match us, hu with
  | [u0], _ => rfl
def spCond (K : PySem.W.Frag) (n : Nat) : Sp := fun vs H Q E => ∃ p s r, vs = [.ref p] ∧ RdR K H p s r ∧ s.length ≤ 1000000 ∧ M.om r < n ∧ LamX.Tabs (TK K) H ∧
  (M.cond n r = none → ∀ H', Kp p H H' → LamX.Tabs (TK K) H' → E (.ref (CN K)) none H') ∧
  (∀ c r', M.cond n r = some (c, r') → ∀ v H', Kp p H H' → LamX.Tabs (TK K) H' → RdR K H' p s r' → CAt H' c v → Q v H')
theorem cond_rd {n : Nat} : ∀ s c r, M.cond n s = some (c, r) → c.wf ∧ ∃ a, s = a ++ r ∧ a ≠ [] := fun s c r h => ⟨(M.cond_sound n s c r h).2, _, (M.cond_sound n s c r h).1, M.sh_ne c⟩
theorem o_cond (W : Wl K mg) (B : Tb K mg base) : ∀ (n L : Nat), (n = 0 → 1 ≤ L) → (0 < n → n + 5 ≤ L) → OkD w K mg base (CXN w) L d_Reader_condition_here ["self"] (spCond K n) := by
  intro n
  induction n using Nat.strongRecOn with
  | _ n ih =>
  intro L h0 h1
  by_cases hn : n = 0
  · obtain ⟨k, rfl⟩ : ∃ k, L = k + 1 := ⟨L - 1, by have := h0 hn; omega⟩
    exact o_vac W.D_Reader_condition_here sc_Reader_condition_here bi_Reader_condition_here fun vs H Q E ⟨p, s, r, _, _, _, z, _⟩ => by omega
  obtain ⟨k, rfl⟩ : ∃ k, L = k + 4 + 1 := ⟨L - 5, by have := h1 (by omega); omega⟩
  have hk : n ≤ k := by have := h1 (by omega); omega
  have O_in := ih (n - 3) (by omega) (k + 2) (fun _ => by omega) (fun z => by omega)
  refine ok_ofT W.D_Reader_condition_here sc_Reader_condition_here (fun vs H Q E ⟨_, _, _, h, _⟩ => by rw [h]; rfl) bi_Reader_condition_here fun A outer s H vs Q E hr h => ?_
  have tk := takes_of (X := cxOf (CXN w) P0 w K mg base n_Reader_condition_here d_Reader_condition_here.qual d_Reader_condition_here.scope (fAd K d_Reader_condition_here.at_) (.ref (He.cT K d_Reader_condition_here.at_).1) A outer s H E) rfl rfl rfl rfl
  have nd := sc_Reader_condition_here.nd
  have O_takes := o_takesR (w := w) (base := base) W
  have O_needs := o_needsR (w := w) (base := base) W
  have O_need := o_need (w := w) (base := base) W
  have O_word_here := o_wordR (w := w) (base := base) W
  obtain ⟨fdS, DS⟩ := W.D_Reader_several
  have bS : L2.Binds K fdS ["self", "end", "between", "read"] [] := DS.bindsN bi_Reader_several
  have hG := several_gives (w := w) (base := base) W (rd := M.cond (n - 3)) (G := M.Cond.wf) (At := CAt) (dat := cd) (T := TK K) (q0 := qLam d_Reader_condition_here) cond_rd (fun H H' d v e z => z.keep e) (fun H d v z => z.dp d v) cd_lay
    (N := n_Reader_condition_here) (qual := d_Reader_condition_here.qual) (scope := d_Reader_condition_here.scope) (f0 := fAd K d_Reader_condition_here.at_) (cdv0 := .ref (He.cT K d_Reader_condition_here.at_).1) (A := A) (outer := outer) (s0 := s) (H0 := H) (E0 := E) (k := k) (g := ma K (RC K) "several")
  refine ⟨_, (pss_cons (ps_if (pt_val (pe_cam O_takes W.k_Reader W.m_Reader_takes (hr.mono (by omega)) pass0 (pv 0) (pa_cons pe_str pa_nil))) (pss_one (ps_ret (pe_tup (pa_cons pe_str (pa_cons (pe_cam0 O_word_here W.k_Reader W.m_Reader_word_here (hr.mono (by omega)) (passes_call tk (fun _ _ _ _ h => h)) (pv 0)) pa_nil))))) pss_nil)
    (pss_cons (ps_set (i := 1) nd rfl (Or.inl rfl) (pe_cam0 O_word_here W.k_Reader W.m_Reader_word_here (hr.mono (by omega)) (passes_call tk (fun _ _ _ _ h => h)) (pv 0)))
    (pss_cons (ps_if (pt_cmpR op_in_seq (pv 1) (pe_tup (pa_cons pe_str (pa_cons pe_str pa_nil))) (by rfl)) (pss_one (ps_ret (pe_tup (pa_cons (pv 1) pa_nil)))) pss_nil)
    (pss_cons (ps_expr (pe_cal O_need (hr.mono (by omega)) W.g_need (passes_call tk (fun _ _ _ _ h => h)) (pa_cons (pe_cmpR op_in_seq (pv 1) (pe_tup (pa_cons pe_str (pa_cons pe_str (pa_cons pe_str pa_nil)))) (by rfl)) pa_nil)))
    (pss_cons (ps_expr (pe_cam O_needs W.k_Reader W.m_Reader_needs (hr.mono (by omega)) (passes_call tk (fun _ _ _ _ h => h)) (pv 0) (pa_cons pe_str pa_nil)))
    (pss_cons (ps_set (i := 2) nd rfl (Or.inl rfl) (XP.pe_lammeth (T := TK K) (TT := TTs K (M.cond (n - 3)) M.Cond.wf CAt cd (TK K)) (C := RC K) (c := (He.cT K ("Reader", some "condition_here")).1) (P := (He.cT K ("Reader", some "condition_here")).2) (k := k + 2) (CXg := CXN w) (t := fun E' => tMeth (RC K) "condition_here" (spCond K (n - 3)) [] E' (tVar 0) tNil) (E := E) DS bS rfl W.k_Reader W.m_Reader_several sc_Reader_several rfl (.inl rfl) hG (B.tab _ (by simp [tf])) rfl (by simp [TK]; left; rfl) (tab_uniq W.nodT (by simp [TK]; left; rfl)) hr (passes_call tk (fun _ _ _ _ h => h)) (show LamX.LamS (defScope s_Reader_condition_here) _ from LamX.lamS_by (by decide +kernel)) rfl (fun _ _ _ _ _ => rfl) (fun A' outer' s' H' E' f c' hr2 => pe_cam0 O_in W.k_Reader W.m_Reader_condition_here hr2 (passes_call (takes_of rfl rfl rfl rfl) (fun _ _ _ _ h => h)) (pv 0)) (pv 0) pe_str pe_str))
    (pss_cons (ps_expr (pe_cal O_need (hr.mono (by omega)) W.g_need (passes_call tk (fun _ _ _ _ h => h)) (pa_cons (pe_or (pe_cmpR op_ne (pv 1) pe_str (nomark _)) (pe_one (pe_cmpR op_eq (pe_callB call_len_seq (by rfl) W.f_len (by decide +kernel) (pa_cons (pv 2) pa_nil)) pe_int (nomark _)))) pa_nil)))
    (pss_one (ps_ret (pe_ifExp (pt_cmpR op_eq (pv 1) pe_str (nomark _)) (pe_tup (pa_cons pe_str (pa_cons (pe_ix ix_tup (pv 2) pe_int (fun _ _ => rfl)) pa_nil))) (pe_tup (pa_cons (pv 1) (pa_cons (pv 2) pa_nil))))))))))))), ?_⟩
  obtain ⟨p, s, r, rfl, hR, hs, hom, hT, hF, hQ⟩ := h
  rw [M.cond, dif_neg hn] at hF
  have hQ : ∀ c r', (match M.takes (M.q "?") r with
      | some r => (match M.word r with
        | none => none
        | some (w, r2) => some (M.Cond.ask w, r2))
      | none => (match M.word r with
        | none => none
        | some (w, r) =>
          if w = M.q "yes" then some (M.Cond.word true, r) else if w = M.q "no" then some (M.Cond.word false, r)
          else if w = M.q "not" ∨ w = M.q "all" ∨ w = M.q "any" then
            (match M.takes (M.q "(") r with
            | none => none
            | some r1 => (match M.sev (M.cond (n - 3)) (M.q ")") (M.q ", ") (r1.length + 1) [] r1 with
              | none => none
              | some (cs, r2) => if w = M.q "not" then (match cs with
                  | [c] => some (M.Cond.neg c, r2)
                  | _ => none) else some (M.Cond.many (decide (w = M.q "all")) cs, r2)))
          else none)) = some (c, r') → ∀ v H', Kp p H H' → LamX.Tabs (TK K) H' → RdR K H' p s r' → CAt H' c v → Q v H' := fun c r' z => hQ c r' (by rw [M.cond, dif_neg hn]; exact z)
  obtain ⟨i0, ⟨dx, hp⟩, _⟩ := id hR
  refine ⟨_, rfl, p, dx, _, rfl, hp, rfl, p, s, r, M.q "?", congrArg (fun z => [V.ref p, z]) (sq "?"), hR, hs, by decide, fun h1 => ⟨_, rfl, iteF ?_⟩, fun r1 h1 H1 e1 hR1 => ⟨_, rfl, iteT ?_⟩⟩
  · -- a word
    simp only [h1] at hF hQ
    refine ⟨_, rfl, p, dx, _, rfl, hp, rfl, p, s, r, rfl, hR, hs, fun h2 H2 e2 => ?_, fun x r2 h2 H2 e2 hR2 => ?_⟩
    · simp only [h2] at hF
      exact hF trivial _ (kpB e2) (tabB hT e2 hR)
    · have hx := (M.word_some h2).2.1
      have hr2 := (M.word_some h2).1
      simp only [h2] at hF hQ
      have hT2 := tabB hT e2 hR
      refine ⟨_, rfl, by decide, fun t ht => in_words ["yes", "no"] upd_same ⟨_, rfl, ?_⟩⟩
      simp only [List.any_cons, List.any_nil, Bool.or_false]
      have k3 : Kp p H (upd H2 t (.tup [V.str "yes", V.str "no"])) := (kpB e2).new ht
      have s3 : Same H2 (upd H2 t (.tup [V.str "yes", V.str "no"])) := same_new ht
      generalize upd H2 t (.tup [V.str "yes", V.str "no"]) = H3 at k3 s3 ⊢
      have hT3 := hT2.ext s3
      have hR3 : RdR K H3 p s r2 := hR2.keep fun o h _ => s3 _ _ h
      by_cases hy : x = M.q "yes"
      · rw [decide_eq_true hy, Bool.true_or]
        simp only [if_pos hy] at hQ
        refine iteT ⟨_, rfl, by show 1 ≤ sizeLine; decide, fun t2 ht2 => ?_⟩
        refine hQ _ _ rfl _ _ (k3.new ht2) (hT3.ext (same_new ht2)) (hR3.keep fun o h _ => same_new ht2 _ _ h) ?_
        unfold CAt
        exact ⟨t2, rfl, by rw [upd_same, hy]; rfl⟩
      by_cases hno : x = M.q "no"
      · rw [decide_eq_false hy, decide_eq_true hno, Bool.false_or]
        simp only [if_neg hy, if_pos hno] at hQ
        refine iteT ⟨_, rfl, by show 1 ≤ sizeLine; decide, fun t2 ht2 => ?_⟩
        refine hQ _ _ rfl _ _ (k3.new ht2) (hT3.ext (same_new ht2)) (hR3.keep fun o h _ => same_new ht2 _ _ h) ?_
        unfold CAt
        exact ⟨t2, rfl, by rw [upd_same, hno]; rfl⟩
      rw [decide_eq_false hy, decide_eq_false hno, Bool.false_or]
      simp only [if_neg hy, if_neg hno] at hF hQ
      refine iteF ⟨_, rfl, by show 3 ≤ sizeLine; decide, fun t2 ht2 => in_words ["not", "all", "any"] upd_same ?_⟩
      simp only [List.any_cons, List.any_nil, Bool.or_false]
      have k4 : Kp p H (upd H3 t2 (.tup [V.str "not", V.str "all", V.str "any"])) := k3.new ht2
      have s4 : Same H3 (upd H3 t2 (.tup [V.str "not", V.str "all", V.str "any"])) := same_new ht2
      generalize upd H3 t2 (.tup [V.str "not", V.str "all", V.str "any"]) = H4 at k4 s4 ⊢
      have hT4 := hT3.ext s4
      have hR4 : RdR K H4 p s r2 := hR3.keep fun o h _ => s4 _ _ h
      refine ⟨_, rfl, fun h3 => ?_, fun h3 => ?_⟩
      · have h3 : x = M.q "not" ∨ x = M.q "all" ∨ x = M.q "any" := by simpa using h3
        simp only [if_pos h3] at hF hQ
        obtain ⟨i4, ⟨dx4, hp4⟩, _⟩ := id hR4
        refine ⟨_, rfl, p, dx4, _, rfl, hp4, rfl, p, s, r2, M.q "(", congrArg (fun z => [V.ref p, z]) (sq "("), hR4, hs, by decide, fun h5 => ?_, fun r5 h5 H5 e5 hR5 => ?_⟩
        · simp only [h5] at hF
          exact hF trivial _ k4 hT4
        · simp only [h5] at hF hQ
          have k5 := k4.trans (kpB e5)
          have hT5 := tabB hT4 e5 hR4
          obtain ⟨i5, ⟨dx5, hp5⟩, _⟩ := id hR5
          have om5 : M.om r5 + 3 ≤ M.om r := by
            rw [hr2, M.takes_some.mp h5, M.om_app, M.om_app, show M.om (M.q "(") = 3 from by decide]
            omega
          refine ⟨_, rfl, p, dx5, _, rfl, hp5, rfl, hT5, fun H6 e6 hT6 => ?_⟩
          have k56 : Kp p H5 H6 := kpN hp5 e6
          have k6 := k5.trans k56
          have hR6 : RdR K H6 p s r5 := hR5.keep fun o h n => e6 _ _ h n
          refine ⟨p, s, r5, M.q ")", M.q ", ", by rw [sq ")", sq ", "], hR6, hs, hR6.len, by decide, by decide, hT6, fun E' H' Q' r' hR' k' hT' ⟨a, ha⟩ hno' hyes' => ?_, fun h7 H7 k7 hT7 => ?_, fun cs r7 h7 u us H7 k7 hT7 hR7 hu hA hul => ?_⟩
          · obtain ⟨i7, ⟨dx7, hp7⟩, _⟩ := id hR'
            refine ⟨_, rfl, p, dx7, _, rfl, hp7, rfl, p, s, r', rfl, hR', hs, ?_, hT', hno', fun c r'' hc v H'' z1 z2 z3 z4 => hyes' c r'' hc v H'' z1 z2 z3 z4⟩
            have : M.om r' ≤ M.om r5 := by
              rw [ha, M.om_app]
              omega
            omega
          · simp only [h7] at hF
            exact hF trivial _ (k6.trans k7) hT7
          · simp only [h7] at hF hQ
            have k7' := k6.trans k7
            refine ⟨_, rfl, rfl, ?_⟩
            rw [sq "not", dec_S]
            refine ⟨_, rfl, ?_⟩
            by_cases hx1 : x = M.q "not"
            · rw [decide_eq_true (show x = M.q "not" from hx1)]
              simp only [if_pos hx1] at hF hQ
              refine iteF ⟨_, rfl, u, _, rfl, .inr (sqt hu), rfl, ?_⟩
              have hlen := hA.length
              refine ⟨_, rfl, fun h8 => ?_, fun h8 => ?_⟩
              · have h8 : (us.length : Int) = 1 := by
                  have := of_decide_eq_true h8
                  injection this
                obtain ⟨c, rfl⟩ : ∃ c, cs = [c] := List.length_eq_one_iff.mp (by omega)
                obtain ⟨v1, rfl⟩ : ∃ v, us = [v] := List.length_eq_one_iff.mp (by omega)
                refine ⟨_, rfl, rfl, ?_⟩
                rw [dec_S, decide_eq_true (show x = M.q "not" from hx1)]
                refine ⟨_, rfl, iteT ⟨_, rfl, u, _, _, v1, rfl, rfl, sqt hu, (show atI [v1] ((0 : Nat) : Int) = some v1 from atI_nat rfl), by show 2 ≤ sizeLine; decide, fun t ht => ?_⟩⟩
                refine hQ _ _ rfl _ _ (k7'.new ht) (hT7.ext (same_new ht)) (hR7.keep fun o h _ => same_new ht _ _ h) ?_
                unfold CAt
                exact ⟨t, v1, rfl, upd_same, hA.1.keep (.of (same_new ht))⟩
              · have h8 : cs.length ≠ 1 := fun z => by
                  rw [decide_eq_true (show V.int (us.length : Nat) = V.int 1 by rw [hlen, z] <;> rfl)] at h8
                  cases h8
                refine hF ?_ _ k7' hT7
                match cs, h8 with
                | [], _ => rfl
                | [c], z => exact absurd rfl z
                | _ :: _ :: _, _ => rfl
            · rw [decide_eq_false (show ¬ x = M.q "not" from hx1)]
              simp only [if_neg hx1] at hF hQ
              refine iteT ⟨_, rfl, fun _ => ?_, nofun⟩
              refine ⟨_, rfl, rfl, ?_⟩
              rw [dec_S, decide_eq_false (show ¬ x = M.q "not" from hx1)]
              refine ⟨_, rfl, iteF ⟨_, rfl, _, rfl, by show 2 ≤ sizeLine; decide, fun t ht => ?_⟩⟩
              refine hQ _ _ rfl _ _ (k7'.new ht) (hT7.ext (same_new ht)) (hR7.keep fun o h _ => same_new ht _ _ h) ?_
              unfold CAt
              have e9 : x = M.nq (decide (x = M.q "all")) := by
                rcases h3 with z | z | z
                · exact absurd z hx1
                · rw [z]
                  rfl
                · rw [z]
                  rfl
              refine ⟨t, u, us, rfl, by rw [upd_same, ← e9], same_new ht _ _ hu, CAtL.keep (.of (same_new ht)) _ _ (cAtL_iff.mpr hA)⟩
      · have h3 : ¬ (x = M.q "not" ∨ x = M.q "all" ∨ x = M.q "any") := by simpa using h3
        simp only [if_neg h3] at hF
        exact hF trivial _ k4 hT4
  · -- an asked one
    simp only [h1] at hF hQ
    obtain ⟨i1, ⟨dx1, hp1⟩, _⟩ := id hR1
    have hT1 := tabB hT e1 hR
    refine ⟨_, rfl, p, dx1, _, rfl, hp1, rfl, p, s, r1, rfl, hR1, hs, fun h2 H2 e2 => ?_, fun x r2 h2 H2 e2 hR2 => ⟨by show 2 ≤ sizeLine; decide, fun t ht => ?_⟩⟩
    · simp only [h2] at hF
      exact hF trivial _ (kpB (e1.trans e2)) (tabB hT1 e2 hR1)
    · simp only [h2] at hQ
      refine hQ _ _ rfl _ _ ((kpB (e1.trans e2)).new ht) ((tabB hT1 e2 hR1).ext (same_new ht)) (hR2.keep fun o h _ => same_new ht _ _ h) ?_
      unfold CAt
      exact ⟨t, rfl, by rw [upd_same, sq]⟩
end
end K92
end

section
set_option Elab.async false
set_option linter.all false
set_option maxRecDepth 100000
set_option maxHeartbeats 4000000
/-! k92: the shown texts. -/
namespace K92
open PySem PySem.Spec PyProof.Rows L2 He HL
theorem sasg_cont {te : TE} {g : TG} {b : TS} {D : Ends} {σ : L2.St} {H : Hp} (R : VK) (h : ∀ Q' : VK, (∀ v H', R v H' → Q' v H') → te σ H Q') (hQ : ∀ v H', R v H' → g v σ H' (b D)) : tSeq (tAsg te g) b D σ H := h _ hQ
/-! ### what stands in the heap, read -/
theorem at0 {x : V} {l : List V} : atI (x :: l) ((0 : Nat) : Int) = some x := atI_nat rfl
theorem at1 {x y : V} {l : List V} : atI (x :: y :: l) ((1 : Nat) : Int) = some y := atI_nat rfl
theorem at2 {x y z : V} {l : List V} : atI (x :: y :: z :: l) ((2 : Nat) : Int) = some z := atI_nat rfl
theorem at3 {x y z u : V} {l : List V} : atI (x :: y :: z :: u :: l) ((3 : Nat) : Int) = some u := atI_nat rfl
theorem yq_in (b : Bool) : (["yes", "no"].any fun s => decide (M.yq b = M.q s)) = true := by cases b <;> decide
theorem len_j {b : List Nat} {ys : List (List Nat)} {y : List Nat} (h : y ∈ ys) : y.length ≤ (TL.joinL b ys).length := by
  induction ys with
  | nil => simp at h
  | cons x r ih =>
    cases r with
    | nil =>
      have : y = x := by simpa using h
      rw [this]
      simp [TL.joinL]
    | cons z r =>
      have e : TL.joinL b (x :: z :: r) = x ++ (b ++ TL.joinL b (z :: r)) := rfl
      rw [e, List.length_append, List.length_append]
      rcases List.mem_cons.mp h with rfl | h
      · omega
      · have := ih h
        omega
theorem om_j {b : List Nat} {ys : List (List Nat)} {y : List Nat} (h : y ∈ ys) : M.om y ≤ M.om (TL.joinL b ys) := by
  induction ys with
  | nil => simp at h
  | cons x r ih =>
    cases r with
    | nil =>
      have : y = x := by simpa using h
      rw [this]
      simp [TL.joinL]
    | cons z r =>
      have e : TL.joinL b (x :: z :: r) = x ++ (b ++ TL.joinL b (z :: r)) := rfl
      rw [e, M.om_app, M.om_app]
      rcases List.mem_cons.mp h with rfl | h
      · omega
      · have := ih h
        omega
section
variable {w : World} {K : PySem.W.Frag} {mg : Str → Option Value} {base : Heap}
abbrev n_show_condition : List Str := ["condition", "word", "some", "one"]
theorem sc_show_condition : FnScope n_show_condition ["condition"] (defScope s_show_condition) := ⟨rfl, rfl, rfl, by decide +kernel, rfl, by decide +kernel, by decide +kernel⟩
theorem bi_show_condition : ∀ (kV doc pm : Value) (an : Option Addr) (cdv ct : Value) (us : List Value), us.length = 1 → bindArgs (PySem.W.fnOf d_show_condition.name d_show_condition.qual d_show_condition.params d_show_condition.body d_show_condition.scope .none kV doc pm an cdv ct) ⟨us, []⟩ = pure ([("condition" : Str)].zip us) := fun kV doc pm an cdv ct us hu => by
  match us, hu with
  | [u0], _ => rfl
def spShowC (n : Nat) : Sp := fun vs H Q _ => ∃ v c, vs = [v] ∧ CAt H c v ∧ M.om c.sh < n ∧ c.sh.length ≤ 1000000 ∧ ∀ H', Same H H' → Q (.str (S c.sh)) H'
theorem o_show_cond (W : Wl K mg) : ∀ (n L : Nat), (n = 0 → 1 ≤ L) → (0 < n → n + 1 ≤ L) → OkD w K mg base CX0 L d_show_condition ["condition"] (spShowC n) := by
  intro n
  induction n with
  | zero =>
    intro L h0 h1
    obtain ⟨k, rfl⟩ : ∃ k, L = k + 1 := ⟨L - 1, by have := h0 rfl; omega⟩
    exact o_vac W.D_show_condition sc_show_condition bi_show_condition fun vs H Q E ⟨v, c, _, _, z, _⟩ => by omega
  | succ n ih =>
  intro L h0 h1
  obtain ⟨k, rfl⟩ : ∃ k, L = k + 1 := ⟨L - 1, by have := h1 (by omega); omega⟩
  have hk : n + 1 ≤ k := by have := h1 (by omega); omega
  have O_show_condition := ih k (fun _ => by omega) (fun _ => by omega)
  refine HL.ok_of0 W.D_show_condition sc_show_condition (fun vs H Q E ⟨_, _, h, _⟩ => by rw [h]; rfl) bi_show_condition fun cdv A outer s H vs Q E hr h => ?_
  have nd := sc_show_condition.nd
  refine ⟨_, (pss_cons (ps_set (i := 1) nd rfl (Or.inl rfl) (pe_ix ix_tup (pv 0) pe_int (fun _ _ => rfl)))
    (pss_cons (ps_if (pt_cmpR op_in_seq (pv 1) (pe_tup (pa_cons pe_str (pa_cons pe_str pa_nil))) (by rfl)) (pss_one (ps_ret (pv 1))) pss_nil)
    (pss_cons (ps_if (pt_cmpR op_eq (pv 1) pe_str (nomark _)) (pss_one (ps_ret (pe_op op_add_str pe_str (pe_ix ix_tup (pv 0) pe_int (fun _ _ => rfl))))) pss_nil)
    (pss_cons (ps_set (i := 2) nd rfl (Or.inl rfl) (pe_ifExp (pt_cmpR op_eq (pv 1) pe_str (nomark _)) (pe_lst (pa_cons (pe_ix ix_tup (pv 0) pe_int (fun _ _ => rfl)) pa_nil)) (pe_callTy call_list_of (by rfl) W.f_list (by decide +kernel) (pa_cons (pe_ix ix_tup (pv 0) pe_int (fun _ _ => rfl)) pa_nil))))
    (pss_one (ps_ret (pe_op op_add_str (pe_op op_add_str (pe_op op_add_str (pv 1) pe_str) (pe_join pe_str (pe_lc (own := [("one", 3)]) (g := gName 3) (tt := tYes) (by rfl) nd (pi_list (pv 2)) (blkOk_by (own := [("one", 3)]) (N := n_show_condition) (sc := defScope s_show_condition) (by decide +kernel)) (fun _ _ _ _ _ => pg_name (i := 3) nd rfl (Or.inl rfl)) (fun _ _ _ _ _ => pts_nil) (fun _ _ _ _ _ => (pe_cal O_show_condition (hr.mono (by omega)) W.g_show_condition pass0 (pa_cons (pv 3) pa_nil)))))) pe_str))))))), ?_⟩
  obtain ⟨v, c, rfl, hc, hom, hlen, hq⟩ := h
  have step : (∃ b, c = .word b) ∨ (∃ x, c = .ask x) ∨ ∃ a w0 x, v = .ref a ∧ H a = some (.tup [.str (S w0), x]) ∧ (["yes", "no"].any fun s => decide (w0 = M.q s)) = false ∧ w0 ≠ M.q "ask" ∧
      ((w0 = M.q "not" ∧ ∃ c1, CAt H c1 x ∧ c.sh = w0 ++ (M.q "(" ++ (TL.joinL (M.q ", ") (M.shC [c1]) ++ M.q ")"))) ∨ (w0 ≠ M.q "not" ∧ ∃ t us cs, x = .ref t ∧ H t = some (.tup us) ∧ All2 (fun v c => CAt H c v) us cs ∧ c.sh = w0 ++ (M.q "(" ++ (TL.joinL (M.q ", ") (M.shC cs) ++ M.q ")")))) := by
    cases c with
    | word b => exact .inl ⟨b, rfl⟩
    | ask x => exact .inr (.inl ⟨x, rfl⟩)
    | neg c1 =>
      unfold CAt at hc
      obtain ⟨a, u, rfl, ha, hu⟩ := hc
      exact .inr (.inr ⟨a, _, u, rfl, ha, by decide, by decide, .inl ⟨rfl, c1, hu, rfl⟩⟩)
    | many b cs =>
      unfold CAt at hc
      obtain ⟨a, t, us, rfl, ha, ht, hu⟩ := hc
      exact .inr (.inr ⟨a, _, _, rfl, ha, by cases b <;> decide, by cases b <;> decide, .inr ⟨by cases b <;> decide, t, us, cs, rfl, ht, cAtL_iff.mp hu, rfl⟩⟩)
  rcases step with ⟨b, rfl⟩ | ⟨x, rfl⟩ | ⟨a, w0, x, rfl, ha, hyn, hask, hx⟩
  · unfold CAt at hc
    obtain ⟨a, rfl, ha⟩ := hc
    refine ⟨_, rfl, a, _, _, _, rfl, rfl, sqt ha, at0, _, rfl, by show 2 ≤ sizeLine; decide, fun t ht => in_words ["yes", "no"] upd_same ⟨_, rfl, ?_⟩⟩
    rw [yq_in]
    exact iteT ⟨_, rfl, hq _ (same_new ht)⟩
  · unfold CAt at hc
    obtain ⟨a, rfl, ha⟩ := hc
    refine ⟨_, rfl, a, _, _, _, rfl, rfl, sqt ha, at0, _, rfl, by show 2 ≤ sizeLine; decide, fun t ht => in_words ["yes", "no"] upd_same ⟨_, rfl, ?_⟩⟩
    have ha1 := same_new (o := .tup [V.str "yes", V.str "no"]) ht _ _ ha
    rw [show (["yes", "no"].any fun s => decide (M.q "ask" = M.q s)) = false by decide]
    refine iteF ⟨_, rfl, rfl, ?_⟩
    rw [sq "ask", dec_S, decide_eq_true (show M.q "ask" = M.q "ask" from rfl)]
    refine ⟨_, rfl, iteT ⟨_, rfl, a, _, _, _, rfl, rfl, sqt ha1, at1, _, _, rfl, rfl, ?_, ?_⟩⟩
    · rw [ofq, S_len, S_len]
      refine small ?_
      simp only [M.Cond.sh, List.length_append] at hlen
      exact hlen
    · rw [cat_q]
      exact hq _ (same_new ht)
  · refine ⟨_, rfl, a, _, _, _, rfl, rfl, sqt ha, at0, _, rfl, by show 2 ≤ sizeLine; decide, fun t ht => in_words ["yes", "no"] upd_same ⟨_, rfl, ?_⟩⟩
    have s1 : Same H (upd H t (.tup [V.str "yes", V.str "no"])) := same_new ht
    generalize upd H t (.tup [V.str "yes", V.str "no"]) = H1 at s1 ⊢
    have ha1 := s1 _ _ ha
    rw [hyn]
    refine iteF ⟨_, rfl, rfl, ?_⟩
    rw [sq "ask", dec_S, decide_eq_false hask]
    refine ⟨_, rfl, iteF ?_⟩
    delta tNext
    dsimp only
    refine sasg_cont (R := fun v1 H2 => ∃ l us cs, v1 = .ref l ∧ Same H1 H2 ∧ H2 l = some (.lst us) ∧ All2 (fun v c => CAt H2 c v) us cs ∧ c.sh = w0 ++ (M.q "(" ++ (TL.joinL (M.q ", ") (M.shC cs) ++ M.q ")"))) ?_ ?_
    · intro Q' hQ'
      refine ⟨_, rfl, rfl, ?_⟩
      rw [sq "not", dec_S]
      refine ⟨_, rfl, ?_⟩
      rcases hx with ⟨hw, c1, hc1, hsh⟩ | ⟨hw, t1, us, cs, rfl, ht1, hA, hsh⟩
      · rw [decide_eq_true hw]
        refine iteT ⟨_, rfl, a, _, _, _, rfl, rfl, sqt ha1, at1, by show 1 ≤ sizeLine; decide, fun l hl => hQ' _ _ ⟨l, [x], [c1], rfl, same_new hl, upd_same, ⟨(hc1.keep (.of s1)).keep (.of (same_new hl)), trivial⟩, hsh⟩⟩
      · rw [decide_eq_false hw]
        refine iteF ⟨_, rfl, a, _, _, _, rfl, rfl, sqt ha1, at1, t1, us, rfl, .inr (sqt (s1 _ _ ht1)), fun l hl => hQ' _ _ ⟨l, us, cs, rfl, same_new hl, upd_same, hA.imp fun v c z => (z.keep (.of s1)).keep (.of (same_new hl)), hsh⟩⟩
    · rintro v1 H2 ⟨l, us, cs, rfl, s2, hl, hA, hsh⟩
      have hsz : w0.length + (1 + ((TL.joinL (M.q ", ") (M.shC cs)).length + 1)) ≤ 1000000 := by
        rw [hsh] at hlen
        simpa [show (M.q "(").length = 1 from by decide, show (M.q ")").length = 1 from by decide] using hlen
      have hL := hA.length
      have hus : us.length ≤ 1000000 := by
        have := joinL_len (M.q ", ") (M.shC cs)
        rw [M.shC_map, List.length_map, show (M.q ", ").length = 2 from by decide, ← M.shC_map] at this
        omega
      refine ⟨_, rfl, _, _, rfl, rfl, ?_, ⟨_, rfl⟩, _, rfl, l, rfl, ⟨us, sql hl⟩, fun D hD => ?_⟩
      · rw [ofq, S_len, S_len]
        refine small ?_
        show w0.length + 1 ≤ _
        omega
      · refine HL.lcL (xs := us) (out := (M.shC cs).map fun y => V.str (S y)) hD (sql hl) (by rw [M.shC_map, List.length_map, List.length_map, hL]) (small hus) (fun k1 x1 y H3 Q3 hx1 hy e3 _ hq3 => ?_) fun H3 e3 hD3 => ?_
        · obtain ⟨c1, hc1, hAt1⟩ := hA.get hx1
          have hmem : c1 ∈ cs := List.mem_of_getElem? hc1
          have hsm : c1.sh ∈ M.shC cs := by
            rw [M.shC_map]
            exact List.mem_map.mpr ⟨c1, hmem, rfl⟩
          have hy : y = V.str (S c1.sh) := by
            rw [M.shC_map, List.getElem?_map, List.getElem?_map, hc1] at hy
            exact (Option.some.inj hy).symm
          subst hy
          refine ⟨_, rfl, x1, c1, rfl, hAt1.keep (.of e3), ?_, ?_, hq3⟩
          · have h5 := om_j (b := M.q ", ") hsm
            have h6 : M.om (TL.joinL (M.q ", ") (M.shC cs)) + 3 ≤ M.om c.sh := by
              rw [hsh, M.om_app, M.om_app, M.om_app, show M.om (M.q "(") = 3 from by decide]
              omega
            omega
          · have h5 := len_j (b := M.q ", ") hsm
            omega
        · have hj : Txt.join (Str.ofString ", ") ((M.shC cs).map S) = S (TL.joinL (M.q ", ") (M.shC cs)) := by
            rw [ofq]
            exact SX.join_S _ _
          refine ⟨_, D, (M.shC cs).map S, rfl, rfl, .inl (sql (by rw [hD3, List.map_map] <;> rfl)), ?_, ?_⟩
          · have h5 := joinL_len (M.q ", ") (M.shC cs)
            have h6 : (Str.ofString ", ").length = 2 := by rw [ofq, S_len]; rfl
            have h7 : (M.q ", ").length = 2 := by decide
            rw [List.map_map, List.length_map, h6, show (((fun x : Str => x.length) ∘ S) : List Nat → Nat) = fun x => x.length from funext fun x => S_len x]
            rw [h7] at h5
            omega
          · rw [hj]
            refine ⟨_, _, rfl, rfl, ?_, ?_⟩
            · rw [ofq, S_cat, S_len, S_len]
              refine small ?_
              rw [List.length_append]
              show w0.length + 1 + _ ≤ _
              omega
            · refine ⟨_, _, rfl, rfl, ?_, ?_⟩
              · rw [ofq, ofq, S_cat, S_cat, S_len, S_len]
                refine small ?_
                rw [List.length_append, List.length_append]
                show w0.length + 1 + _ + 1 ≤ _
                omega
              · rw [ofq, ofq, S_cat, S_cat, S_cat]
                have := hq H3 ((s1.trans s2).trans e3)
                rw [hsh] at this
                simpa [M.q, List.append_assoc] using this
end
end K92
end

section
set_option Elab.async false
set_option linter.all false
set_option maxRecDepth 100000
set_option maxHeartbeats 4000000
set_option exponentiation.threshold 3000
/-! k92: words. -/
namespace K92
open PySem PySem.Spec PyProof.Rows L2 He HL
theorem iteE {b : Bool} {A B : Prop} (v : Bool) (h : b = v) (h2 : if v = true then A else B) : if b = true then A else B := by
  rw [h]
  exact h2
theorem num_log {k : Nat} (h : k < 1000000000) : (k : Int).natAbs.log2 < 1920 := by
  show k.log2 < 1920
  by_cases h0 : k = 0
  · rw [h0]
    decide
  · rw [Nat.log2_lt h0]
    exact Nat.lt_of_lt_of_le h (Nat.le_trans (show 1000000000 ≤ 2 ^ 30 by decide) (Nat.pow_le_pow_right (by decide) (by decide)))
theorem num_str (k : Nat) : Str.ofString (toString ((k : Nat) : Int)) = S (TL.numL k) := SX.num_S k
theorem oq (s : String) : Str.ofString s = S (M.q s) := ofq s
theorem om_suf {a b s : List Nat} (h : s = a ++ b) : M.om b ≤ M.om s := by
  rw [h, M.om_app]
  omega
section
variable {K : PySem.W.Frag}
theorem ty_tup {H : Hp} {a : Addr} {xs : List V} (h : H a = some (.tup xs)) : TyX K H (.ref a) (.type "tuple") := tyx_tup (sqt h)
end
end K92
end

section
set_option Elab.async false
set_option linter.all false
set_option maxRecDepth 100000
set_option maxHeartbeats 4000000
/-! k92: the law's reader, its smallest defs. -/
namespace K92
open PySem PySem.Spec PyProof.Rows L2 He HL
/-- r stands in t from i on -/
def Ps (t : List Nat) (i : Nat) (r : List Nat) : Prop := i ≤ t.length ∧ t.drop i = r
theorem Ps.takes {t w r r' : List Nat} {i : Nat} (h : Ps t i r) (z : M.takes w r = some r') : Ps t (i + w.length) r' := by
  obtain ⟨h1, h2⟩ := h
  have h3 := M.takes_some.mp z
  refine ⟨?_, drop_takes (h2 ▸ z)⟩
  have := congrArg List.length (h2.trans h3)
  rw [List.length_drop, List.length_append] at this
  omega
theorem Ps.drop {t r : List Nat} {i k : Nat} (h : Ps t i r) (hk : k ≤ r.length) : Ps t (i + k) (r.drop k) := by
  obtain ⟨h1, rfl⟩ := h
  rw [List.length_drop] at hk
  exact ⟨by omega, by rw [List.drop_drop]⟩
theorem Ps.all {t r : List Nat} {i : Nat} (h : Ps t i r) : (i = t.length ↔ r = []) := by
  obtain ⟨h1, rfl⟩ := h
  constructor
  · rintro rfl
    simp
  · intro z
    have := congrArg List.length z
    rw [List.length_drop] at this
    simp at this
    omega
theorem Ps.cut {t r : List Nat} {i k : Nat} (h : Ps t i r) : cutS (S t) (some (i : Int)) (some ((i + k : Nat) : Int)) = S (r.take k) := by
  rw [cut_ij, h.2, Nat.add_sub_cancel_left]
section
variable {w : World} {K : PySem.W.Frag} {mg : Str → Option Value} {base : Heap}
abbrev n_law_name_at : List Str := ["_law_text_here", "_law_at", "_law_end"]
theorem sc_law_name_at : FnScope n_law_name_at ["_law_text_here", "_law_at"] (defScope s_law_name_at) := ⟨rfl, rfl, rfl, by decide +kernel, rfl, by decide +kernel, by decide +kernel⟩
theorem bi_law_name_at : ∀ (kV doc pm : Value) (an : Option Addr) (cdv ct : Value) (us : List Value), us.length = 2 → bindArgs (PySem.W.fnOf d_law_name_at.name d_law_name_at.qual d_law_name_at.params d_law_name_at.body d_law_name_at.scope .none kV doc pm an cdv ct) ⟨us, []⟩ = pure ([("_law_text_here" : Str), ("_law_at" : Str)].zip us) := fun kV doc pm an cdv ct us hu => by
  match us, hu with
  | [u0, u1], _ => rfl
def spLName : Sp := fun vs H Q _ => ∃ t i r, vs = [.str (S t), .int (i : Nat)] ∧ Ps t i r ∧ t.length ≤ 1000000 ∧
  (M.word r = none → Q .non H) ∧ (∀ x r', M.word r = some (x, r') → ∀ u j H', Same H H' → Ps t j r' → H' u = some (.tup [.str (S x), .int (j : Nat)]) → Q (.ref u) H')
theorem o_lname (W : Wl K mg) : OkD w K mg base CX0 1 d_law_name_at ["_law_text_here", "_law_at"] spLName := by
  refine HL.ok_of0 W.D_law_name_at sc_law_name_at (fun vs H Q E ⟨_, _, _, h, _⟩ => by rw [h]; rfl) bi_law_name_at fun cdv A outer s H vs Q E hr h => ?_
  have nd := sc_law_name_at.nd
  refine ⟨_, (pss_cons (ps_set (i := 2) nd rfl (Or.inl rfl) (pv 1))
    (pss_cons (ps_while PassesOwn.never (PW.pt (pw_and (pt_cmpR op_lt (pv 2) (pe_callB call_len_str (by rfl) W.f_len (by decide +kernel) (pa_cons (pv 0) pa_nil)) (nomark _)) (pw_and1 (pt_cmpR op_in_sign (pe_ix ix_str (pv 0) (pv 2) (fun _ _ => rfl)) pe_str (by rfl))))) (pss_one (ps_aug (i := 2) nd rfl (.inl rfl) pe_int ip_add)))
    (pss_one (ps_ret (pe_ifExp (pt_chain op_lt op_lt pe_int (pe_op op_sub (pv 2) (pv 1)) pe_int) (pe_tup (pa_cons (pe_slice sl_str (pv 0) (po_some (pv 1)) (po_some (pv 2))) (pa_cons (pv 2) pa_nil))) pe_non))))), ?_⟩
  obtain ⟨t, i, r, rfl, hP, hs, hF, hQ⟩ := h
  have tl : (S t).length ≤ sizeLine := by rw [S_len]; exact small hs
  refine ⟨_, rfl, ?_⟩
  refine HL.while_zz (fun m σ H1 => ∃ e : Nat, m = t.length - e ∧ H1 = H ∧ σ = [some (.str (S t)), some (.int (i : Nat)), some (.int (e : Nat))] ∧ Sc M.isLet t i e)
    (fun σ H1 => ∃ e : Nat, H1 = H ∧ σ = [some (.str (S t)), some (.int (i : Nat)), some (.int (e : Nat))] ∧ Sc M.isLet t i e ∧ ∀ c, t[e]? = some c → M.isLet c = false) ⟨_, i, rfl, rfl, rfl, Sc.start _ t i⟩ ?_ ?_
  · rintro m σ H1 ⟨e, rfl, rfl, rfl, hsc⟩ R hT hF
    refine ⟨_, rfl, _, rfl, _, rfl, tl, _, _, rfl, rfl, _, rfl, ?_⟩
    refine ite2 (fun h1 => ?_) (fun h1 => ?_)
    · have h1 : e < t.length := by
        have := of_decide_eq_true h1
        rw [S_len] at this
        omega
      refine ⟨_, rfl, _, rfl, _, _, _, rfl, rfl, tl, atI_nat (List.getElem?_eq_getElem h1), _, _, rfl, rfl, _, rfl, ?_⟩
      rw [isLet_in]
      cases hc : M.isLet t[e] with
      | true =>
        refine hT _ fun N F hN hF => ?_
        refine ⟨_, rfl, _, _, rfl, rfl, ?_⟩
        exact hN (t.length - (e + 1)) _ _ (by omega) ⟨e + 1, rfl, rfl, rfl, hsc.next (List.getElem?_eq_getElem h1) hc⟩
      | false => exact hF _ ⟨e, rfl, rfl, hsc, fun c z => by
          rw [List.getElem?_eq_getElem h1] at z
          cases z
          exact hc⟩
    · have h1 : ¬ e < t.length := by
        intro z
        apply h1
        rw [S_len]
        exact decide_eq_true (by omega)
      exact hF _ ⟨e, rfl, rfl, hsc, fun c z => by
        rw [List.getElem?_eq_none (by omega)] at z
        cases z⟩
  · rintro σ H1 ⟨e, rfl, rfl, hsc, hst⟩
    obtain ⟨e1, e2⟩ := hsc.stop hst
    rw [hP.2] at e1 e2
    have hle : (r.takeWhile M.isLet).length ≤ r.length := (List.takeWhile_sublist _).length_le
    have hP2 : Ps t e (r.dropWhile M.isLet) := by
      rw [e2]
      refine ⟨?_, ?_⟩
      · have := congrArg List.length hP.2
        rw [List.length_drop] at this
        have := hP.1
        omega
      · rw [← hP.2, drop_tw]
    have e3 : ((e : Nat) : Int) - ((i : Nat) : Int) = (((r.takeWhile M.isLet).length : Nat) : Int) := by omega
    refine ⟨_, rfl, _, rfl, _, _, rfl, rfl, _, _, rfl, congrArg V.int e3, _, rfl, ite2 (fun h1 => ?_) (fun h1 => ?_)⟩
    · have h1 := of_decide_eq_true h1
      refine ⟨_, _, congrArg V.int e3, rfl, _, rfl, ite2 (fun h2 => ?_) (fun h2 => ?_)⟩
      · have h2 := of_decide_eq_true h2
        have hw : M.word r = some (r.takeWhile M.isLet, r.dropWhile M.isLet) := by
          unfold M.word
          rw [if_pos ⟨by omega, by omega⟩]
        refine ⟨_, rfl, _, rfl, _, rfl, _, rfl, _, rfl, _, rfl, tl, _, rfl, by show 2 ≤ sizeLine; decide, fun u hu => ?_⟩
        rw [cut_ij, hP.2, e1]
        exact hQ _ _ hw u e _ (same_new hu) hP2 upd_same
      · have hw : M.word r = none := by
          unfold M.word
          rw [if_neg (fun z => h2 (decide_eq_true (by omega)))]
        exact hF hw
    · have hw : M.word r = none := by
        unfold M.word
        rw [if_neg (fun z => h1 (decide_eq_true (by omega)))]
      exact ⟨false, rfl, iteF (hF hw)⟩
abbrev n_law_number_at : List Str := ["_law_text_here", "_law_at", "_law_end"]
theorem sc_law_number_at : FnScope n_law_number_at ["_law_text_here", "_law_at"] (defScope s_law_number_at) := ⟨rfl, rfl, rfl, by decide +kernel, rfl, by decide +kernel, by decide +kernel⟩
theorem bi_law_number_at : ∀ (kV doc pm : Value) (an : Option Addr) (cdv ct : Value) (us : List Value), us.length = 2 → bindArgs (PySem.W.fnOf d_law_number_at.name d_law_number_at.qual d_law_number_at.params d_law_number_at.body d_law_number_at.scope .none kV doc pm an cdv ct) ⟨us, []⟩ = pure ([("_law_text_here" : Str), ("_law_at" : Str)].zip us) := fun kV doc pm an cdv ct us hu => by
  match us, hu with
  | [u0, u1], _ => rfl
def spLNum : Sp := fun vs H Q _ => ∃ t i r, vs = [.str (S t), .int (i : Nat)] ∧ Ps t i r ∧ t.length ≤ 1000000 ∧
  (M.number r = none → Q .non H) ∧ (∀ x r', M.number r = some (x, r') → ∀ u j H', Same H H' → Ps t j r' → H' u = some (.tup [.int (x : Nat), .int (j : Nat)]) → Q (.ref u) H')
theorem o_lnum (W : Wl K mg) : OkD w K mg base CX0 1 d_law_number_at ["_law_text_here", "_law_at"] spLNum := by
  refine HL.ok_of0 W.D_law_number_at sc_law_number_at (fun vs H Q E ⟨_, _, _, h, _⟩ => by rw [h]; rfl) bi_law_number_at fun cdv A outer s H vs Q E hr h => ?_
  have nd := sc_law_number_at.nd
  refine ⟨_, (pss_cons (ps_set (i := 2) nd rfl (Or.inl rfl) (pv 1))
    (pss_cons (ps_while PassesOwn.never (PW.pt (pw_and (pt_cmpR op_lt (pv 2) (pe_callB call_len_str (by rfl) W.f_len (by decide +kernel) (pa_cons (pv 0) pa_nil)) (nomark _)) (pw_and1 (pt_cmpR op_in_sign (pe_ix ix_str (pv 0) (pv 2) (fun _ _ => rfl)) pe_str (by rfl))))) (pss_one (ps_aug (i := 2) nd rfl (.inl rfl) pe_int ip_add)))
    (pss_cons (ps_if (PW.pt (pw_or (pt_not (pt_chain op_lt op_lt pe_int (pe_op op_sub (pv 2) (pv 1)) pe_int)) (pw_or1 (PW.pt (pw_and (pt_cmpR op_eq (pe_ix ix_str (pv 0) (pv 1) (fun _ _ => rfl)) pe_str (nomark _)) (pw_and1 (pt_cmpR op_gt (pe_op op_sub (pv 2) (pv 1)) pe_int (nomark _)))))))) (pss_one (ps_ret pe_non)) pss_nil)
    (pss_one (ps_ret (pe_tup (pa_cons (pe_callTy call_int_str (by rfl) W.f_int (by decide +kernel) (pa_cons (pe_slice sl_str (pv 0) (po_some (pv 1)) (po_some (pv 2))) pa_nil)) (pa_cons (pv 2) pa_nil)))))))), ?_⟩
  obtain ⟨t, i, r, rfl, hP, hs, hF, hQ⟩ := h
  have tl : (S t).length ≤ sizeLine := by rw [S_len]; exact small hs
  refine ⟨_, rfl, ?_⟩
  refine HL.while_zz (fun m σ H1 => ∃ e : Nat, m = t.length - e ∧ H1 = H ∧ σ = [some (.str (S t)), some (.int (i : Nat)), some (.int (e : Nat))] ∧ Sc M.isDig t i e)
    (fun σ H1 => ∃ e : Nat, H1 = H ∧ σ = [some (.str (S t)), some (.int (i : Nat)), some (.int (e : Nat))] ∧ Sc M.isDig t i e ∧ ∀ c, t[e]? = some c → M.isDig c = false) ⟨_, i, rfl, rfl, rfl, Sc.start _ t i⟩ ?_ ?_
  · rintro m σ H1 ⟨e, rfl, rfl, rfl, hsc⟩ R hT hF
    refine ⟨_, rfl, _, rfl, _, rfl, tl, _, _, rfl, rfl, _, rfl, ?_⟩
    refine ite2 (fun h1 => ?_) (fun h1 => ?_)
    · have h1 : e < t.length := by
        have := of_decide_eq_true h1
        rw [S_len] at this
        omega
      refine ⟨_, rfl, _, rfl, _, _, _, rfl, rfl, tl, atI_nat (List.getElem?_eq_getElem h1), _, _, rfl, rfl, _, rfl, ?_⟩
      rw [isDig_in]
      cases hc : M.isDig t[e] with
      | true =>
        refine hT _ fun N F hN hF => ?_
        refine ⟨_, rfl, _, _, rfl, rfl, ?_⟩
        exact hN (t.length - (e + 1)) _ _ (by omega) ⟨e + 1, rfl, rfl, rfl, hsc.next (List.getElem?_eq_getElem h1) hc⟩
      | false => exact hF _ ⟨e, rfl, rfl, hsc, fun c z => by
          rw [List.getElem?_eq_getElem h1] at z
          cases z
          exact hc⟩
    · have h1 : ¬ e < t.length := by
        intro z
        apply h1
        rw [S_len]
        exact decide_eq_true (by omega)
      exact hF _ ⟨e, rfl, rfl, hsc, fun c z => by
        rw [List.getElem?_eq_none (by omega)] at z
        cases z⟩
  · rintro σ H1 ⟨e, rfl, rfl, hsc, hst⟩
    obtain ⟨e1, e2⟩ := hsc.stop hst
    rw [hP.2] at e1 e2
    have hle : (r.takeWhile M.isDig).length ≤ r.length := (List.takeWhile_sublist _).length_le
    have hP2 : Ps t e (r.dropWhile M.isDig) := by
      rw [e2]
      refine ⟨?_, ?_⟩
      · have := congrArg List.length hP.2
        rw [List.length_drop] at this
        have := hP.1
        omega
      · rw [← hP.2, drop_tw]
    have e3 : ((e : Nat) : Int) - ((i : Nat) : Int) = (((r.takeWhile M.isDig).length : Nat) : Int) := by omega
    have hnum : M.number r = if (0 < (r.takeWhile M.isDig).length ∧ (r.takeWhile M.isDig).length ≤ 9) ∧ (r.takeWhile M.isDig = M.q "0" ∨ (r.takeWhile M.isDig).head? ≠ some 48) then some (PySem.NumText.digitsVal (r.takeWhile M.isDig), r.dropWhile M.isDig) else none := rfl
    refine ⟨_, rfl, _, rfl, _, _, rfl, rfl, _, _, rfl, congrArg V.int e3, _, rfl, ite2 (fun h1 => ?_) (fun h1 => ?_)⟩
    · have h1 := of_decide_eq_true h1
      have h1 : 0 < (r.takeWhile M.isDig).length := by omega
      refine ⟨_, _, congrArg V.int e3, rfl, _, rfl, ?_⟩
      by_cases h2 : (r.takeWhile M.isDig).length ≤ 9
      · refine iteE false (by rw [decide_eq_true (show (((r.takeWhile M.isDig).length : Nat) : Int) < 10 by omega)] <;> rfl) (iteF ?_)
        obtain ⟨c, w', ew⟩ := List.exists_cons_of_ne_nil (show r.takeWhile M.isDig ≠ [] from fun z => by rw [z] at h1; simp at h1)
        have hit : i < t.length := by
          have := congrArg List.length hP.2
          rw [List.length_drop] at this
          omega
        have hc : t[i]? = some c := by
          have h7 : (t.drop i)[0]? = some c := by
            rw [hP.2]
            cases r with
            | nil => simp at ew
            | cons d r =>
              by_cases hd : M.isDig d = true
              · rw [List.takeWhile_cons_of_pos hd] at ew
                injection ew with ew _
                rw [ew]
                rfl
              · rw [List.takeWhile_cons_of_neg hd] at ew
                cases ew
          rw [List.getElem?_drop] at h7
          exact h7
        have good : ∀ (hh : r.takeWhile M.isDig = M.q "0" ∨ (r.takeWhile M.isDig).head? ≠ some 48) (u : Addr), H1 u = none → Q (.ref u) (upd H1 u (.tup [.int (PySem.NumText.digitsVal (r.takeWhile M.isDig) : Nat), .int (e : Nat)])) := fun hh u hu => hQ _ _ (by rw [hnum, if_pos ⟨⟨h1, h2⟩, hh⟩]) u e _ (same_new hu) hP2 upd_same
        have ret : (r.takeWhile M.isDig = M.q "0" ∨ (r.takeWhile M.isDig).head? ≠ some 48) → tRet (tTup (tCons (tCB (fun xs H Q => ∃ a n, xs = [V.str a] ∧ PySem.intText? a = some n ∧ a.length ≤ 640 ∧ Q (V.int n) H) (tCons (tSl rSlS (tVar 0) (tPart (tVar 1)) (tPart (tVar 2))) tNil)) (tCons (tVar 2) tNil)))
            { nx := fun _ H' => Q V.non H', rt := Q } [some (.str (S t)), some (.int (i : Nat)), some (.int (e : Nat))] H1 := fun hh => by
          refine ⟨_, rfl, _, rfl, _, rfl, _, rfl, _, rfl, _, rfl, tl, ?_⟩
          rw [cut_ij, hP.2, e1]
          refine ⟨_, _, rfl, SX.int_S (List.all_eq_true.mpr fun d hd => ?_) (by rw [ew]; simp) (by omega), by rw [S_len]; omega, _, rfl, by show 2 ≤ sizeLine; decide, good hh⟩
          have := (M.dig_iff d).mp (M.span_all _ d hd)
          simp [this]
        refine ⟨_, rfl, _, rfl, _, _, c, rfl, rfl, tl, atI_nat hc, rfl, ?_⟩
        rw [sq "0", show (⟨#[c]⟩ : Str) = S [c] from rfl, dec_S]
        refine ⟨_, rfl, ?_⟩
        by_cases hc0 : c = 48
        · rw [decide_eq_true (show [c] = M.q "0" by rw [hc0]; rfl)]
          refine iteT ⟨_, rfl, _, rfl, _, _, rfl, rfl, _, _, congrArg V.int e3, rfl, _, rfl, ite2 (fun h3 => ?_) (fun h3 => ?_)⟩
          · have h3 := of_decide_eq_true h3
            have h3 : (r.takeWhile M.isDig).length > 1 := by omega
            refine hF ?_
            rw [hnum, if_neg]
            rintro ⟨_, z | z⟩
            · rw [z] at h3
              revert h3
              decide
            · rw [ew, hc0] at z
              exact z rfl
          · have h3 : (r.takeWhile M.isDig).length = 1 := by
              have : ¬ ((r.takeWhile M.isDig).length : Int) > 1 := fun z => h3 (decide_eq_true z)
              omega
            refine ret (.inl ?_)
            rw [ew] at h3 ⊢
            have : w' = [] := List.length_eq_zero_iff.mp (by simpa using h3)
            rw [this, hc0]
            rfl
        · rw [decide_eq_false (show ¬ [c] = M.q "0" from fun z => hc0 (by injection (show [c] = [48] from z)))]
          exact iteF (ret (.inr (by rw [ew]; simpa using hc0)))
      · refine iteE true (by rw [decide_eq_false (show ¬ (((r.takeWhile M.isDig).length : Nat) : Int) < 10 by omega)] <;> rfl) (iteT ?_)
        exact hF (by rw [hnum, if_neg (fun z => h2 z.1.2)])
    · have hw : M.number r = none := by
        rw [hnum, if_neg (fun z => h1 (decide_eq_true (by have := z.1.1; omega)))]
      exact ⟨false, rfl, iteT (hF hw)⟩
end
end K92
end

section
set_option Elab.async false
set_option linter.all false
set_option maxRecDepth 100000
set_option maxHeartbeats 4000000
/-! k92: the law's reader of conditions. -/
namespace K92
open PySem PySem.Spec PyProof.Rows L2 He HL
theorem takes_if {w r : List Nat} : (r.take w.length = w ↔ ∃ r', M.takes w r = some r') := by
  unfold M.takes
  constructor
  · intro h
    exact ⟨_, if_pos h⟩
  · rintro ⟨r', h⟩
    split at h
    · assumption
    · cases h
theorem take_yes {w r r' : List Nat} {n : Nat} (hn : w.length = n) (h : M.takes w r = some r') : r.take n = w := by
  subst hn
  exact takes_if.mpr ⟨r', h⟩
theorem take_no {w r : List Nat} {n : Nat} (hn : w.length = n) (h : M.takes w r = none) : ¬ r.take n = w := by
  subst hn
  intro z
  obtain ⟨r', z⟩ := takes_if.mp z
  rw [h] at z
  cases z
theorem Ps.om {t r r' : List Nat} {i j : Nat} (h : Ps t i r) (h' : Ps t j r') (hij : i ≤ j) : M.om r' ≤ M.om r := by
  refine om_suf (a := r.take (j - i)) ?_
  rw [← h.2, ← h'.2]
  conv => rhs; rhs; rw [show j = i + (j - i) by omega, ← List.drop_drop]
  rw [List.take_append_drop]
theorem Ps.le {t r r' a : List Nat} {i j : Nat} (h : Ps t i r) (h' : Ps t j r') (e : r = a ++ r') : i ≤ j := by
  have h1 := congrArg List.length h.2
  have h2 := congrArg List.length h'.2
  have h3 := congrArg List.length e
  rw [List.length_drop] at h1 h2
  rw [List.length_append] at h3
  have := h.1
  have := h'.1
  omega
theorem ref_non {u : Addr} : decide (V.ref u = V.non) = false := decide_eq_false fun z => nomatch z
section
variable {w : World} {K : PySem.W.Frag} {mg : Str → Option Value} {base : Heap}
abbrev n_law_condition_at : List Str := ["_law_text_here", "_law_at", "_law_word", "_law_found", "_law_name"]
theorem sc_law_condition_at : FnScope n_law_condition_at ["_law_text_here", "_law_at"] (defScope s_law_condition_at) := ⟨rfl, rfl, rfl, by decide +kernel, rfl, by decide +kernel, by decide +kernel⟩
theorem bi_law_condition_at : ∀ (kV doc pm : Value) (an : Option Addr) (cdv ct : Value) (us : List Value), us.length = 2 → bindArgs (PySem.W.fnOf d_law_condition_at.name d_law_condition_at.qual d_law_condition_at.params d_law_condition_at.body d_law_condition_at.scope .none kV doc pm an cdv ct) ⟨us, []⟩ = pure ([("_law_text_here" : Str), ("_law_at" : Str)].zip us) := fun kV doc pm an cdv ct us hu => by
  match us, hu with
  | [u0, u1], _ => rfl
abbrev n_law_conditions_at : List Str := ["_law_text_here", "_law_at", "_law_some", "_law_turn", "_law_found"]
theorem sc_law_conditions_at : FnScope n_law_conditions_at ["_law_text_here", "_law_at"] (defScope s_law_conditions_at) := ⟨rfl, rfl, rfl, by decide +kernel, rfl, by decide +kernel, by decide +kernel⟩
theorem bi_law_conditions_at : ∀ (kV doc pm : Value) (an : Option Addr) (cdv ct : Value) (us : List Value), us.length = 2 → bindArgs (PySem.W.fnOf d_law_conditions_at.name d_law_conditions_at.qual d_law_conditions_at.params d_law_conditions_at.body d_law_conditions_at.scope .none kV doc pm an cdv ct) ⟨us, []⟩ = pure ([("_law_text_here" : Str), ("_law_at" : Str)].zip us) := fun kV doc pm an cdv ct us hu => by
  match us, hu with
  | [u0, u1], _ => rfl
def spLC (n : Nat) : Sp := fun vs H Q _ => ∃ t i r, vs = [.str (S t), .int (i : Nat)] ∧ Ps t i r ∧ t.length ≤ 1000000 ∧ M.om r < n ∧
  (M.lcond n t.length r = none → ∀ H', Same H H' → Q .non H') ∧ (∀ c r', M.lcond n t.length r = some (c, r') → ∀ u v j H', Same H H' → i ≤ j → Ps t j r' → H' u = some (.tup [v, .int (j : Nat)]) → CAt H' c v → Q (.ref u) H')
def spLCs (n : Nat) : Sp := fun vs H Q _ => ∃ t i r, vs = [.str (S t), .int (i : Nat)] ∧ Ps t i r ∧ t.length ≤ 1000000 ∧ M.om r < n ∧
  (M.lall (M.lcond n t.length) (M.q ")") (M.q ", ") t.length r = none → ∀ H', Same H H' → Q .non H') ∧
  (∀ cs r', M.lall (M.lcond n t.length) (M.q ")") (M.q ", ") t.length r = some (cs, r') → ∀ u l us j H', Same H H' → i ≤ j → Ps t j r' → H' u = some (.tup [.ref l, .int (j : Nat)]) → H' l = some (.lst us) → All2 (fun v c => CAt H' c v) us cs → us.length ≤ 1000000 → Q (.ref u) H')
theorem o_lconds (W : Wl K mg) (n k : Nat) (O__law_condition_at : OkD w K mg base CX0 k d_law_condition_at ["_law_text_here", "_law_at"] (spLC n)) : OkD w K mg base CX0 (k + 1) d_law_conditions_at ["_law_text_here", "_law_at"] (spLCs n) := by
  refine HL.ok_of0 W.D_law_conditions_at sc_law_conditions_at (fun vs H Q E ⟨_, _, _, h, _⟩ => by rw [h]; rfl) bi_law_conditions_at fun cdv A outer s H vs Q E hr h => ?_
  have nd := sc_law_conditions_at.nd
  refine ⟨_, (pss_cons (ps_set (i := 2) nd rfl (Or.inl rfl) (pe_lst pa_nil))
    (pss_cons (ps_if (pt_cmpR op_eq (pe_slice sl_str (pv 0) (po_some (pv 1)) (po_some (pe_op op_add (pv 1) pe_int))) pe_str (nomark _)) (pss_one (ps_ret (pe_tup (pa_cons (pv 2) (pa_cons (pe_op op_add (pv 1) pe_int) pa_nil))))) pss_nil)
    (pss_cons (ps_for PassesOwn.never rfl (pi_range1 (by rfl) W.f_range (pa_cons (pe_callB call_len_str (by rfl) W.f_len (by decide +kernel) (pa_cons (pv 0) pa_nil)) pa_nil)) (pg_name (i := 3) nd rfl (Or.inl rfl)) (pss_cons (ps_set (i := 4) nd rfl (Or.inl rfl) (pe_cal O__law_condition_at (hr.mono (by omega)) W.g__law_condition_at pass0 (pa_cons (pv 0) (pa_cons (pv 1) pa_nil))))
      (pss_cons (ps_if (pt_cmpR op_isN (pv 4) pe_non (nomark _)) (pss_one (ps_ret pe_non)) pss_nil)
      (pss_cons (ps_expr (pe_bm PySem.F.plainAttrs_list PySem.F.slot_list_append PySem.F.type_list_append mt_append (pv 2) (pa_cons (pe_ix ix_tup (pv 4) pe_int (fun _ _ => rfl)) pa_nil)))
      (pss_cons (ps_set (i := 1) nd rfl (Or.inl rfl) (pe_op op_add (pe_ix ix_tup (pv 4) pe_int (fun _ _ => rfl)) pe_int))
      (pss_cons (ps_if (pt_cmpR op_eq (pe_slice sl_str (pv 0) (po_some (pe_op op_sub (pv 1) pe_int)) (po_some (pe_op op_sub (pv 1) pe_int))) pe_str (nomark _)) (pss_one (ps_ret (pe_tup (pa_cons (pv 2) (pa_cons (pe_op op_sub (pv 1) pe_int) pa_nil))))) pss_nil)
      (pss_one (ps_if (pt_cmpR op_ne (pe_slice sl_str (pv 0) (po_some (pe_op op_sub (pv 1) pe_int)) (po_some (pv 1))) pe_str (nomark _)) (pss_one (ps_ret pe_non)) pss_nil))))))))
    (pss_one (ps_ret pe_non))))), ?_⟩
  obtain ⟨t, i, r, rfl, hP, hs, hom, hF, hQ⟩ := h
  have tl : (S t).length ≤ sizeLine := by rw [S_len]; exact small hs
  refine ⟨Nat.zero_le _, fun L hL => ?_⟩
  have sL : Same H (upd H L (.lst [])) := same_new hL
  refine ⟨_, rfl, _, rfl, _, rfl, _, rfl, _, _, rfl, rfl, _, rfl, _, rfl, tl, ?_⟩
  rw [show ((i : Nat) : Int) + 1 = ((i + 1 : Nat) : Int) from rfl, hP.cut, sq ")"]
  refine ⟨rfl, _, rfl, ?_⟩
  rw [dec_S]
  cases h1 : M.takes (M.q ")") r with
  | some r1 =>
    rw [decide_eq_true (take_yes (by decide) h1)]
    refine iteT ⟨_, rfl, _, rfl, _, _, rfl, rfl, by show 2 ≤ sizeLine; decide, fun u hu => ?_⟩
    refine hQ [] r1 (by unfold M.lall; rw [h1]) u L [] (i + 1) _ (sL.trans (same_new hu)) (by omega) (hP.takes h1) (by rw [upd_same] <;> rfl) (by rw [upd_ne (ne_of_none upd_same hu), upd_same]) trivial (by simp)
  | none =>
    rw [decide_eq_false (take_no (by decide) h1)]
    have hla : M.lall (M.lcond n t.length) (M.q ")") (M.q ", ") t.length r = M.lsev (M.lcond n t.length) (M.q ")") (M.q ", ") t.length [] r := by unfold M.lall; rw [h1]
    rw [hla] at hF hQ
    generalize hTG : M.lsev (M.lcond n t.length) (M.q ")") (M.q ", ") t.length [] r = TG at hF hQ
    have b62 : (((S t).length : Nat) : Int) < 2 ^ 62 := by
      rw [S_len]
      have : (t.length : Int) ≤ 1000000 := by omega
      exact Int.lt_of_le_of_lt this (by decide)
    have b0 : -(2 ^ 62) ≤ (((S t).length : Nat) : Int) := Int.le_trans (by decide) (Int.natCast_nonneg _)
    have em : (((S t).length : Nat) : Int).toNat = t.length := by rw [S_len]; rfl
    refine iteF ⟨_, rfl, _, rfl, tl, _, rfl, b0, b62, ?_⟩
    rw [em]
    refine for_range (lo := 0) (n := t.length) (fun k1 σ H1 => ∃ (acc : List M.Cond) (us : List V) (j : Nat) (r' : List Nat) (x3 x4 : Option V), σ = [some (.str (S t)), some (.int (j : Nat)), some (.ref L), x3, x4] ∧ Same H H1 ∧ H1 L = some (.lst us) ∧ All2 (fun v c => CAt H1 c v) us acc ∧
      Ps t j r' ∧ M.om r' < n ∧ us.length ≤ k1 ∧ M.lsev (M.lcond n t.length) (M.q ")") (M.q ", ") (t.length - k1) acc r' = TG ∧ i ≤ j)
      ⟨[], [], i, r, _, _, rfl, sL, upd_same, trivial, hP, hom, by simp, hTG, Nat.le_refl _⟩ ?_ ?_
    · rintro k1 σ H1 hk1 ⟨acc, us, j, r', x3, x4, rfl, e1, hl, hA, hP1, hom1, hus, hse, hij⟩
      obtain ⟨m', hm'⟩ : ∃ m', t.length - k1 = m' + 1 := ⟨t.length - k1 - 1, by omega⟩
      have hm2 : t.length - (k1 + 1) = m' := by omega
      rw [hm'] at hse
      unfold M.lsev at hse
      refine ⟨_, rfl, _, rfl, t, j, r', rfl, hP1, hs, hom1, fun h2 H2 e2 => ?_, fun c r2 h2 u v j2 H2 e2 hj2 hP2 hu hv => ?_⟩
      · simp only [h2] at hse
        exact ⟨_, rfl, rfl, _, rfl, iteE true rfl (iteT (hF hse.symm _ (e1.trans e2)))⟩
      · simp only [h2] at hse
        refine ⟨_, rfl, rfl, _, rfl, iteE false ref_non (iteF ?_)⟩
        have hl2 := e2 _ _ hl
        refine ⟨_, rfl, .inl ⟨rfl, _, sql hl2⟩, _, rfl, u, _, _, _, rfl, rfl, sqt hu, at0, L, us, v, rfl, rfl, hl2, Nat.lt_of_le_of_lt (show us.length ≤ 1000000 by omega) (by decide), ?_⟩
        have up : TupK H2 (upd H2 L (.lst (us ++ [v]))) := (TupK.refl H2).mut hl2 (fun xs q => nomatch q)
        have hu3 := up _ _ hu
        have e3 : Same H (upd H2 L (.lst (us ++ [v]))) := HL.Same.mut (e1.trans e2) hL
        have hl3 : upd H2 L (.lst (us ++ [v])) L = some (.lst (us ++ [v])) := upd_same
        have hA3' : All2 (fun v' c => CAt (upd H2 L (.lst (us ++ [v]))) c v') (us ++ [v]) (acc ++ [c]) := by
          have hA2 : All2 (fun v c => CAt H2 c v) (us ++ [v]) (acc ++ [c]) := All2.snoc (R := fun v c => CAt H2 c v) hv (hA.imp fun v c z => z.keep (.of e2))
          exact hA2.imp fun v' c' z => z.keep up
        generalize upd H2 L (.lst (us ++ [v])) = H3 at hu3 e3 hl3 hA3' ⊢
        refine ⟨_, rfl, u, _, _, _, rfl, rfl, sqt hu3, at1, _, _, rfl, rfl, ?_⟩
        have i1 : ((j2 : Nat) : Int) + 2 - 2 = ((j2 : Nat) : Int) := by omega
        have i2 : ((j2 : Nat) : Int) + 2 - 1 = ((j2 + 1 : Nat) : Int) := by omega
        have i3 : ((j2 : Nat) : Int) + 2 = ((j2 + 2 : Nat) : Int) := by omega
        refine ⟨_, rfl, _, rfl, _, _, rfl, rfl, _, congrArg V.int i1, _, rfl, _, _, rfl, rfl, _, congrArg V.int i2, _, rfl, tl, ?_⟩
        rw [hP2.cut]
        refine ⟨rfl, _, rfl, ?_⟩
        rw [dec_S]
        cases h4 : M.takes (M.q ")") r2 with
        | some r4 =>
          simp only [h4] at hse
          rw [decide_eq_true (take_yes (by decide) h4)]
          refine iteT ⟨_, rfl, _, rfl, _, _, rfl, rfl, by show 2 ≤ sizeLine; decide, fun u2 hu2 => ?_⟩
          have hn2 := ne_of_none hl3 hu2
          refine hQ (acc ++ [c]) r4 hse.symm u2 L (us ++ [v]) (j2 + 1) _ (e3.trans (same_new hu2)) (by omega) (hP2.takes h4) ?_ (by rw [upd_ne hn2]; exact hl3) (hA3'.imp fun v c z => z.keep (.of (same_new hu2))) (by rw [List.length_append]; simp; omega)
          rw [upd_same]
          show some (HO.tup [V.ref L, V.int _]) = _
          rw [i2]
        | none =>
          simp only [h4] at hse
          rw [decide_eq_false (take_no (by decide) h4)]
          refine iteF ⟨_, rfl, _, rfl, _, _, rfl, rfl, _, congrArg V.int i1, _, rfl, _, congrArg V.int i3, _, rfl, tl, ?_⟩
          rw [hP2.cut, sq ", "]
          refine ⟨rfl, _, rfl, ?_⟩
          rw [dec_S]
          cases h5 : M.takes (M.q ", ") r2 with
          | some r5 =>
            simp only [h5] at hse
            rw [decide_eq_true (take_yes (by decide) h5)]
            have o5 : M.om r5 ≤ M.om r' := by
              have z1 : M.om r5 ≤ M.om r2 := om_suf (M.takes_some.mp h5)
              have z2 : M.om r2 ≤ M.om r' := hP1.om hP2 hj2
              omega
            refine iteF ⟨acc ++ [c], us ++ [v], j2 + 2, r5, _, _, by rw [← i3] <;> rfl, e3, hl3, hA3', hP2.takes h5, by omega, by rw [List.length_append]; simp; omega, ?_⟩
            rw [hm2]
            exact ⟨hse, by omega⟩
          | none =>
            simp only [h5] at hse
            rw [decide_eq_false (take_no (by decide) h5)]
            exact iteT (hF hse.symm _ e3)
    · rintro σ H1 ⟨acc, us, j, r', x3, x4, rfl, e1, hl, hA, hP1, hom1, hus, hse, hij⟩
      rw [Nat.sub_self] at hse
      exact hF hse.symm _ e1
theorem o_lcond (W : Wl K mg) : ∀ (n L : Nat), (n = 0 → 1 ≤ L) → (0 < n → n + 3 ≤ L) → OkD w K mg base CX0 L d_law_condition_at ["_law_text_here", "_law_at"] (spLC n) := by
  intro n
  induction n using Nat.strongRecOn with
  | _ n ih =>
  intro L h0 h1
  by_cases hn : n = 0
  · obtain ⟨k, rfl⟩ : ∃ k, L = k + 1 := ⟨L - 1, by have := h0 hn; omega⟩
    exact o_vac W.D_law_condition_at sc_law_condition_at bi_law_condition_at fun vs H Q E ⟨t, i, r, _, _, _, z, _⟩ => by omega
  obtain ⟨k, rfl⟩ : ∃ k, L = k + 2 + 1 := ⟨L - 3, by have := h1 (by omega); omega⟩
  have hk : n ≤ k := by have := h1 (by omega); omega
  have O__law_conditions_at := o_lconds (w := w) (base := base) W (n - 3) (k + 1) (ih (n - 3) (by omega) (k + 1) (fun _ => by omega) (fun z => by omega))
  have O__law_name_at := o_lname (w := w) (base := base) W
  refine HL.ok_of0 W.D_law_condition_at sc_law_condition_at (fun vs H Q E ⟨_, _, _, h, _⟩ => by rw [h]; rfl) bi_law_condition_at fun cdv A outer s H vs Q E hr h => ?_
  have nd := sc_law_condition_at.nd
  refine ⟨_, (pss_cons (ps_set (i := 2) nd rfl (Or.inl rfl) (pe_slice sl_str (pv 0) (po_some (pv 1)) (po_some (pe_op op_add (pv 1) pe_int))))
    (pss_cons (ps_if (pt_cmpR op_in_seq (pv 2) (pe_tup (pa_cons pe_str (pa_cons pe_str (pa_cons pe_str pa_nil)))) (by rfl)) (pss_cons (ps_set (i := 3) nd rfl (Or.inl rfl) (pe_cal O__law_conditions_at (hr.mono (by omega)) W.g__law_conditions_at pass0 (pa_cons (pv 0) (pa_cons (pe_op op_add (pv 1) pe_int) pa_nil))))
      (pss_cons (ps_if (PW.pt (pw_or (pt_cmpR op_isN (pv 3) pe_non (nomark _)) (pw_or1 (PW.pt (pw_and (pt_cmpR op_eq (pv 2) pe_str (nomark _)) (pw_and1 (pt_cmpR op_ne (pe_callB call_len_seq (by rfl) W.f_len (by decide +kernel) (pa_cons (pe_ix ix_tup (pv 3) pe_int (fun _ _ => rfl)) pa_nil)) pe_int (nomark _)))))))) (pss_one (ps_ret pe_non)) pss_nil)
      (pss_one (ps_ret (pe_tup (pa_cons (pe_tup (pa_cons (pe_slice sl_str (pv 2) po_none (po_some pe_int)) (pa_cons (pe_ifExp (pt_cmpR op_eq (pv 2) pe_str (nomark _)) (pe_ix ix_list (pe_ix ix_tup (pv 3) pe_int (fun _ _ => rfl)) pe_int (fun _ _ => rfl)) (pe_callTy call_tuple_of (by rfl) W.f_tuple (by decide +kernel) (pa_cons (pe_ix ix_tup (pv 3) pe_int (fun _ _ => rfl)) pa_nil))) pa_nil))) (pa_cons (pe_ix ix_tup (pv 3) pe_int (fun _ _ => rfl)) pa_nil))))))) pss_nil)
    (pss_cons (ps_if (pt_cmpR op_eq (pe_slice sl_str (pv 2) po_none (po_some pe_int)) pe_str (nomark _)) (pss_cons (ps_set (i := 4) nd rfl (Or.inl rfl) (pe_cal O__law_name_at (hr.mono (by omega)) W.g__law_name_at pass0 (pa_cons (pv 0) (pa_cons (pe_op op_add (pv 1) pe_int) pa_nil))))
      (pss_one (ps_ret (pe_ifExp (pt_cmpR op_isN (pv 4) pe_non (nomark _)) pe_non (pe_tup (pa_cons (pe_tup (pa_cons pe_str (pa_cons (pe_ix ix_tup (pv 4) pe_int (fun _ _ => rfl)) pa_nil))) (pa_cons (pe_ix ix_tup (pv 4) pe_int (fun _ _ => rfl)) pa_nil))))))) pss_nil)
    (pss_cons (ps_if (pt_cmpR op_eq (pe_slice sl_str (pv 2) po_none (po_some pe_int)) pe_str (nomark _)) (pss_one (ps_ret (pe_tup (pa_cons (pe_tup (pa_cons pe_str pa_nil)) (pa_cons (pe_op op_add (pv 1) pe_int) pa_nil))))) pss_nil)
    (pss_one (ps_ret (pe_ifExp (pt_cmpR op_eq (pe_slice sl_str (pv 2) po_none (po_some pe_int)) pe_str (nomark _)) (pe_tup (pa_cons (pe_tup (pa_cons pe_str pa_nil)) (pa_cons (pe_op op_add (pv 1) pe_int) pa_nil))) pe_non))))))), ?_⟩
  obtain ⟨t, i, r, rfl, hP, hs, hom, hF, hQ⟩ := h
  rw [M.lcond, dif_neg hn] at hF
  have hQ := fun c r' => hQ c r'
  rw [M.lcond, dif_neg hn] at hQ
  have tl : (S t).length ≤ sizeLine := by rw [S_len]; exact small hs
  have wl : (S (r.take 4)).length ≤ sizeLine := by rw [S_len]; exact small (by rw [List.length_take]; omega)
  refine ⟨_, rfl, _, rfl, _, rfl, _, rfl, _, _, rfl, rfl, _, rfl, _, rfl, tl, ?_⟩
  rw [show ((i : Nat) : Int) + 4 = ((i + 4 : Nat) : Int) from rfl, hP.cut]
  refine ⟨_, rfl, by show 3 ≤ sizeLine; decide, fun t1 ht1 => in_words ["not(", "all(", "any("] upd_same ⟨_, rfl, ?_⟩⟩
  simp only [List.any_cons, List.any_nil, Bool.or_false]
  have s1 : Same H (upd H t1 (.tup [V.str "not(", V.str "all(", V.str "any("])) := same_new ht1
  generalize upd H t1 (.tup [V.str "not(", V.str "all(", V.str "any("]) = H1 at s1 ⊢
  have c1 : cutS (S (r.take 4)) none (some (1 : Int)) = S (r.take 1) := by
    rw [show (1 : Int) = ((1 : Nat) : Int) from rfl, cut_j, List.take_take]
    rfl
  have c2 : cutS (S (r.take 4)) none (some (2 : Int)) = S (r.take 2) := by
    rw [show (2 : Int) = ((2 : Nat) : Int) from rfl, cut_j, List.take_take]
    rfl
  have c3 : cutS (S (r.take 4)) none (some (3 : Int)) = S (r.take 3) := by
    rw [show (3 : Int) = ((3 : Nat) : Int) from rfl, cut_j, List.take_take]
    rfl
  by_cases hw : r.take 4 = M.q "not(" ∨ r.take 4 = M.q "all(" ∨ r.take 4 = M.q "any("
  · simp only [if_pos hw] at hF hQ
    have hlen : 4 ≤ r.length := by
      have : (r.take 4).length = 4 := by rcases hw with z | z | z <;> rw [z] <;> decide
      rw [List.length_take] at this
      omega
    have ho : M.om (r.drop 4) + 3 ≤ M.om r := by
      have z1 : M.om (r.take 4) = 3 := by rcases hw with z | z | z <;> rw [z] <;> decide
      have z2 := M.om_app (r.take 4) (r.drop 4)
      rw [List.take_append_drop] at z2
      omega
    refine iteE true (by simpa using hw) (iteT ⟨_, rfl, _, rfl, _, _, rfl, rfl, t, i + 4, r.drop 4, rfl, hP.drop hlen, hs, by omega, fun h2 H2 e2 => ?_, fun cs r2 h2 u l us j H2 e2 hj hP2 hu hl hA hul => ?_⟩)
    · simp only [h2] at hF
      exact ⟨_, rfl, rfl, _, rfl, iteE true rfl (iteT (hF trivial _ (s1.trans e2)))⟩
    · simp only [h2] at hF hQ
      have e12 := s1.trans e2
      have hL := hA.length
      refine ⟨_, rfl, rfl, _, rfl, iteE false ref_non (iteF ⟨_, rfl, rfl, ?_⟩)⟩
      rw [sq "not(", dec_S]
      refine ⟨_, rfl, ?_⟩
      have ixn : ∀ x : V, atI [V.ref l, V.int (j : Nat)] ((0 : Nat) : Int) = some (V.ref l) := fun _ => at0
      by_cases hnot : r.take 4 = M.q "not("
      · simp only [if_pos hnot] at hF hQ
        rw [decide_eq_true hnot]
        have cw : r.take 3 = M.q "not" := by
          have := congrArg (fun l => l.take 3) hnot
          rw [List.take_take] at this
          exact this
        refine iteT ⟨_, rfl, u, _, _, _, rfl, rfl, sqt hu, at0, l, us, rfl, .inl (sql hl), rfl, ?_⟩
        refine ⟨_, rfl, ?_⟩
        by_cases h1l : cs.length = 1
        · obtain ⟨c, rfl⟩ : ∃ c, cs = [c] := List.length_eq_one_iff.mp h1l
          obtain ⟨v, rfl⟩ : ∃ v, us = [v] := List.length_eq_one_iff.mp (by omega)
          refine iteE false rfl (iteF ⟨_, rfl, _, rfl, _, rfl, wl, ?_⟩)
          rw [c3, cw]
          refine ⟨_, rfl, rfl, ?_⟩
          rw [dec_S, decide_eq_true hnot]
          refine ⟨_, rfl, iteT ⟨_, rfl, u, _, _, _, rfl, rfl, sqt hu, at0, l, _, _, v, rfl, rfl, sql hl, (show atI [v] ((0 : Nat) : Int) = some v from at0), by show 2 ≤ sizeLine; decide, fun a ha => ?_⟩⟩
          have sa := same_new (o := .tup [V.str (S (M.q "not")), v]) ha
          refine ⟨_, rfl, u, _, _, _, rfl, rfl, sqt (sa _ _ hu), at1, by show 2 ≤ sizeLine; decide, fun b hb => ?_⟩
          refine hQ _ _ rfl b (.ref a) j _ ((e12.trans sa).trans (same_new hb)) (by omega) hP2 upd_same ?_
          unfold CAt
          exact ⟨a, v, rfl, same_new hb _ _ upd_same, (hA.1.keep (.of sa)).keep (.of (same_new hb))⟩
        · refine iteE true (by
            have : us.length ≠ 1 := by omega
            rw [decide_eq_false (fun z => this (by injection z with z; omega))]
            rfl) (iteT ?_)
          refine hF ?_ _ e12
          match cs, h1l with
          | [], _ => rfl
          | [c], z => exact absurd rfl z
          | _ :: _ :: _, _ => rfl
      · simp only [if_neg hnot] at hF hQ
        rw [decide_eq_false hnot]
        refine iteF ⟨_, rfl, _, rfl, _, rfl, wl, ?_⟩
        rw [c3]
        refine ⟨_, rfl, rfl, ?_⟩
        rw [dec_S, decide_eq_false hnot]
        refine ⟨_, rfl, iteF ⟨_, rfl, u, _, _, _, rfl, rfl, sqt hu, at0, l, us, rfl, .inl ⟨sql hl, fun t3 ht3 => ⟨by show 2 ≤ sizeLine; decide, fun a ha => ?_⟩⟩⟩⟩
        have s3 := same_new (o := .tup us) ht3
        have sa := same_new (o := .tup [V.str (S (r.take 3)), V.ref t3]) ha
        refine ⟨_, rfl, u, _, _, _, rfl, rfl, sqt (sa _ _ (s3 _ _ hu)), at1, by show 2 ≤ sizeLine; decide, fun b hb => ?_⟩
        refine hQ _ _ rfl b (.ref a) j _ (((e12.trans s3).trans sa).trans (same_new hb)) (by omega) hP2 upd_same ?_
        have cw : r.take 3 = M.nq (decide (r.take 4 = M.q "all(")) := by
          rcases hw with z | z | z
          · exact absurd z hnot
          · have := congrArg (fun l => l.take 3) z
            rw [List.take_take] at this
            rw [decide_eq_true z]
            exact this
          · have := congrArg (fun l => l.take 3) z
            rw [List.take_take] at this
            rw [decide_eq_false (by rw [z]; decide)]
            exact this
        unfold CAt
        refine ⟨a, t3, us, rfl, ?_, same_new hb _ _ (sa _ _ upd_same), CAtL.keep (.of (same_new hb)) _ _ (CAtL.keep (.of sa) _ _ (CAtL.keep (.of s3) _ _ (cAtL_iff.mpr hA)))⟩
        rw [← cw]
        exact same_new hb _ _ upd_same
  · simp only [if_neg hw] at hF hQ
    refine iteE false (by simpa [and_assoc] using hw) (iteF ⟨_, rfl, _, rfl, _, rfl, wl, ?_⟩)
    rw [c1, sq "?"]
    refine ⟨rfl, _, rfl, ?_⟩
    rw [dec_S]
    by_cases h2 : r.take 1 = M.q "?"
    · simp only [if_pos h2] at hF hQ
      rw [decide_eq_true h2]
      have hlen : 1 ≤ r.length := by
        have : (r.take 1).length = 1 := by rw [h2]; decide
        rw [List.length_take] at this
        omega
      have hPd := hP.drop hlen
      refine iteT ⟨_, rfl, _, rfl, _, _, rfl, rfl, t, i + 1, r.drop 1, rfl, hPd, hs, fun h3 => ?_, fun x r3 h3 u j H3 e3 hP3 hu => ?_⟩
      · simp only [h3] at hF
        exact ⟨_, rfl, rfl, _, rfl, iteE true rfl (iteT (hF trivial _ s1))⟩
      · simp only [h3] at hQ
        have hj := hPd.le hP3 (M.word_some h3).1
        refine ⟨_, rfl, rfl, _, rfl, iteE false ref_non (iteF ⟨_, rfl, u, _, _, _, rfl, rfl, sqt hu, at0, by show 2 ≤ sizeLine; decide, fun a ha => ?_⟩)⟩
        have sa := same_new (o := .tup [V.str "ask", V.str (S x)]) ha
        refine ⟨_, rfl, u, _, _, _, rfl, rfl, sqt (sa _ _ hu), at1, by show 2 ≤ sizeLine; decide, fun b hb => ?_⟩
        refine hQ _ _ rfl b (.ref a) j _ (((s1.trans e3).trans sa).trans (same_new hb)) (by omega) hP3 upd_same ?_
        unfold CAt
        refine ⟨a, rfl, ?_⟩
        rw [← sq "ask"]
        exact same_new hb _ _ upd_same
    · simp only [if_neg h2] at hF hQ
      rw [decide_eq_false h2]
      refine iteF ⟨_, rfl, _, rfl, _, rfl, wl, ?_⟩
      rw [c3, sq "yes"]
      refine ⟨rfl, _, rfl, ?_⟩
      rw [dec_S]
      by_cases h3 : r.take 3 = M.q "yes"
      · simp only [if_pos h3] at hQ
        rw [decide_eq_true h3]
        have hlen : 3 ≤ r.length := by
          have : (r.take 3).length = 3 := by rw [h3]; decide
          rw [List.length_take] at this
          omega
        refine iteT ⟨by show 1 ≤ sizeLine; decide, fun a ha => ⟨_, rfl, _, _, rfl, rfl, by show 2 ≤ sizeLine; decide, fun b hb => ?_⟩⟩
        refine hQ _ _ rfl b (.ref a) (i + 3) _ ((s1.trans (same_new ha)).trans (same_new hb)) (by omega) (hP.drop hlen) upd_same ?_
        unfold CAt
        exact ⟨a, rfl, same_new hb _ _ upd_same⟩
      · simp only [if_neg h3] at hF hQ
        rw [decide_eq_false h3]
        refine iteF ⟨_, rfl, _, rfl, _, rfl, wl, ?_⟩
        rw [c2, sq "no"]
        refine ⟨rfl, _, rfl, ?_⟩
        rw [dec_S]
        by_cases h4 : r.take 2 = M.q "no"
        · simp only [if_pos h4] at hQ
          rw [decide_eq_true h4]
          have hlen : 2 ≤ r.length := by
            have : (r.take 2).length = 2 := by rw [h4]; decide
            rw [List.length_take] at this
            omega
          refine iteT ⟨by show 1 ≤ sizeLine; decide, fun a ha => ⟨_, rfl, _, _, rfl, rfl, by show 2 ≤ sizeLine; decide, fun b hb => ?_⟩⟩
          refine hQ _ _ rfl b (.ref a) (i + 2) _ ((s1.trans (same_new ha)).trans (same_new hb)) (by omega) (hP.drop hlen) upd_same ?_
          unfold CAt
          exact ⟨a, rfl, same_new hb _ _ upd_same⟩
        · simp only [if_neg h4] at hF
          rw [decide_eq_false h4]
          exact iteF (hF trivial _ s1)
end
end K92
end

section
set_option Elab.async false
set_option linter.all false
set_option maxRecDepth 100000
set_option maxHeartbeats 4000000
/-! k92: the bag. -/
namespace K92
open PySem PySem.Spec PyProof.Rows L2 He HL
section
variable {w : World} {K : PySem.W.Frag} {mg : Str → Option Value} {base : Heap}
/-- the bag of drawn numbers at b -/
def Bag (H : Hp) (b c : Addr) : Prop := ∃ (d m : Int) (k : Nat) (ks : List Int), H b = some (.lst [.int d, .int m, .int (k : Nat), .ref c]) ∧ H c = some (.lst (ks.map V.int)) ∧ b ≠ c ∧ ks.length ≤ 1000000
theorem Bag.keep {H H' : Hp} {b c : Addr} (h : Bag H b c) (e : Same H H') : Bag H' b c := let ⟨d, m, k, ks, h1, h2, h3, h4⟩ := h; ⟨d, m, k, ks, e _ _ h1, e _ _ h2, h3, h4⟩
theorem Bag.put {H : Hp} {b c D : Addr} {o : HO} (h : Bag H b c) (n1 : D ≠ b) (n2 : D ≠ c) : Bag (upd H D o) b c := let ⟨d, m, k, ks, h1, h2, h3, h4⟩ := h; ⟨d, m, k, ks, by rw [upd_ne n1.symm]; exact h1, by rw [upd_ne n2.symm]; exact h2, h3, h4⟩
theorem Bag.ne {H : Hp} {b c D : Addr} (h : Bag H b c) (n : H D = none) : D ≠ b ∧ D ≠ c := let ⟨d, m, k, ks, h1, h2, h3, h4⟩ := h; ⟨(ne_of_none h1 n).symm, (ne_of_none h2 n).symm⟩
theorem Bag.lst {H : Hp} {b c : Addr} (h : Bag H b c) : ∃ xs, H b = some (.lst xs) := let ⟨_, _, _, _, h1, _⟩ := h; ⟨_, h1⟩
theorem Bag.tup {H H' : Hp} {b c : Addr} (h : Bag H b c) (e : SameB b H H') : TupK H H' := let ⟨_, hx⟩ := h.lst; e.tup hx (fun xs q => nomatch q)
abbrev n_law_bag : List Str := ["_law_script", "_law_cell"]
theorem sc_law_bag : FnScope n_law_bag ["_law_script"] (defScope s_law_bag) := ⟨rfl, rfl, rfl, by decide +kernel, rfl, by decide +kernel, by decide +kernel⟩
theorem bi_law_bag : ∀ (kV doc pm : Value) (an : Option Addr) (cdv ct : Value) (us : List Value), us.length = 1 → bindArgs (PySem.W.fnOf d_law_bag.name d_law_bag.qual d_law_bag.params d_law_bag.body d_law_bag.scope .none kV doc pm an cdv ct) ⟨us, []⟩ = pure ([("_law_script" : Str)].zip us) := fun kV doc pm an cdv ct us hu => by
  match us, hu with
  | [u0], _ => rfl
def spBag (K : PySem.W.Frag) : Sp := fun vs H Q _ => ∃ (a : Addr) (ns : List Int), vs = [.ref a] ∧ SqL K H a (ns.map V.int) ∧ ns.length ≤ 63 ∧ ∀ b c H', Same H H' → H b = none → Bag H' b c → Q (.ref b) H'
theorem o_bag (W : Wl K mg) : OkD w K mg base CX0 1 d_law_bag ["_law_script"] (spBag K) := by
  refine HL.ok_of0 W.D_law_bag sc_law_bag (fun vs H Q E ⟨_, _, h, _⟩ => by rw [h]; rfl) bi_law_bag fun cdv A outer s H vs Q E hr h => ?_
  have nd := sc_law_bag.nd
  refine ⟨_, (pss_one (ps_ret (pe_lst (pa_cons pe_int (pa_cons pe_int (pa_cons pe_int (pa_cons (pe_lc (own := [("_law_cell", 1)]) (g := gName 1) (tt := tYes) (by rfl) nd (pi_list (pe_slice sl_list (pv 0) po_none (po_some pe_int))) (blkOk_by (own := [("_law_cell", 1)]) (N := n_law_bag) (sc := defScope s_law_bag) (by decide +kernel)) (fun _ _ _ _ _ => pg_name (i := 1) nd rfl (Or.inl rfl)) (fun _ _ _ _ _ => pts_nil) (fun _ _ _ _ _ => (pe_callB call_abs (by rfl) W.f_abs (by decide +kernel) (pa_cons (pv 1) pa_nil)))) pa_nil))))))), ?_⟩
  obtain ⟨a, ns, rfl, ha, hn, hq⟩ := h
  refine ⟨_, rfl, _, rfl, a, _, rfl, ha, fun p hp => ?_⟩
  have s1 : Same H (upd H p (.lst (cutV (ns.map V.int) none (some 63)))) := same_new hp
  have hp1 : upd H p (.lst (cutV (ns.map V.int) none (some 63))) p = some (.lst (cutV (ns.map V.int) none (some 63))) := upd_same
  generalize upd H p (.lst (cutV (ns.map V.int) none (some 63))) = H1 at s1 hp1 ⊢
  have hcut : cutV (ns.map V.int) none (some 63) = ns.map V.int := by
    unfold cutV
    rw [show (63 : Int) = ((63 : Nat) : Int) from rfl, HT.sIx_nat, HT.sIx_none, List.length_map, Nat.sub_zero, List.drop_zero, List.take_of_length_le (by rw [List.length_map]; omega)]
  rw [hcut] at hp1
  refine ⟨p, rfl, ⟨_, sql hp1⟩, fun D hD => ?_⟩
  refine HL.lcL (xs := ns.map V.int) (out := ns.map fun z => V.int (if z < 0 then -z else z)) hD (sql hp1) (by rw [List.length_map, List.length_map]) (by rw [List.length_map]; exact small (by omega)) (fun k1 x1 y1 H3 Q3 hx1 hy1 e3 _ hq3 => ?_) fun H2 e2 hD2 => ⟨by show 4 ≤ sizeLine; decide, fun b hb => ?_⟩
  · rw [List.getElem?_map] at hx1 hy1
    cases hz : ns[k1]? with
    | none =>
      rw [hz] at hx1
      cases hx1
    | some z =>
      rw [hz] at hx1 hy1
      cases hx1
      cases hy1
      exact ⟨_, rfl, z, rfl, hq3 _ (Same.refl _)⟩
  · have e12 := s1.trans e2
    have nb := ne_of_none hD2 hb
    refine hq b D _ (e12.trans (same_new hb)) (e12.free hb) ⟨0, 1234567891, 0, ns.map fun z => if z < 0 then -z else z, upd_same, ?_, nb.symm, by rw [List.length_map]; omega⟩
    rw [upd_ne nb, hD2, List.map_map]
    rfl
abbrev n_law_take : List Str := ["_law_bag_here", "_law_many", "_law_cell", "_law_mixed", "_law_value", "_law_begin", "_law_second"]
theorem sc_law_take : FnScope n_law_take ["_law_bag_here", "_law_many"] (defScope s_law_take) := ⟨rfl, rfl, rfl, by decide +kernel, rfl, by decide +kernel, by decide +kernel⟩
theorem bi_law_take : ∀ (kV doc pm : Value) (an : Option Addr) (cdv ct : Value) (us : List Value), us.length = 2 → bindArgs (PySem.W.fnOf d_law_take.name d_law_take.qual d_law_take.params d_law_take.body d_law_take.scope .none kV doc pm an cdv ct) ⟨us, []⟩ = pure ([("_law_bag_here" : Str), ("_law_many" : Str)].zip us) := fun kV doc pm an cdv ct us hu => by
  match us, hu with
  | [u0, u1], _ => rfl
def spTake : Sp := fun vs H Q _ => ∃ b c many, vs = [.ref b, .int (many : Nat)] ∧ 0 < many ∧ many < 1000000000 ∧ Bag H b c ∧ ∀ n H', n < many → SameB b H H' → Bag H' b c → Q (.int (n : Nat)) H'
theorem fm_nat {i : Int} {n : Nat} (h : 0 < n) : ∃ k : Nat, k < n ∧ i.fmod (n : Int) = (k : Int) := by
  refine ⟨(i.fmod (n : Int)).toNat, ?_, ?_⟩
  · rw [Int.fmod_eq_emod_of_nonneg i (by omega)]
    have h1 := Int.emod_lt_of_pos i (show (0 : Int) < n by omega)
    have h2 := Int.emod_nonneg i (show (n : Int) ≠ 0 by omega)
    omega
  · rw [Int.fmod_eq_emod_of_nonneg i (by omega)]
    have h2 := Int.emod_nonneg i (show (n : Int) ≠ 0 by omega)
    omega
theorem seq_set {v : V} {i : Nat} {b : TS} {D : Ends} {σ : L2.St} {H : Hp} (h : b D (σ.set i (some v)) H) : tSeq (tAsg (tC v) (gName i)) b D σ H := h
theorem o_take (W : Wl K mg) : OkD w K mg base CX0 1 d_law_take ["_law_bag_here", "_law_many"] spTake := by
  refine HL.ok_of0 W.D_law_take sc_law_take (fun vs H Q E ⟨_, _, _, h, _⟩ => by rw [h]; rfl) bi_law_take fun cdv A outer s H vs Q E hr h => ?_
  have nd := sc_law_take.nd
  refine ⟨_, (pss_cons (ps_if (pt_cmpR op_eq (pe_ix ix_list (pv 0) pe_int (fun _ _ => rfl)) pe_int (nomark _)) (pss_cons (ps_set (i := 2) nd rfl (Or.inl rfl) pe_int)
      (pss_cons (ps_if (pt_cmpR op_lt (pe_ix ix_list (pv 0) pe_int (fun _ _ => rfl)) (pe_callB call_len_seq (by rfl) W.f_len (by decide +kernel) (pa_cons (pe_ix ix_list (pv 0) pe_int (fun _ _ => rfl)) pa_nil)) (nomark _)) (pss_one (ps_set (i := 2) nd rfl (Or.inl rfl) (pe_ix ix_list (pe_ix ix_list (pv 0) pe_int (fun _ _ => rfl)) (pe_ix ix_list (pv 0) pe_int (fun _ _ => rfl)) (fun _ _ => rfl)))) pss_nil)
      (pss_cons (XP.ps_augL (pv 0) pe_int pe_int)
      (pss_cons (ps_if (pt_cmpR op_ge (pv 2) pe_int (nomark _)) (pss_one (ps_asg (pv 2) (pg_sub (pv 0) pe_int set_list))) pss_nil)
      (pss_cons (ps_set (i := 3) nd rfl (Or.inl rfl) (pe_op op_add (pe_op op_add (pe_op op_mul (pe_ix ix_list (pv 0) pe_int (fun _ _ => rfl)) pe_int) (pe_op op_modN (pe_callTy call_int1 (by rfl) W.f_int (by decide +kernel) (pa_cons (pv 2) pa_nil)) pe_int)) (pe_op op_mul pe_int (pe_ix ix_list (pv 0) pe_int (fun _ _ => rfl)))))
      (pss_one (ps_asg (pe_op op_modN (pe_callTy call_int1 (by rfl) W.f_int (by decide +kernel) (pa_cons (pv 3) pa_nil)) pe_int) (pg_sub (pv 0) pe_int set_list)))))))) pss_nil)
    (pss_cons (ps_if (pt_cmpR op_gt (pe_ix ix_list (pv 0) pe_int (fun _ _ => rfl)) pe_int (nomark _)) (pss_cons (ps_set (i := 4) nd rfl (Or.inl rfl) (pe_op op_modN (pe_callTy call_int1 (by rfl) W.f_int (by decide +kernel) (pa_cons (pe_ix ix_list (pv 0) pe_int (fun _ _ => rfl)) pa_nil)) (pv 1)))
      (pss_cons (ps_asg (pe_op op_fdivN (pe_ix ix_list (pv 0) pe_int (fun _ _ => rfl)) (pv 1)) (pg_sub (pv 0) pe_int set_list))
      (pss_one (ps_ret (pv 4))))) pss_nil)
    (pss_cons (ps_set (i := 5) nd rfl (Or.inl rfl) (pe_op op_modN (pe_callTy call_int1 (by rfl) W.f_int (by decide +kernel) (pa_cons (pe_op op_mul (pe_op op_add (pe_ix ix_list (pv 0) pe_int (fun _ _ => rfl)) pe_int) pe_int) pa_nil)) pe_int))
    (pss_cons (ps_set (i := 6) nd rfl (Or.inl rfl) (pe_op op_modN (pe_callTy call_int1 (by rfl) W.f_int (by decide +kernel) (pa_cons (pe_op op_mul (pe_op op_modN (pe_callTy call_int1 (by rfl) W.f_int (by decide +kernel) (pa_cons (pe_op op_mul (pv 5) (pv 5)) pa_nil)) pe_int) pe_int) pa_nil)) pe_int))
    (pss_one (ps_ret (pe_op op_modN (pe_callTy call_int1 (by rfl) W.f_int (by decide +kernel) (pa_cons (pe_op op_fdivN (pv 6) pe_int) pa_nil)) (pv 1)))))))), ?_⟩
  obtain ⟨b, c, many, rfl, hm0, hm1, hB, hq⟩ := h
  refine HL.seq_cont (R := fun σ' H' => ∃ x2 x3, σ' = [some (.ref b), some (.int (many : Nat)), x2, x3, none, none, none] ∧ SameB b H H' ∧ Bag H' b c) (fun N hN => ?_) ?_
  · obtain ⟨d, m, k, ks, hb, hc, nbc, hks⟩ := id hB
    refine ⟨_, rfl, b, _, _, _, rfl, rfl, sql hb, at0, rfl, _, rfl, ?_⟩
    by_cases hd : d = 0
    · refine iteE true (decide_eq_true (by rw [hd])) (iteT ?_)
      refine seq_set ?_
      refine HL.seq_cont (R := fun σ' H' => ∃ z : Int, σ' = [some (.ref b), some (.int (many : Nat)), some (.int z), none, none, none, none] ∧ H' = H) (fun N2 hN2 => ?_) ?_
      · refine ⟨_, rfl, b, _, _, _, rfl, rfl, sql hb, at2, _, rfl, b, _, _, _, rfl, rfl, sql hb, at3, c, _, rfl, .inl (sql hc), _, _, rfl, rfl, _, rfl, ite2 (fun h1 => ?_) (fun h1 => ?_)⟩
        · have h1 : k < ks.length := by
            have := of_decide_eq_true h1
            rw [List.length_map] at this
            omega
          have hk : (ks.map V.int)[k]? = some (V.int ks[k]) := by
            rw [List.getElem?_map, List.getElem?_eq_getElem h1]
            rfl
          exact ⟨_, rfl, b, _, _, _, rfl, rfl, sql hb, at3, _, rfl, b, _, _, _, rfl, rfl, sql hb, at2, c, _, _, _, rfl, rfl, sql hc, atI_nat hk, hN2 _ _ ⟨_, rfl, rfl⟩⟩
        · exact hN2 _ _ ⟨0, rfl, rfl⟩
      · rintro σ' H' ⟨z, rfl, rfl⟩
        refine ⟨_, rfl, b, _, _, _, rfl, rfl, sql hb, at2, _, _, rfl, rfl, b, _, _, _, rfl, rfl, hb, rfl, ?_⟩
        have sb : SameB b H' (upd H' b (.lst [.int d, .int m, .int ((k : Nat) + 1), .ref c])) := (SameB.refl b H').upd
        have hb1 : upd H' b (.lst [.int d, .int m, .int ((k : Nat) + 1), .ref c]) b = some (.lst [.int d, .int m, .int ((k + 1 : Nat) : Int), .ref c]) := upd_same
        have hc1 : upd H' b (.lst [.int d, .int m, .int ((k : Nat) + 1), .ref c]) c = some (.lst (ks.map V.int)) := by rw [upd_ne nbc.symm]; exact hc
        dsimp only
        show tSeq (tIfS _ _ _) _ _ _ (upd H' b (.lst [.int d, .int m, .int ((k : Nat) + 1), .ref c]))
        generalize upd H' b (.lst [.int d, .int m, .int ((k : Nat) + 1), .ref c]) = H1 at sb hb1 hc1 ⊢
        refine HL.seq_cont (R := fun σ' H2 => ∃ d2 : Int, σ' = [some (.ref b), some (.int (many : Nat)), some (.int z), none, none, none, none] ∧ SameB b H' H2 ∧ H2 b = some (.lst [.int d2, .int m, .int ((k + 1 : Nat) : Int), .ref c]) ∧ H2 c = some (.lst (ks.map V.int))) (fun N2 hN2 => ?_) ?_
        · refine ⟨_, rfl, _, _, rfl, rfl, _, rfl, ite2 (fun h1 => ?_) (fun h1 => ?_)⟩
          · refine ⟨_, rfl, _, rfl, b, _, _, _, rfl, rfl, hb1, rfl, hN2 _ _ ⟨z, rfl, sb.upd, upd_same, by rw [upd_ne nbc.symm]; exact hc1⟩⟩
          · exact hN2 _ _ ⟨d, rfl, sb, hb1, hc1⟩
        · rintro σ2 H2 ⟨d2, rfl, sb2, hb2, hc2⟩
          refine ⟨_, rfl, b, _, _, _, rfl, rfl, sql hb2, at1, _, _, rfl, rfl, .inr ⟨by decide, by decide⟩, _, rfl, .inl ⟨_, rfl, _, _, rfl, rfl, (by show (2147483647 : Int) ≠ 0; decide), _, _, rfl, rfl, _, rfl, b, _, _, _, rfl, rfl, sql hb2, at2, _, _, rfl, rfl, .inl ⟨by decide, by decide⟩, _, _, rfl, rfl, ?_⟩⟩
          refine ⟨_, rfl, .inl ⟨_, rfl, _, _, rfl, rfl, (by show (2147483647 : Int) ≠ 0; decide), _, rfl, b, _, _, _, rfl, rfl, hb2, rfl, hN _ _ ⟨_, _, rfl, sb2.upd, ?_⟩⟩⟩
          exact ⟨d2, _, k + 1, ks, upd_same, by rw [upd_ne nbc.symm]; exact hc2, nbc, hks⟩
    · refine iteE false (decide_eq_false (fun z => hd (by injection z))) (iteF (hN _ _ ⟨none, none, rfl, SameB.refl b H, hB⟩))
  · rintro σ1 H1 ⟨x2, x3, rfl, s1, hB1⟩
    obtain ⟨d, m, k, ks, hb, hc, nbc, hks⟩ := id hB1
    refine ⟨_, rfl, b, _, _, _, rfl, rfl, sql hb, at0, _, _, rfl, rfl, _, rfl, ite2 (fun h1 => ?_) (fun h1 => ?_)⟩
    · obtain ⟨n, hn, en⟩ := fm_nat (i := d) hm0
      refine ⟨_, rfl, b, _, _, _, rfl, rfl, sql hb, at0, .inl ⟨_, rfl, _, rfl, _, _, rfl, rfl, by show ((many : Nat) : Int) ≠ 0; omega, ?_⟩⟩
      refine ⟨_, rfl, b, _, _, _, rfl, rfl, sql hb, at0, _, rfl, _, _, rfl, rfl, ⟨by show ((many : Nat) : Int) ≠ 0; omega, by show ((many : Nat) : Int).natAbs < _; omega⟩, _, rfl, b, _, _, _, rfl, rfl, hb, rfl, ?_⟩
      refine ⟨_, rfl, ?_⟩
      have := hq n (upd H1 b (.lst [.int (d.fdiv (many : Nat)), .int m, .int (k : Nat), .ref c])) hn s1.upd ⟨_, m, k, ks, upd_same, by rw [upd_ne nbc.symm]; exact hc, nbc, hks⟩
      rw [← en] at this
      exact this
    · obtain ⟨n1, hn1, en1⟩ := fm_nat (i := (m + 1) * 39373) (n := 1000000007) (by decide)
      refine ⟨_, rfl, b, _, _, _, rfl, rfl, sql hb, at1, _, _, rfl, rfl, _, _, rfl, rfl, .inr ⟨by decide, by decide⟩, .inl ⟨_, rfl, _, _, rfl, rfl, (by show (1000000007 : Int) ≠ 0; decide), ?_⟩⟩
      have en1' : V.int (((m + 1) * 39373).fmod 1000000007) = V.int (n1 : Nat) := congrArg V.int en1
      refine ⟨_, rfl, _, rfl, _, _, en1', en1', .inl ⟨by omega, by omega⟩, .inl ⟨_, rfl, _, _, rfl, rfl, (by show (998244353 : Int) ≠ 0; decide), _, _, rfl, rfl, .inr ⟨by decide, by decide⟩, .inl ⟨_, rfl, _, _, rfl, rfl, (by show (998244353 : Int) ≠ 0; decide), ?_⟩⟩⟩
      obtain ⟨n, hn, en⟩ := fm_nat (i := (((((n1 : Nat) : Int) * ((n1 : Nat) : Int)).fmod 998244353 * 30011).fmod 998244353).fdiv 7) hm0
      refine ⟨_, rfl, _, _, rfl, rfl, ⟨by decide, by decide⟩, .inl ⟨_, rfl, _, rfl, _, _, rfl, rfl, by show ((many : Nat) : Int) ≠ 0; omega, ?_⟩⟩
      have := hq n H1 hn s1 hB1
      rw [← en] at this
      exact this
abbrev n_law_one : List Str := ["_law_bag_here", "_law_things"]
theorem sc_law_one : FnScope n_law_one ["_law_bag_here", "_law_things"] (defScope s_law_one) := ⟨rfl, rfl, rfl, by decide +kernel, rfl, by decide +kernel, by decide +kernel⟩
theorem bi_law_one : ∀ (kV doc pm : Value) (an : Option Addr) (cdv ct : Value) (us : List Value), us.length = 2 → bindArgs (PySem.W.fnOf d_law_one.name d_law_one.qual d_law_one.params d_law_one.body d_law_one.scope .none kV doc pm an cdv ct) ⟨us, []⟩ = pure ([("_law_bag_here" : Str), ("_law_things" : Str)].zip us) := fun kV doc pm an cdv ct us hu => by
  match us, hu with
  | [u0, u1], _ => rfl
def spOne (K : PySem.W.Frag) : Sp := fun vs H Q _ => ∃ b c a xs, vs = [.ref b, .ref a] ∧ Bag H b c ∧ 0 < xs.length ∧ xs.length < 1000000 ∧ ((∀ H', SameB b H H' → SqL K H' a xs) ∨ (∀ H', SameB b H H' → SqT K H' a xs)) ∧ ∀ x ∈ xs, ∀ H', SameB b H H' → Bag H' b c → Q x H'
theorem o_one (W : Wl K mg) : OkD w K mg base CX0 2 d_law_one ["_law_bag_here", "_law_things"] (spOne K) := by
  have O__law_take := o_take (w := w) (base := base) W
  refine HL.ok_of0 W.D_law_one sc_law_one (fun vs H Q E ⟨_, _, _, _, h, _⟩ => by rw [h]; rfl) bi_law_one fun cdv A outer s H vs Q E hr h => ?_
  have nd := sc_law_one.nd
  refine ⟨_, (pss_one (ps_ret (pe_ix ix_seq (pv 1) (pe_cal O__law_take (hr.mono (by omega)) W.g__law_take pass0 (pa_cons (pv 0) (pa_cons (pe_callB call_len (by rfl) W.f_len (by decide +kernel) (pa_cons (pv 1) pa_nil)) pa_nil))) (fun _ _ => rfl)))), ?_⟩
  obtain ⟨b, c, a, xs, rfl, hB, h0, h1, hx, hq⟩ := h
  rcases hx with hx | hx
  · refine ⟨_, rfl, _, rfl, _, rfl, _, xs.length, rfl, .inl ⟨xs, hx H (SameB.refl b H), rfl⟩, b, c, xs.length, rfl, h0, by omega, hB, fun n H' hn e hB' => ?_⟩
    exact .inl ⟨a, xs, _, xs[n], rfl, rfl, hx H' e, atI_nat (List.getElem?_eq_getElem hn), hq _ (List.getElem_mem hn) H' e hB'⟩
  · refine ⟨_, rfl, _, rfl, _, rfl, _, xs.length, rfl, .inr ⟨xs, hx H (SameB.refl b H), rfl⟩, b, c, xs.length, rfl, h0, by omega, hB, fun n H' hn e hB' => ?_⟩
    exact .inr (.inl ⟨a, xs, _, xs[n], rfl, rfl, hx H' e, atI_nat (List.getElem?_eq_getElem hn), hq _ (List.getElem_mem hn) H' e hB'⟩)
end
end K92
end

section
set_option Elab.async false
set_option linter.all false
set_option maxRecDepth 100000
set_option maxHeartbeats 4000000
/-! k92: the names drawn. -/
namespace K92
open PySem PySem.Spec PyProof.Rows L2 He HL
def menuS : List String := ["yes", "no", "ask", "not", "all", "any", "step", "row", "if", "while", "leave", "back", "call", "then", "else", "do"]
theorem menu_split : Txt.split (Str.ofString "yes no ask not all any step row if while leave back call then else do") (Str.ofString " ") = menuS.map Str.ofString := by decide +kernel
theorem menu_nm : ∀ s ∈ menuS, M.Nm (M.q s) := by
  have h : (menuS.all fun s => decide (0 < (M.q s).length) && decide ((M.q s).length ≤ 8) && (M.q s).all M.isLet) = true := by decide +kernel
  intro s hs
  exact M.nm_q (List.all_eq_true.mp h s hs)
/-- a name as a text -/
def NmS (x : Str) : Prop := ∃ n, x = S n ∧ M.Nm n
theorem menu_nmS : ∀ x ∈ menuS.map Str.ofString, NmS x := fun x hx => by
  obtain ⟨s, hs, rfl⟩ := List.mem_map.mp hx
  exact ⟨M.q s, oq s, menu_nm s hs⟩
theorem cutV_map {α : Type} (f : α → V) (l : List α) (lo hi : Option Int) : ∃ l' : List α, cutV (l.map f) lo hi = l'.map f ∧ (∀ x ∈ l', x ∈ l) := by
  refine ⟨(l.drop (HT.sIx (l.map f).length 0 lo)).take (HT.sIx (l.map f).length (l.map f).length hi - HT.sIx (l.map f).length 0 lo), ?_, fun x hx => List.mem_of_mem_drop (List.mem_of_mem_take hx)⟩
  unfold cutV
  rw [List.map_take, List.map_drop]
theorem cutV_to {α : Type} (f : α → V) (l : List α) (k : Nat) : cutV (l.map f) none (some (k : Int)) = (l.take k).map f := by
  unfold cutV
  rw [HT.sIx_none, HT.sIx_nat, List.drop_zero, Nat.sub_zero, ← List.map_take, List.length_map]
  congr 1
  apply List.ext_getElem?
  intro i
  simp only [List.getElem?_take]
  by_cases h : i < l.length
  · by_cases h2 : i < k
    · rw [if_pos (by omega), if_pos h2]
    · rw [if_neg (by omega), if_neg h2]
  · rw [List.getElem?_eq_none (by omega)]
    simp
theorem strs_of : ∀ {l : List Str}, (∀ x ∈ l, NmS x) → ∃ ns : List (List Nat), l.map V.str = ns.map (fun n => V.str (S n)) ∧ ∀ n ∈ ns, M.Nm n
  | [], _ => ⟨[], rfl, fun n hn => by simp at hn⟩
  | x :: l, h => by
    obtain ⟨n, rfl, hn⟩ := h x (by simp)
    obtain ⟨ns, e, hns⟩ := strs_of (l := l) fun y hy => h y (by simp [hy])
    refine ⟨n :: ns, by rw [List.map_cons, List.map_cons, e], fun m hm => ?_⟩
    rcases List.mem_cons.mp hm with rfl | hm
    · exact hn
    · exact hns m hm
theorem let_at : ∀ j, j < 26 → M.LET[j]? = some (M.LET.getD j 0) ∧ M.isLet (M.LET.getD j 0) = true := by decide +kernel
section
variable {w : World} {K : PySem.W.Frag} {mg : Str → Option Value} {base : Heap}
/-- a tuple of names -/
def Names (H : Hp) (t : Addr) (ns : List (List Nat)) : Prop := H t = some (.tup (ns.map fun n => V.str (S n))) ∧ (∀ n ∈ ns, M.Nm n) ∧ ns.length ≤ 10
abbrev n_law_names : List Str := ["_law_bag_here", "_law_many", "_law_menu", "_law_way", "_law_turn", "_law_letters", "_law_stem", "_law_k"]
theorem sc_law_names : FnScope n_law_names ["_law_bag_here", "_law_many"] (defScope s_law_names) := ⟨rfl, rfl, rfl, by decide +kernel, rfl, by decide +kernel, by decide +kernel⟩
theorem bi_law_names : ∀ (kV doc pm : Value) (an : Option Addr) (cdv ct : Value) (us : List Value), us.length = 2 → bindArgs (PySem.W.fnOf d_law_names.name d_law_names.qual d_law_names.params d_law_names.body d_law_names.scope .none kV doc pm an cdv ct) ⟨us, []⟩ = pure ([("_law_bag_here" : Str), ("_law_many" : Str)].zip us) := fun kV doc pm an cdv ct us hu => by
  match us, hu with
  | [u0, u1], _ => rfl
def spNames : Sp := fun vs H Q _ => ∃ b c many, vs = [.ref b, .int (many : Nat)] ∧ many ≤ 8 ∧ Bag H b c ∧ ∀ t ns H', SameB b H H' → Bag H' b c → Names H' t ns → Q (.ref t) H'
theorem o_names (W : Wl K mg) : OkD w K mg base CX0 2 d_law_names ["_law_bag_here", "_law_many"] spNames := by
  have O__law_take := o_take (w := w) (base := base) W
  refine HL.ok_of0 W.D_law_names sc_law_names (fun vs H Q E ⟨_, _, _, h, _⟩ => by rw [h]; rfl) bi_law_names fun cdv A outer s H vs Q E hr h => ?_
  have nd := sc_law_names.nd
  refine ⟨_, (pss_cons (ps_set (i := 2) nd rfl (Or.inl rfl) (pe_split pe_str pe_str))
    (pss_cons (ps_asg (pe_tup (pa_cons (pe_cal O__law_take (hr.mono (by omega)) W.g__law_take pass0 (pa_cons (pv 0) (pa_cons pe_int pa_nil))) (pa_cons (pe_cal O__law_take (hr.mono (by omega)) W.g__law_take pass0 (pa_cons (pv 0) (pa_cons pe_int pa_nil))) pa_nil))) (pg_tup (by rfl) (pgs_cons (pg_name (i := 3) nd rfl (Or.inl rfl)) (pgs_cons (pg_name (i := 4) nd rfl (Or.inr rfl)) pgs_nil))))
    (pss_cons (ps_if (pt_cmpR op_eq (pv 3) pe_int (nomark _)) (pss_one (ps_ret (pe_callTy call_tuple_of (by rfl) W.f_tuple (by decide +kernel) (pa_cons (pe_callB cr_sortedS (by rfl) W.f_sorted (by decide +kernel) (pa_cons (pe_slice sl_list (pe_op op_cat (pe_slice sl_list (pv 2) (po_some (pv 4)) po_none) (pe_slice sl_list (pv 2) po_none (po_some (pv 4)))) po_none (po_some (pv 1))) pa_nil)) pa_nil)))) pss_nil)
    (pss_cons (ps_if (pt_cmpR op_eq (pv 3) pe_int (nomark _)) (pss_one (ps_ret (pe_callTy call_tuple_of (by rfl) W.f_tuple (by decide +kernel) (pa_cons (pe_lc (own := [("_law_k", 7)]) (g := gName 7) (tt := tYes) (by rfl) nd (pi_range1 (by rfl) W.f_range (pa_cons (pv 1) pa_nil)) (blkOk_by (own := [("_law_k", 7)]) (N := n_law_names) (sc := defScope s_law_names) (by decide +kernel)) (fun _ _ _ _ _ => pg_name (i := 7) nd rfl (Or.inl rfl)) (fun _ _ _ _ _ => pts_nil) (fun _ _ _ _ _ => (pe_slice sl_str pe_str po_none (po_some (pe_op op_add (pv 7) pe_int))))) pa_nil)))) pss_nil)
    (pss_cons (ps_set (i := 5) nd rfl (Or.inr rfl) pe_str)
    (pss_cons (ps_set (i := 6) nd rfl (Or.inr rfl) (pe_ix ix_list (pe_lst (pa_cons pe_str (pa_cons pe_str (pa_cons (pe_ix ix_str (pv 5) (pv 4) (fun _ _ => rfl)) (pa_cons pe_str pa_nil))))) (pe_op op_sub (pv 3) pe_int) (fun _ _ => rfl)))
    (pss_one (ps_ret (pe_callTy call_tuple_of (by rfl) W.f_tuple (by decide +kernel) (pa_cons (pe_callB cr_sortedS (by rfl) W.f_sorted (by decide +kernel) (pa_cons (pe_lc (own := [("_law_k", 7)]) (g := gName 7) (tt := tYes) (by rfl) nd (pi_range1 (by rfl) W.f_range (pa_cons (pv 1) pa_nil)) (blkOk_by (own := [("_law_k", 7)]) (N := n_law_names) (sc := defScope s_law_names) (by decide +kernel)) (fun _ _ _ _ _ => pg_name (i := 7) nd rfl (Or.inl rfl)) (fun _ _ _ _ _ => pts_nil) (fun _ _ _ _ _ => (pe_op op_add_str (pv 6) (pe_ix ix_str (pv 5) (pe_op op_modN (pe_callTy call_int1 (by rfl) W.f_int (by decide +kernel) (pa_cons (pe_op op_add (pv 4) (pe_op op_mul pe_int (pv 7))) pa_nil)) pe_int) (fun _ _ => rfl))))) pa_nil)) pa_nil)))))))))), ?_⟩
  obtain ⟨b, c, many, rfl, hm, hB, hq⟩ := h
  -- the last step: a tuple of a list of names
  have fin : ∀ (H1 : Hp) (l : Addr) (ss : List Str), SameB b H H1 → Bag H1 b c → H1 l = some (.lst (ss.map V.str)) → (∀ x ∈ ss, NmS x) → ss.length ≤ 10 → ∀ t, H1 t = none → Q (.ref t) (upd H1 t (.tup (ss.map V.str))) := by
    intro H1 l ss e1 hB1 hl hss hlen t ht
    obtain ⟨ns, e2, hns⟩ := strs_of hss
    refine hq t ns _ (e1.new ht) (hB1.keep (same_new ht)) ⟨by rw [upd_same, e2], hns, ?_⟩
    have := congrArg List.length e2
    rw [List.length_map, List.length_map] at this
    omega
  refine ⟨⟨_, rfl⟩, _, _, rfl, rfl, by decide +kernel, by rw [ofq, S_len]; exact small (by decide), fun p hp => ?_⟩
  rw [menu_split]
  have sp : Same H (upd H p (.lst ((menuS.map Str.ofString).map V.str))) := same_new hp
  have hp1 : upd H p (.lst ((menuS.map Str.ofString).map V.str)) p = some (.lst ((menuS.map Str.ofString).map V.str)) := upd_same
  generalize upd H p (.lst ((menuS.map Str.ofString).map V.str)) = H1 at sp hp1 ⊢
  have hB1 := hB.keep sp
  obtain ⟨bx, hbx⟩ := hB.lst
  have npb : p ≠ b := (ne_of_none hbx hp).symm
  refine ⟨_, rfl, b, c, 5, rfl, by decide, by decide, hB1, fun way H2 hway e2 hB2 => ?_⟩
  have hp2 := e2 _ _ hp1 npb
  refine ⟨_, rfl, b, c, 16, rfl, by decide, by decide, hB2, fun turn H3 hturn e3 hB3 => ?_⟩
  have hp3 := e3 _ _ hp2 npb
  have s03 : SameB b H H3 := (SameB.of sp).trans (e2.trans e3)
  refine ⟨by show 2 ≤ sizeLine; decide, fun t0 ht0 => ?_⟩
  have st : Same H3 (upd H3 t0 (.tup [.int (way : Nat), .int (turn : Nat)])) := same_new ht0
  have ht1 : upd H3 t0 (.tup [.int (way : Nat), .int (turn : Nat)]) t0 = some (.tup [.int (way : Nat), .int (turn : Nat)]) := upd_same
  generalize upd H3 t0 (.tup [.int (way : Nat), .int (turn : Nat)]) = H4 at st ht1 ⊢
  have hB4 := hB3.keep st
  have hp4 := st _ _ hp3
  have s04 : SameB b H H4 := s03.trans (.of st)
  refine ⟨t0, _, rfl, sqt ht1, rfl, _, _, rfl, _, _, rfl, rfl, _, rfl, rfl, _, rfl, ?_⟩
  by_cases w0 : way = 0
  · refine iteE true (decide_eq_true (by rw [w0] <;> rfl)) (iteT ?_)
    obtain ⟨l1, c1, m1⟩ := cutV_map V.str (menuS.map Str.ofString) (some (turn : Int)) none
    obtain ⟨l2, c2, m2⟩ := cutV_map V.str (menuS.map Str.ofString) none (some (turn : Int))
    refine ⟨_, rfl, _, rfl, _, rfl, p, _, rfl, sql hp4, fun p1 hp1' => ?_⟩
    have q1 := same_new (o := .lst (cutV ((menuS.map Str.ofString).map V.str) (some (turn : Int)) none)) hp1'
    refine ⟨_, rfl, _, rfl, _, rfl, p, _, rfl, sql (q1 _ _ hp4), fun p2 hp2' => ?_⟩
    have q2 := same_new (o := .lst (cutV ((menuS.map Str.ofString).map V.str) none (some (turn : Int)))) hp2'
    have g1 := q2 _ _ (upd_same (H := H4) (a := p1) (o := .lst (cutV ((menuS.map Str.ofString).map V.str) (some (turn : Int)) none)))
    have z1 : (cutV ((menuS.map Str.ofString).map V.str) (some (turn : Int)) none).length ≤ 16 := Nat.le_trans (cutV_length _ _ _) (by rw [List.length_map, List.length_map]; decide)
    have z2 : (cutV ((menuS.map Str.ofString).map V.str) none (some (turn : Int))).length ≤ 16 := Nat.le_trans (cutV_length _ _ _) (by rw [List.length_map, List.length_map]; decide)
    refine ⟨p1, p2, _, _, rfl, rfl, g1, upd_same, small (by omega), fun p3 hp3' => ?_⟩
    have e12 : cutV ((menuS.map Str.ofString).map V.str) (some (turn : Int)) none ++ cutV ((menuS.map Str.ofString).map V.str) none (some (turn : Int)) = (l1 ++ l2).map V.str := by rw [c1, c2, List.map_append]
    have q12 := q1.trans q2
    rw [e12]
    have q3 := same_new (o := .lst ((l1 ++ l2).map V.str)) hp3'
    have q123 := q12.trans q3
    have hp3v : upd (upd (upd H4 p1 (.lst (cutV ((menuS.map Str.ofString).map V.str) (some (turn : Int)) none))) p2 (.lst (cutV ((menuS.map Str.ofString).map V.str) none (some (turn : Int))))) p3 (.lst ((l1 ++ l2).map V.str)) p3 = some (.lst ((l1 ++ l2).map V.str)) := upd_same
    generalize upd (upd (upd H4 p1 (.lst (cutV ((menuS.map Str.ofString).map V.str) (some (turn : Int)) none))) p2 (.lst (cutV ((menuS.map Str.ofString).map V.str) none (some (turn : Int))))) p3 (.lst ((l1 ++ l2).map V.str)) = H5 at q123 hp3v ⊢
    refine ⟨_, rfl, _, rfl, p3, _, rfl, sql hp3v, fun p4 hp4' => ?_⟩
    rw [cutV_to]
    have q4 := same_new (o := .lst (((l1 ++ l2).take many).map V.str)) hp4'
    have ll : ((l1 ++ l2).take many).length ≤ 8 := by rw [List.length_take]; omega
    refine ⟨p4, _, rfl, sql upd_same, by omega, fun ys p5 perm srt hp5 => ⟨p5, _, rfl, .inl ⟨sql upd_same, fun t ht => ?_⟩⟩⟩
    have q5 := same_new (o := .lst (ys.map V.str)) hp5
    have qq := (q123.trans q4).trans q5
    refine fin _ p5 ys (s04.trans (.of qq)) (hB4.keep qq) upd_same (fun x hx => ?_) (by rw [perm.length_eq]; omega) t ht
    have hx := List.mem_of_mem_take (perm.mem_iff.mp hx)
    rcases List.mem_append.mp hx with z | z
    · exact menu_nmS x (m1 x z)
    · exact menu_nmS x (m2 x z)
  · refine iteE false (decide_eq_false (fun z => w0 (by injection z with z; omega))) (iteF ⟨_, rfl, rfl, _, rfl, ?_⟩)
    have mb : (((many : Nat) : Int)).toNat = many := by omega
    have mb1 : -(2 ^ 62) ≤ ((many : Nat) : Int) := by
      have : (0 : Int) ≤ (many : Int) := by omega
      exact Int.le_trans (by decide) this
    have mb2 : ((many : Nat) : Int) < 2 ^ 62 := Int.lt_of_le_of_lt (show ((many : Nat) : Int) ≤ 8 by omega) (by decide)
    by_cases w1 : way = 1
    · refine iteE true (decide_eq_true (by rw [w1] <;> rfl)) (iteT ?_)
      refine ⟨_, rfl, _, rfl, mb1, mb2, fun D hD => ?_⟩
      rw [mb]
      refine HL.lcR (n := many) (out := (List.range many).map fun k => V.str (S ((M.q "aaaaaaaa").take (k + 1)))) hD (by rw [List.length_map, List.length_range]) (small (by omega)) (fun k1 y1 H5 Q5 hk1 hy1 e5 _ hq5 => ?_) fun H5 e5 hD5 => ⟨D, _, rfl, .inl ⟨sql hD5, fun t ht => ?_⟩⟩
      · rw [List.getElem?_map, List.getElem?_range hk1] at hy1
        have hy1 : some (V.str (S ((M.q "aaaaaaaa").take (k1 + 1)))) = some y1 := hy1
        cases hy1
        refine ⟨_, rfl, _, _, rfl, rfl, _, congrArg V.int (show (0 : Int) + (k1 : Int) + 1 = ((k1 + 1 : Nat) : Int) by omega), _, rfl, by rw [ofq, S_len]; exact small (by decide), ?_⟩
        rw [oq, cut_j]
        exact hq5 _ (Same.refl _)
      · have e9 : ((List.range many).map fun k => V.str (S ((M.q "aaaaaaaa").take (k + 1)))) = ((List.range many).map fun k => S ((M.q "aaaaaaaa").take (k + 1))).map V.str := by rw [List.map_map] <;> rfl
        rw [e9]
        refine fin H5 D _ (s04.trans (.of e5)) (hB4.keep e5) (by rw [hD5, e9]) (fun x hx => ?_) (by rw [List.length_map, List.length_range]; omega) t ht
        obtain ⟨k1, hk1, rfl⟩ := List.mem_map.mp hx
        have hk1 := List.mem_range.mp hk1
        refine ⟨_, rfl, ?_, ?_, ?_⟩
        · rw [List.length_take, show (M.q "aaaaaaaa").length = 8 from by decide]
          omega
        · rw [List.length_take]
          omega
        · intro c hc
          have h8 : ∀ c ∈ M.q "aaaaaaaa", M.isLet c = true := by decide
          exact h8 c (List.mem_of_mem_take hc)
    · refine iteE false (decide_eq_false (fun z => w1 (by injection z with z; omega))) (iteF ?_)
      have hLsz : (Str.ofString "abcdefghijklmnopqrstuvwxyz").length ≤ sizeLine := by rw [ofq, S_len]; exact small (by decide)
      have hL : ∀ j, j < 26 → atI (Str.ofString "abcdefghijklmnopqrstuvwxyz").cps.toList ((j : Nat) : Int) = some (M.LET.getD j 0) := fun j hj => atI_nat (by rw [ofq_tl]; exact (let_at j hj).1)
      have key : ∃ stn : List Nat, atI [V.str (Str.ofString ""), V.str (Str.ofString ""), V.str ⟨#[M.LET.getD turn 0]⟩, V.str (Str.ofString "zzzzzzz")] (((way - 1 : Nat) : Int)) = some (V.str (S stn)) ∧ stn.length ≤ 7 ∧ ∀ c ∈ stn, M.isLet c = true := by
        have hw : way = 2 ∨ way = 3 ∨ way = 4 := by omega
        rcases hw with rfl | rfl | rfl
        · exact ⟨[], by rw [oq ""]; exact at1, by simp, fun c hc => by simp at hc⟩
        · exact ⟨[M.LET.getD turn 0], at2, by simp, fun c hc => by
            have : c = M.LET.getD turn 0 := by simpa using hc
            rw [this]
            exact (let_at turn (by omega)).2⟩
        · exact ⟨M.q "zzzzzzz", by rw [oq "zzzzzzz"]; exact at3, by decide, by decide⟩
      obtain ⟨stn, hst, hstl, hstc⟩ := key
      have ew : ((way : Nat) : Int) - 1 = ((way - 1 : Nat) : Int) := by omega
      refine ⟨_, rfl, _, rfl, _, _, _, rfl, rfl, hLsz, hL turn (by omega), by show 4 ≤ sizeLine; decide, fun l hl => ?_⟩
      have sl := same_new (o := .lst [V.str (Str.ofString ""), V.str (Str.ofString ""), V.str ⟨#[M.LET.getD turn 0]⟩, V.str (Str.ofString "zzzzzzz")]) hl
      refine ⟨_, rfl, _, _, rfl, rfl, l, _, _, _, rfl, congrArg V.int ew, sql upd_same, hst, ?_⟩
      refine ⟨_, rfl, _, rfl, mb1, mb2, fun D hD => ?_⟩
      rw [mb]
      refine HL.lcR (n := many) (out := (List.range many).map fun k => V.str (S (stn ++ [M.LET.getD ((turn + 3 * k) % 26) 0]))) hD (by rw [List.length_map, List.length_range]) (small (by omega)) (fun k1 y1 H5 Q5 hk1 hy1 e5 _ hq5 => ?_) fun H5 e5 hD5 => ?_
      · rw [List.getElem?_map, List.getElem?_range hk1] at hy1
        have hy1 : some (V.str (S (stn ++ [M.LET.getD ((turn + 3 * k1) % 26) 0]))) = some y1 := hy1
        cases hy1
        have em : (((turn : Nat) : Int) + 3 * ((0 : Int) + (k1 : Int))).fmod 26 = (((turn + 3 * k1) % 26 : Nat) : Int) := by
          rw [Int.fmod_eq_emod_of_nonneg _ (by decide)]
          omega
        refine ⟨_, rfl, _, rfl, _, rfl, _, rfl, _, _, rfl, rfl, .inl ⟨by decide, by decide⟩, _, _, rfl, rfl, .inl ⟨_, rfl, _, _, rfl, rfl, (by show (26 : Int) ≠ 0; decide), _, _, _, rfl, congrArg V.int em, hLsz, hL _ (Nat.mod_lt _ (by decide)), _, _, rfl, rfl, ?_, ?_⟩⟩
        · show (S stn).length + 1 ≤ _
          rw [S_len]
          exact small (by omega)
        · rw [show (⟨#[M.LET.getD ((turn + 3 * k1) % 26) 0]⟩ : Str) = S [M.LET.getD ((turn + 3 * k1) % 26) 0] from rfl, S_cat]
          exact hq5 _ (Same.refl _)
      · have e9 : ((List.range many).map fun k => V.str (S (stn ++ [M.LET.getD ((turn + 3 * k) % 26) 0]))) = ((List.range many).map fun k => S (stn ++ [M.LET.getD ((turn + 3 * k) % 26) 0])).map V.str := by rw [List.map_map] <;> rfl
        rw [e9] at hD5
        refine ⟨D, _, rfl, sql hD5, by rw [List.length_map, List.length_range]; omega, fun ys p5 perm srt hp5 => ⟨p5, _, rfl, .inl ⟨sql upd_same, fun t ht => ?_⟩⟩⟩
        have q5 := same_new (o := .lst (ys.map V.str)) hp5
        have qq := (sl.trans e5).trans q5
        refine fin _ p5 ys (s04.trans (.of qq)) (hB4.keep qq) upd_same (fun x hx => ?_) (by rw [perm.length_eq, List.length_map, List.length_range]; omega) t ht
        obtain ⟨k1, hk1, rfl⟩ := List.mem_map.mp (perm.mem_iff.mp hx)
        refine ⟨_, rfl, ?_, ?_, ?_⟩
        · rw [List.length_append]
          simp
        · rw [List.length_append]
          simp
          omega
        · intro c hc
          rcases List.mem_append.mp hc with z | z
          · exact hstc c z
          · have : c = M.LET.getD ((turn + 3 * k1) % 26) 0 := by simpa using z
            rw [this]
            exact (let_at _ (Nat.mod_lt _ (by decide))).2
end
end K92
end

section
set_option Elab.async false
set_option linter.all false
set_option maxRecDepth 100000
set_option maxHeartbeats 4000000
/-! k92: the conditions drawn. -/
namespace K92
open PySem PySem.Spec PyProof.Rows L2 He HL
/-- if c: t, what follows b -/
theorem sif {c : TT} {t b : TS} {D : Ends} {σ : L2.St} {H : Hp} (P : Prop) [Decidable P] (hc : ∀ Q' : Bool → Hp → Prop, (∀ H', Same H H' → Q' (decide P) H') → c σ H Q') (h1 : P → ∀ H', Same H H' → t { D with nx := b D } σ H') (h2 : ¬P → ∀ H', Same H H' → b D σ H') : tSeq (tIfS c t tNext) b D σ H := by
  refine hc _ fun H' e => ?_
  by_cases h : P
  · rw [decide_eq_true h]
    exact iteT (h1 h H' e)
  · rw [decide_eq_false h]
    exact iteF (h2 h H' e)
theorem eqv_tnil {α : Type} (dat : α → PyData) (l : List α) : PyData.eqv (.tuple (l.map dat)) (.tuple []) = l.isEmpty := by
  cases l <;> simp [PyData.eqv, PyData.eqvAll]
section
variable {w : World} {K : PySem.W.Frag} {mg : Str → Option Value} {base : Heap}
theorem names_dp {H : Hp} : ∀ ns : List (List Nat), DpAll K H (ns.map fun n => V.str (S n)) (ns.map fun n => PyData.str (S n))
  | [] => .nil
  | n :: ns => .cons (.str _) (names_dp ns)
theorem names_lay : ∀ {ns : List (List Nat)}, (∀ n ∈ ns, M.Nm n) → PyData.canLayAll0 (ns.map fun n => PyData.str (S n)) = true
  | [], _ => rfl
  | n :: ns, h => by
    show (PyData.strOk (S n) && PyData.canLayAll0 (ns.map fun n => PyData.str (S n))) = true
    rw [nm_ok (h n (by simp)), names_lay fun m hm => h m (by simp [hm])]
    rfl
theorem Names.keep {H H' : Hp} {t : Addr} {ns : List (List Nat)} (h : Names H t ns) (e : TupK H H') : Names H' t ns := ⟨e _ _ h.1, h.2⟩
theorem names_eq {H : Hp} {t t0 : Addr} {ns : List (List Nat)} {units : Nat} {Q : VK} (hN : Names H t ns) (h0 : H t0 = some (.tup [])) (hu : units + 10 < cLine) (h : Q (.bl ns.isEmpty) H) : XP.rEqE K units (.ref t) (.ref t0) H Q := by
  refine ⟨.tuple (ns.map fun n => .str (S n)), .tuple [], .tup (sqt hN.1) (names_dp ns), .tup (sqt h0) .nil, names_lay hN.2.1, rfl, ?_, ?_⟩
  · have h2 : (PyData.tuple []).depth = 1 := by simp [PyData.depth, PyData.depthAll]
    have h3 := Nat.min_le_right (PyData.tuple (ns.map fun n => PyData.str (S n))).depth (PyData.tuple []).depth
    omega
  · rw [eqv_tnil]
    exact h
theorem names_ne {H : Hp} {t t0 : Addr} {ns : List (List Nat)} {units : Nat} {Q : VK} (hN : Names H t ns) (h0 : H t0 = some (.tup [])) (hu : units + 10 < cLine) (h : Q (.bl (!ns.isEmpty)) H) : XP.rNeE K units (.ref t) (.ref t0) H Q := by
  refine ⟨.tuple (ns.map fun n => .str (S n)), .tuple [], .tup (sqt hN.1) (names_dp ns), .tup (sqt h0) .nil, names_lay hN.2.1, rfl, ?_, ?_⟩
  · have h2 : (PyData.tuple []).depth = 1 := by simp [PyData.depth, PyData.depthAll]
    have h3 := Nat.min_le_right (PyData.tuple (ns.map fun n => PyData.str (S n))).depth (PyData.tuple []).depth
    omega
  · rw [eqv_tnil]
    exact h
/-- one of the names is drawn -/
theorem one_name {H : Hp} {b c t : Addr} {ns : List (List Nat)} {Q : VK} {E : XK} (hB : Bag H b c) (hN : Names H t ns) (h0 : ns ≠ []) (h : ∀ n, M.Nm n → ∀ H', SameB b H H' → Bag H' b c → Q (.str (S n)) H') : spOne K [.ref b, .ref t] H Q E := by
  refine ⟨b, c, t, _, rfl, hB, by rw [List.length_map]; exact List.length_pos_iff.mpr h0, by rw [List.length_map]; have := hN.2.2; omega, .inr fun H' e => sqt (hB.tup e _ _ hN.1), fun x hx H' e hB' => ?_⟩
  obtain ⟨n, hn, rfl⟩ := List.mem_map.mp hx
  exact h n (hN.2.1 n hn) H' e hB'
def cO : Nat → Nat
  | 0 => 0
  | d + 1 => 3 * cO d + 5
def cL : Nat → Nat
  | 0 => 9
  | d + 1 => 3 * cL d + 9
theorem cL_pos (d : Nat) : 9 ≤ cL d := by
  cases d with
  | zero => exact Nat.le_refl _
  | succ d =>
    show 9 ≤ 3 * cL d + 9
    omega
theorem join_le {b : List Nat} {k : Nat} : ∀ {ys : List (List Nat)}, (∀ y ∈ ys, y.length ≤ k) → ys.length ≤ 3 → (TL.joinL b ys).length ≤ 3 * k + 2 * b.length
  | [], _, _ => by simp [TL.joinL]
  | [x], h, _ => by
    have := h x (by simp)
    simp only [TL.joinL]
    omega
  | [x, y], h, _ => by
    have h1 := h x (by simp)
    have h2 := h y (by simp)
    simp only [TL.joinL, List.length_append]
    omega
  | [x, y, z], h, _ => by
    have h1 := h x (by simp)
    have h2 := h y (by simp)
    have h3 := h z (by simp)
    simp only [TL.joinL, List.length_append]
    omega
  | _ :: _ :: _ :: _ :: _, _, h => by simp at h
theorem join_om {b : List Nat} {k : Nat} : ∀ {ys : List (List Nat)}, (∀ y ∈ ys, M.om y ≤ k) → ys.length ≤ 3 → M.om (TL.joinL b ys) ≤ 3 * k + 2 * M.om b
  | [], _, _ => by simp [TL.joinL, M.om_nil]
  | [x], h, _ => by
    have := h x (by simp)
    simp only [TL.joinL]
    omega
  | [x, y], h, _ => by
    have h1 := h x (by simp)
    have h2 := h y (by simp)
    simp only [TL.joinL, M.om_app]
    omega
  | [x, y, z], h, _ => by
    have h1 := h x (by simp)
    have h2 := h y (by simp)
    have h3 := h z (by simp)
    simp only [TL.joinL, M.om_app]
    omega
  | _ :: _ :: _ :: _ :: _, _, h => by simp at h
theorem nm_om {n : List Nat} (h : ∀ c ∈ n, M.isLet c = true) : M.om n = 0 := by
  induction n with
  | nil => rfl
  | cons c n ih =>
    have h1 := h c (by simp)
    have h2 := ih fun d hd => h d (by simp [hd])
    have hc : c ∈ M.LET := of_decide_eq_true h1
    have hw : ∀ d ∈ M.LET, M.wt d = 0 := by decide
    have h3 := M.om_app [c] n
    rw [show [c] ++ n = c :: n from rfl, h2] at h3
    rw [h3]
    show M.om [c] + 0 = 0
    simp [M.om, hw c hc]
/-- a drawn condition -/
def CD (d : Nat) (v : V) (c : M.Cond) (H : Hp) : Prop := CAt H c v ∧ c.wf ∧ M.om c.sh ≤ cO d ∧ c.sh.length ≤ cL d
abbrev n_law_condition : List Str := ["_law_bag_here", "_law_asks", "_law_deep", "_law_way", "_law_some", "_law_k"]
theorem sc_law_condition : FnScope n_law_condition ["_law_bag_here", "_law_asks", "_law_deep"] (defScope s_law_condition) := ⟨rfl, rfl, rfl, by decide +kernel, rfl, by decide +kernel, by decide +kernel⟩
theorem bi_law_condition : ∀ (kV doc pm : Value) (an : Option Addr) (cdv ct : Value) (us : List Value), us.length = 3 → bindArgs (PySem.W.fnOf d_law_condition.name d_law_condition.qual d_law_condition.params d_law_condition.body d_law_condition.scope .none kV doc pm an cdv ct) ⟨us, []⟩ = pure ([("_law_bag_here" : Str), ("_law_asks" : Str), ("_law_deep" : Str)].zip us) := fun kV doc pm an cdv ct us hu => by
  match us, hu with
  | [u0, u1, u2], _ => rfl
def spCnd (d : Nat) : Sp := fun vs H Q _ => ∃ b c t ns, vs = [.ref b, .ref t, .int (d : Nat)] ∧ Bag H b c ∧ Names H t ns ∧ ∀ v x H', SameB b H H' → Bag H' b c → CD d v x H' → Q v H'
theorem o_cnd (W : Wl K mg) : ∀ (d L : Nat), d + 3 ≤ L → OkD w K mg base CX0 L d_law_condition ["_law_bag_here", "_law_asks", "_law_deep"] (spCnd d) := by
  intro d
  induction d using Nat.strongRecOn with
  | _ d ih =>
  intro L hL
  obtain ⟨k, rfl⟩ : ∃ k, L = k + 1 := ⟨L - 1, by omega⟩
  have O__law_take := o_take (w := w) (base := base) W
  have O__law_one := o_one (w := w) (base := base) W
  have O__law_condition : OkD w K mg base CX0 k d_law_condition ["_law_bag_here", "_law_asks", "_law_deep"] (fun vs H Q E => ∃ d', d = d' + 1 ∧ spCnd d' vs H Q E) := by
    by_cases h0 : d = 0
    · obtain ⟨j, rfl⟩ : ∃ j, k = j + 1 := ⟨k - 1, by omega⟩
      exact o_vac W.D_law_condition sc_law_condition bi_law_condition fun vs H Q E ⟨d', z, _⟩ => by omega
    · obtain ⟨d', rfl⟩ : ∃ d', d = d' + 1 := ⟨d - 1, by omega⟩
      exact (ih d' (by omega) k (by omega)).imp fun vs H Q E ⟨d2, z, q⟩ => by
        obtain rfl : d' = d2 := by omega
        exact q
  refine HL.ok_of0 W.D_law_condition sc_law_condition (fun vs H Q E ⟨_, _, _, _, h, _⟩ => by rw [h]; rfl) bi_law_condition fun cdv A outer s H vs Q E hr h => ?_
  have nd := sc_law_condition.nd
  have hun := hr.un
  refine ⟨_, (pss_cons (ps_set (i := 3) nd rfl (Or.inl rfl) (pe_cal O__law_take (hr.mono (by omega)) W.g__law_take pass0 (pa_cons (pv 0) (pa_cons pe_int pa_nil))))
    (pss_cons (ps_if (PW.pt (pw_or (pt_cmpR op_lt (pv 3) pe_int (nomark _)) (pw_or1 (pt_cmpR op_lt (pv 2) pe_int (nomark _))))) (pss_cons (ps_if (PW.pt (pw_or (pt_cmpR op_eq (pv 3) pe_int (nomark _)) (pw_or1 (pt_cmpR XP.op_eqE (pv 1) (pe_tup pa_nil) (nomark _))))) (pss_one (ps_ret (pe_ix ix_list (pe_lst (pa_cons (pe_tup (pa_cons pe_str pa_nil)) (pa_cons (pe_tup (pa_cons pe_str pa_nil)) pa_nil))) (pe_cal O__law_take (hr.mono (by omega)) W.g__law_take pass0 (pa_cons (pv 0) (pa_cons pe_int pa_nil))) (fun _ _ => rfl)))) pss_nil)
      (pss_one (ps_ret (pe_tup (pa_cons pe_str (pa_cons (pe_cal O__law_one (hr.mono (by omega)) W.g__law_one pass0 (pa_cons (pv 0) (pa_cons (pv 1) pa_nil))) pa_nil)))))) pss_nil)
    (pss_cons (ps_if (pt_cmpR op_lt (pv 3) pe_int (nomark _)) (pss_one (ps_ret (pe_tup (pa_cons pe_str (pa_cons (pe_cal O__law_condition (hr.mono (by omega)) W.g__law_condition pass0 (pa_cons (pv 0) (pa_cons (pv 1) (pa_cons (pe_op op_sub (pv 2) pe_int) pa_nil)))) pa_nil))))) pss_nil)
    (pss_cons (ps_setLc (i := 4) (own := [("_law_k", 5)]) (g := gName 5) (tt := tYes) rfl nd rfl rfl (sw_true rfl rfl rfl (by decide +kernel)) (pi_range1 (by rfl) W.f_range (pa_cons (pe_cal O__law_take (hr.mono (by omega)) W.g__law_take pass0 (pa_cons (pv 0) (pa_cons pe_int pa_nil))) pa_nil)) (blkOk_by (own := [("_law_k", 5)]) (N := n_law_condition) (sc := defScope s_law_condition) (by decide +kernel)) (fun _ _ _ _ _ => pg_name (i := 5) nd rfl (Or.inl rfl)) (fun _ _ _ _ _ => pts_nil) (fun _ _ _ _ _ => (pe_cal O__law_condition (hr.mono (by omega)) W.g__law_condition pass0 (pa_cons (pv 0) (pa_cons (pv 1) (pa_cons (pe_op op_sub (pv 2) pe_int) pa_nil))))))
    (pss_one (ps_ret (pe_tup (pa_cons (pe_ix ix_list (pe_lst (pa_cons pe_str (pa_cons pe_str pa_nil))) (pe_op op_sub (pv 3) pe_int) (fun _ _ => rfl)) (pa_cons (pe_callTy call_tuple_of (by rfl) W.f_tuple (by decide +kernel) (pa_cons (pv 4) pa_nil)) pa_nil))))))))), ?_⟩
  obtain ⟨b, c, t, ns, rfl, hB, hN, hq⟩ := h
  refine ⟨_, rfl, b, c, 9, rfl, by decide, by decide, hB, fun way H1 hway e1 hB1 => ?_⟩
  have hN1 := hN.keep (hB.tup e1)
  dsimp only
  refine sif (way < 5 ∨ d = 0) (fun Q' hQ' => ?_) (fun hl H2 e2 => ?_) (fun hl H2 e2 => ?_)
  · refine ⟨_, rfl, _, _, rfl, rfl, _, rfl, ?_⟩
    by_cases h5 : way < 5
    · refine iteE true (decide_eq_true (by omega)) (iteT ?_)
      have := hQ' H1 (Same.refl _)
      rwa [decide_eq_true (.inl h5)] at this
    · refine iteE false (decide_eq_false (by omega)) (iteF ⟨_, rfl, _, _, rfl, rfl, _, rfl, ?_⟩)
      have e9 : decide (((d : Nat) : Int) < 1) = decide (way < 5 ∨ d = 0) := decide_eq_decide.mpr (by omega)
      have := hQ' H1 (Same.refl _)
      rw [← e9] at this
      exact this
  · -- a leaf
    have hB2 := hB1.keep e2
    have e12 : SameB b H H2 := e1.trans (.of e2)
    have hN2 := hN1.keep (.of e2)
    have hu2 : (A.deeper (envOfC d_law_condition.qual d_law_condition.scope s.heap.objs.size (fAd K d_law_condition.at_) cdv)).units + 10 < cLine := by omega
    refine sif (way = 0 ∨ ns = []) (fun Q' hQ' => ?_) (fun hl2 H3 e3 => ?_) (fun hl2 H3 e3 => ?_)
    · refine ⟨_, rfl, rfl, _, rfl, ?_⟩
      by_cases h5 : way = 0
      · refine iteE true (decide_eq_true (by rw [h5] <;> rfl)) (iteT ?_)
        have := hQ' H2 (Same.refl _)
        rwa [decide_eq_true (.inl h5)] at this
      · refine iteE false (decide_eq_false (fun z => h5 (by injection z with z; omega))) (iteF ⟨_, rfl, Nat.zero_le _, fun t0 ht0 => ?_⟩)
        refine names_eq (hN2.keep (.of (same_new ht0))) upd_same hu2 ⟨_, rfl, ?_⟩
        have e9 : ns.isEmpty = decide (way = 0 ∨ ns = []) := by
          cases ns with
          | nil => exact (decide_eq_true (.inr rfl)).symm
          | cons n ns => exact (decide_eq_false (by simp [h5])).symm
        have := hQ' _ (same_new (o := .tup []) ht0)
        rw [← e9] at this
        exact this
    · have hB3 := hB2.keep e3
      have e13 := e12.trans (.of e3)
      refine ⟨by show 1 ≤ sizeLine; decide, fun t1 ht1 => ⟨by show 1 ≤ sizeLine; decide, fun t2 ht2 => ⟨by show 2 ≤ sizeLine; decide, fun l hl => ?_⟩⟩⟩
      have s1 := same_new (o := .tup [V.str "yes"]) ht1
      have s2 := same_new (o := .tup [V.str "no"]) ht2
      have s3 := same_new (o := .lst [V.ref t1, V.ref t2]) hl
      have g1 := s3 _ _ (s2 _ _ (upd_same (H := H3) (a := t1) (o := .tup [V.str "yes"])))
      have g2 := s3 _ _ (upd_same (H := upd H3 t1 (.tup [V.str "yes"])) (a := t2) (o := .tup [V.str "no"]))
      have gl := upd_same (H := upd (upd H3 t1 (.tup [V.str "yes"])) t2 (.tup [V.str "no"])) (a := l) (o := .lst [V.ref t1, V.ref t2])
      have s123 := (s1.trans s2).trans s3
      have nlb : l ≠ b := ((((hB3.keep s1).keep s2)).ne hl).1
      have hB4 := hB3.keep s123
      generalize upd (upd (upd H3 t1 (.tup [V.str "yes"])) t2 (.tup [V.str "no"])) l (.lst [V.ref t1, V.ref t2]) = H4 at s123 g1 g2 gl hB4 ⊢
      refine ⟨_, rfl, b, c, 2, rfl, by decide, by decide, hB4, fun n H5 hn e5 hB5 => ?_⟩
      have tk := hB4.tup e5
      have e15 := e13.trans ((SameB.of s123).trans e5)
      have n2 : n = 0 ∨ n = 1 := by omega
      rcases n2 with rfl | rfl
      · refine ⟨l, _, _, _, rfl, rfl, sql (e5 _ _ gl nlb), at0, hq _ (.word true) H5 e15 hB5 ⟨?_, trivial, Nat.zero_le _, Nat.le_trans (show (M.yq true).length ≤ 9 by decide) (cL_pos d)⟩⟩
        unfold CAt
        exact ⟨t1, rfl, by rw [tk _ _ g1, sq "yes"]; rfl⟩
      · refine ⟨l, _, _, _, rfl, rfl, sql (e5 _ _ gl nlb), at1, hq _ (.word false) H5 e15 hB5 ⟨?_, trivial, Nat.zero_le _, Nat.le_trans (show (M.yq false).length ≤ 9 by decide) (cL_pos d)⟩⟩
        unfold CAt
        exact ⟨t2, rfl, by rw [tk _ _ g2, sq "no"]; rfl⟩
    · have hB3 := hB2.keep e3
      have hN3 := hN2.keep (.of e3)
      have e13 := e12.trans (.of e3)
      refine ⟨_, rfl, _, rfl, one_name (E := L2.E0) hB3 hN3 (fun z => hl2 (.inr z)) fun n hn H4 e4 hB4 => ⟨by show 2 ≤ sizeLine; decide, fun a ha => ?_⟩⟩
      refine hq _ (.ask n) _ ((e13.trans e4).new ha) (hB4.keep (same_new ha)) ⟨?_, hn, ?_, ?_⟩
      · unfold CAt
        exact ⟨a, rfl, by rw [upd_same, sq "ask"]⟩
      · show M.om (M.q "?" ++ n) ≤ _
        rw [M.om_app, nm_om hn.all, show M.om (M.q "?") = 0 from by decide]
        omega
      · show (M.q "?" ++ n).length ≤ _
        rw [List.length_append, show (M.q "?").length = 1 from by decide]
        have := hn.most
        have := cL_pos d
        omega
  · obtain ⟨d', rfl⟩ : ∃ d', d = d' + 1 := ⟨d - 1, by omega⟩
    have hway5 : 5 ≤ way := by omega
    have hB2 := hB1.keep e2
    have e12 : SameB b H H2 := e1.trans (.of e2)
    have hN2 := hN1.keep (.of e2)
    have ed : (((d' + 1 : Nat) : Int) - 1) = ((d' : Nat) : Int) := by omega
    have args : ∀ x y : V, [x, y, V.int (((d' + 1 : Nat) : Int) - 1)] = [x, y, V.int (d' : Nat)] := fun x y => by rw [ed]
    refine sif (way < 7) (fun Q' hQ' => ?_) (fun h7 H3 e3 => ?_) (fun h7 H3 e3 => ?_)
    · refine ⟨_, rfl, _, _, rfl, rfl, _, rfl, ?_⟩
      have := hQ' H2 (Same.refl _)
      rwa [show decide (way < 7) = decide (((way : Nat) : Int) < 7) from decide_eq_decide.mpr (by omega)] at this
    · have hB3 := hB2.keep e3
      refine ⟨_, rfl, _, rfl, _, rfl, _, _, rfl, rfl, d', rfl, b, c, t, ns, args _ _, hB3, hN2.keep (.of e3), fun v x H4 e4 hB4 hx => ⟨by show 2 ≤ sizeLine; decide, fun a ha => ?_⟩⟩
      obtain ⟨x1, x2, x3, x4⟩ := hx
      refine hq _ (.neg x) _ (((e12.trans (.of e3)).trans e4).new ha) (hB4.keep (same_new ha)) ⟨?_, x2, ?_, ?_⟩
      · unfold CAt
        exact ⟨a, v, rfl, by rw [upd_same, sq "not"], x1.keep (.of (same_new ha))⟩
      · show M.om (M.q "not" ++ (M.q "(" ++ (x.sh ++ M.q ")"))) ≤ 3 * cO d' + 5
        rw [M.om_app, M.om_app, M.om_app, show M.om (M.q "not") = 0 from by decide, show M.om (M.q "(") = 3 from by decide, show M.om (M.q ")") = 0 from by decide]
        omega
      · show (M.q "not" ++ (M.q "(" ++ (x.sh ++ M.q ")"))).length ≤ 3 * cL d' + 9
        simp only [List.length_append, show (M.q "not").length = 3 from by decide, show (M.q "(").length = 1 from by decide, show (M.q ")").length = 1 from by decide]
        omega
    · have hB3 := hB2.keep e3
      refine ⟨_, rfl, b, c, 4, rfl, by decide, by decide, hB3, fun m H4 hm e4 hB4 => ?_⟩
      have e14 : SameB b H H4 := (e12.trans (.of e3)).trans e4
      have hN4 := (hN2.keep (.of e3)).keep (hB3.tup e4)
      have mb : (((m : Nat) : Int)).toNat = m := by omega
      have mb1 : -(2 ^ 62) ≤ ((m : Nat) : Int) := Int.le_trans (by decide) (show (0 : Int) ≤ (m : Int) by omega)
      have mb2 : ((m : Nat) : Int) < 2 ^ 62 := Int.lt_of_le_of_lt (show ((m : Nat) : Int) ≤ 4 by omega) (by decide)
      refine ⟨_, rfl, mb1, mb2, fun D hD => ?_⟩
      rw [mb]
      obtain ⟨nDb, nDc⟩ := hB4.ne hD
      have nDt : D ≠ t := (ne_of_none hN4.1 hD).symm
      refine HL.lcRR (n := m) (X := XB b) (I := fun H => Bag H b c) (R := CD d') hD (fun l => nDb) (hB4.keep (same_new hD)) (fun H l h _ l' => h.put nDb nDc) (small (by omega)) (fun v x H H' r e h => ⟨r.1.keep (h.tup e), r.2⟩)
        (fun v x H l l' r h => ⟨r.1.keep ((TupK.refl H).mut h (fun xs q => nomatch q)), r.2⟩) (fun k1 H5 Q5 hk1 e5 hB5 hq5 => ?_) fun H5 vs5 cs5 e5 hB5 hD5 hlen5 hA5 => ?_
      · refine ⟨_, rfl, _, rfl, _, rfl, _, _, rfl, rfl, d', rfl, b, c, t, ns, args _ _, hB5, hN4.keep (hB4.tup e5), fun v x H6 e6 hB6 hx => hq5 v x H6 e6 hB6 hx⟩
      · have e15 : SameB b H H5 := e14.trans e5
        have hL5 := hA5.length
        have n2 : way = 7 ∨ way = 8 := by omega
        refine ⟨by show 2 ≤ sizeLine; decide, fun l hl => ⟨_, rfl, _, _, rfl, rfl, ?_⟩⟩
        have sl := same_new (o := .lst [V.str "all", V.str "any"]) hl
        have hD6 := sl _ _ hD5
        have fin : ∀ bb : Bool, ∀ u, upd H5 l (.lst [V.str "all", V.str "any"]) u = none → ∀ a, upd (upd H5 l (.lst [V.str "all", V.str "any"])) u (.tup vs5) a = none → Q (.ref a) (upd (upd (upd H5 l (.lst [V.str "all", V.str "any"])) u (.tup vs5)) a (.tup [.str (S (M.nq bb)), .ref u])) := by
          intro bb u hu a ha
          have su := same_new (o := .tup vs5) hu
          have sa := same_new (o := .tup [.str (S (M.nq bb)), .ref u]) ha
          have sall := (sl.trans su).trans sa
          have hsh : ∀ f : List Nat → Nat, ∀ k, (∀ v x H, CD d' v x H → f x.sh ≤ k) → ∀ y ∈ M.shC cs5, f y ≤ k := by
            intro f k hf y hy
            rw [M.shC_map] at hy
            obtain ⟨x, hx, rfl⟩ := List.mem_map.mp hy
            obtain ⟨i, hi⟩ := List.getElem?_of_mem hx
            obtain ⟨v, _, r⟩ := hA5.getR hi
            exact hf v x _ r
          have hl3 : (M.shC cs5).length ≤ 3 := by
            rw [M.shC_map, List.length_map]
            omega
          refine hq _ (.many bb cs5) _ (e15.trans (.of sall)) (hB5.keep sall) ⟨?_, ?_, ?_, ?_⟩
          · unfold CAt
            refine ⟨a, u, vs5, rfl, upd_same, sa _ _ upd_same, cAtL_iff.mpr (hA5.imp fun v x r => r.1.keep (.of sall))⟩
          · show M.wfC cs5
            rw [M.wfC_iff]
            intro x hx
            obtain ⟨i, hi⟩ := List.getElem?_of_mem hx
            obtain ⟨v, _, r⟩ := hA5.getR hi
            exact r.2.1
          · show M.om (M.nq bb ++ (M.q "(" ++ (TL.joinL (M.q ", ") (M.shC cs5) ++ M.q ")"))) ≤ 3 * cO d' + 5
            have h1 := join_om (b := M.q ", ") (k := cO d') (hsh M.om _ fun v x H r => r.2.2.1) hl3
            rw [M.om_app, M.om_app, M.om_app, show M.om (M.nq bb) = 0 from by cases bb <;> decide, show M.om (M.q "(") = 3 from by decide, show M.om (M.q ")") = 0 from by decide]
            rw [show M.om (M.q ", ") = 1 from by decide] at h1
            omega
          · show (M.nq bb ++ (M.q "(" ++ (TL.joinL (M.q ", ") (M.shC cs5) ++ M.q ")"))).length ≤ 3 * cL d' + 9
            have h1 := join_le (b := M.q ", ") (k := cL d') (hsh List.length _ fun v x H r => r.2.2.2) hl3
            simp only [List.length_append, show (M.nq bb).length = 3 from by cases bb <;> decide, show (M.q "(").length = 1 from by decide, show (M.q ")").length = 1 from by decide]
            rw [show (M.q ", ").length = 2 from by decide] at h1
            omega
        rcases n2 with rfl | rfl
        · refine ⟨l, _, _, _, rfl, rfl, sql upd_same, at0, _, rfl, D, vs5, rfl, .inl ⟨sql hD6, fun u hu => ⟨by show 2 ≤ sizeLine; decide, fun a ha => ?_⟩⟩⟩
          have := fin true u hu a ha
          rw [show M.nq true = M.q "all" from rfl, ← sq "all"] at this
          exact this
        · refine ⟨l, _, _, _, rfl, rfl, sql upd_same, at1, _, rfl, D, vs5, rfl, .inl ⟨sql hD6, fun u hu => ⟨by show 2 ≤ sizeLine; decide, fun a ha => ?_⟩⟩⟩
          have := fin false u hu a ha
          rw [show M.nq false = M.q "any" from rfl, ← sq "any"] at this
          exact this
end
end K92
end

section
set_option Elab.async false
set_option linter.all false
set_option maxRecDepth 100000
set_option maxHeartbeats 4000000
/-! k92: the law's texts of conditions. -/
namespace K92
open PySem PySem.Spec PyProof.Rows L2 He HL
section
variable {w : World} {K : PySem.W.Frag} {mg : Str → Option Value} {base : Heap}
abbrev n_law_condition_text : List Str := ["_law_condition_here", "_law_some", "_law_one_here"]
theorem sc_law_condition_text : FnScope n_law_condition_text ["_law_condition_here"] (defScope s_law_condition_text) := ⟨rfl, rfl, rfl, by decide +kernel, rfl, by decide +kernel, by decide +kernel⟩
theorem bi_law_condition_text : ∀ (kV doc pm : Value) (an : Option Addr) (cdv ct : Value) (us : List Value), us.length = 1 → bindArgs (PySem.W.fnOf d_law_condition_text.name d_law_condition_text.qual d_law_condition_text.params d_law_condition_text.body d_law_condition_text.scope .none kV doc pm an cdv ct) ⟨us, []⟩ = pure ([("_law_condition_here" : Str)].zip us) := fun kV doc pm an cdv ct us hu => by
  match us, hu with
  | [u0], _ => rfl
def spCText (n : Nat) : Sp := fun vs H Q _ => ∃ v c, vs = [v] ∧ CAt H c v ∧ M.om c.sh < n ∧ c.sh.length ≤ 1000000 ∧ ∀ H', Same H H' → Q (.str (S c.sh)) H'
theorem o_ctext (W : Wl K mg) : ∀ (n L : Nat), (n = 0 → 1 ≤ L) → (0 < n → n + 1 ≤ L) → OkD w K mg base CX0 L d_law_condition_text ["_law_condition_here"] (spCText n) := by
  intro n
  induction n with
  | zero =>
    intro L h0 h1
    obtain ⟨k, rfl⟩ : ∃ k, L = k + 1 := ⟨L - 1, by have := h0 rfl; omega⟩
    exact o_vac W.D_law_condition_text sc_law_condition_text bi_law_condition_text fun vs H Q E ⟨v, c, _, _, z, _⟩ => by omega
  | succ n ih =>
  intro L h0 h1
  obtain ⟨k, rfl⟩ : ∃ k, L = k + 1 := ⟨L - 1, by have := h1 (by omega); omega⟩
  have hk : n + 1 ≤ k := by have := h1 (by omega); omega
  have O__law_condition_text := ih k (fun _ => by omega) (fun _ => by omega)
  refine HL.ok_of0 W.D_law_condition_text sc_law_condition_text (fun vs H Q E ⟨_, _, h, _⟩ => by rw [h]; rfl) bi_law_condition_text fun cdv A outer s H vs Q E hr h => ?_
  have nd := sc_law_condition_text.nd
  refine ⟨_, (pss_cons (ps_if (pt_cmpR op_in_seq (pe_ix ix_tup (pv 0) pe_int (fun _ _ => rfl)) (pe_tup (pa_cons pe_str (pa_cons pe_str pa_nil))) (by rfl)) (pss_one (ps_ret (pe_ix ix_tup (pv 0) pe_int (fun _ _ => rfl)))) pss_nil)
    (pss_cons (ps_if (pt_cmpR op_eq (pe_ix ix_tup (pv 0) pe_int (fun _ _ => rfl)) pe_str (nomark _)) (pss_one (ps_ret (pe_op op_add_str pe_str (pe_ix ix_tup (pv 0) pe_int (fun _ _ => rfl))))) pss_nil)
    (pss_cons (ps_set (i := 1) nd rfl (Or.inl rfl) (pe_ifExp (pt_cmpR op_eq (pe_ix ix_tup (pv 0) pe_int (fun _ _ => rfl)) pe_str (nomark _)) (pe_lst (pa_cons (pe_ix ix_tup (pv 0) pe_int (fun _ _ => rfl)) pa_nil)) (pe_callTy call_list_of (by rfl) W.f_list (by decide +kernel) (pa_cons (pe_ix ix_tup (pv 0) pe_int (fun _ _ => rfl)) pa_nil))))
    (pss_one (ps_ret (pe_op op_add_str (pe_op op_add_str (pe_op op_add_str (pe_ix ix_tup (pv 0) pe_int (fun _ _ => rfl)) pe_str) (pe_join pe_str (pe_lc (own := [("_law_one_here", 2)]) (g := gName 2) (tt := tYes) (by rfl) nd (pi_list (pv 1)) (blkOk_by (own := [("_law_one_here", 2)]) (N := n_law_condition_text) (sc := defScope s_law_condition_text) (by decide +kernel)) (fun _ _ _ _ _ => pg_name (i := 2) nd rfl (Or.inl rfl)) (fun _ _ _ _ _ => pts_nil) (fun _ _ _ _ _ => (pe_cal O__law_condition_text (hr.mono (by omega)) W.g__law_condition_text pass0 (pa_cons (pv 2) pa_nil)))))) pe_str)))))), ?_⟩
  obtain ⟨v, c, rfl, hc, hom, hlen, hq⟩ := h
  have step : (∃ b, c = .word b) ∨ (∃ x, c = .ask x) ∨ ∃ a w0 x, v = .ref a ∧ H a = some (.tup [.str (S w0), x]) ∧ (["yes", "no"].any fun s => decide (w0 = M.q s)) = false ∧ w0 ≠ M.q "ask" ∧
      ((w0 = M.q "not" ∧ ∃ c1, CAt H c1 x ∧ c.sh = w0 ++ (M.q "(" ++ (TL.joinL (M.q ", ") (M.shC [c1]) ++ M.q ")"))) ∨ (w0 ≠ M.q "not" ∧ ∃ t us cs, x = .ref t ∧ H t = some (.tup us) ∧ All2 (fun v c => CAt H c v) us cs ∧ c.sh = w0 ++ (M.q "(" ++ (TL.joinL (M.q ", ") (M.shC cs) ++ M.q ")")))) := by
    cases c with
    | word b => exact .inl ⟨b, rfl⟩
    | ask x => exact .inr (.inl ⟨x, rfl⟩)
    | neg c1 =>
      unfold CAt at hc
      obtain ⟨a, u, rfl, ha, hu⟩ := hc
      exact .inr (.inr ⟨a, _, u, rfl, ha, by decide, by decide, .inl ⟨rfl, c1, hu, rfl⟩⟩)
    | many b cs =>
      unfold CAt at hc
      obtain ⟨a, t, us, rfl, ha, ht, hu⟩ := hc
      exact .inr (.inr ⟨a, _, _, rfl, ha, by cases b <;> decide, by cases b <;> decide, .inr ⟨by cases b <;> decide, t, us, cs, rfl, ht, cAtL_iff.mp hu, rfl⟩⟩)
  rcases step with ⟨b, rfl⟩ | ⟨x, rfl⟩ | ⟨a, w0, x, rfl, ha, hyn, hask, hx⟩
  · unfold CAt at hc
    obtain ⟨a, rfl, ha⟩ := hc
    refine ⟨_, rfl, a, _, _, _, rfl, rfl, sqt ha, at0, by show 2 ≤ sizeLine; decide, fun t ht => in_words ["yes", "no"] upd_same ⟨_, rfl, ?_⟩⟩
    rw [yq_in]
    exact iteT ⟨_, rfl, a, _, _, _, rfl, rfl, sqt (same_new ht _ _ ha), at0, hq _ (same_new ht)⟩
  · unfold CAt at hc
    obtain ⟨a, rfl, ha⟩ := hc
    refine ⟨_, rfl, a, _, _, _, rfl, rfl, sqt ha, at0, by show 2 ≤ sizeLine; decide, fun t ht => in_words ["yes", "no"] upd_same ⟨_, rfl, ?_⟩⟩
    have ha1 := same_new (o := .tup [V.str "yes", V.str "no"]) ht _ _ ha
    rw [show (["yes", "no"].any fun s => decide (M.q "ask" = M.q s)) = false by decide]
    refine iteF ⟨_, rfl, a, _, _, _, rfl, rfl, sqt ha1, at0, rfl, ?_⟩
    rw [sq "ask", dec_S, decide_eq_true (show M.q "ask" = M.q "ask" from rfl)]
    refine ⟨_, rfl, iteT ⟨_, rfl, a, _, _, _, rfl, rfl, sqt ha1, at1, _, _, rfl, rfl, ?_, ?_⟩⟩
    · rw [ofq, S_len, S_len]
      refine small ?_
      simp only [M.Cond.sh, List.length_append] at hlen
      exact hlen
    · rw [cat_q]
      exact hq _ (same_new ht)
  · refine ⟨_, rfl, a, _, _, _, rfl, rfl, sqt ha, at0, by show 2 ≤ sizeLine; decide, fun t ht => in_words ["yes", "no"] upd_same ⟨_, rfl, ?_⟩⟩
    have s1 : Same H (upd H t (.tup [V.str "yes", V.str "no"])) := same_new ht
    generalize upd H t (.tup [V.str "yes", V.str "no"]) = H1 at s1 ⊢
    have ha1 := s1 _ _ ha
    rw [hyn]
    refine iteF ⟨_, rfl, a, _, _, _, rfl, rfl, sqt ha1, at0, rfl, ?_⟩
    rw [sq "ask", dec_S, decide_eq_false hask]
    refine ⟨_, rfl, iteF ?_⟩
    delta tNext
    dsimp only
    refine sasg_cont (R := fun v1 H2 => ∃ l us cs, v1 = .ref l ∧ Same H1 H2 ∧ H2 l = some (.lst us) ∧ All2 (fun v c => CAt H2 c v) us cs ∧ c.sh = w0 ++ (M.q "(" ++ (TL.joinL (M.q ", ") (M.shC cs) ++ M.q ")"))) ?_ ?_
    · intro Q' hQ'
      refine ⟨_, rfl, a, _, _, _, rfl, rfl, sqt ha1, at0, rfl, ?_⟩
      rw [sq "not", dec_S]
      refine ⟨_, rfl, ?_⟩
      rcases hx with ⟨hw, c1, hc1, hsh⟩ | ⟨hw, t1, us, cs, rfl, ht1, hA, hsh⟩
      · rw [decide_eq_true hw]
        refine iteT ⟨_, rfl, a, _, _, _, rfl, rfl, sqt ha1, at1, by show 1 ≤ sizeLine; decide, fun l hl => hQ' _ _ ⟨l, [x], [c1], rfl, same_new hl, upd_same, ⟨(hc1.keep (.of s1)).keep (.of (same_new hl)), trivial⟩, hsh⟩⟩
      · rw [decide_eq_false hw]
        refine iteF ⟨_, rfl, a, _, _, _, rfl, rfl, sqt ha1, at1, t1, us, rfl, .inr (sqt (s1 _ _ ht1)), fun l hl => hQ' _ _ ⟨l, us, cs, rfl, same_new hl, upd_same, hA.imp fun v c z => (z.keep (.of s1)).keep (.of (same_new hl)), hsh⟩⟩
    · rintro v1 H2 ⟨l, us, cs, rfl, s2, hl, hA, hsh⟩
      have hsz : w0.length + (1 + ((TL.joinL (M.q ", ") (M.shC cs)).length + 1)) ≤ 1000000 := by
        rw [hsh] at hlen
        simpa [show (M.q "(").length = 1 from by decide, show (M.q ")").length = 1 from by decide] using hlen
      have hL := hA.length
      have hus : us.length ≤ 1000000 := by
        have := joinL_len (M.q ", ") (M.shC cs)
        rw [M.shC_map, List.length_map, show (M.q ", ").length = 2 from by decide, ← M.shC_map] at this
        omega
      refine ⟨_, rfl, a, _, _, _, rfl, rfl, sqt (s2 _ _ ha1), at0, _, _, rfl, rfl, ?_, ⟨_, rfl⟩, _, rfl, l, rfl, ⟨us, sql hl⟩, fun D hD => ?_⟩
      · rw [ofq, S_len, S_len]
        refine small ?_
        show w0.length + 1 ≤ _
        omega
      · refine HL.lcL (xs := us) (out := (M.shC cs).map fun y => V.str (S y)) hD (sql hl) (by rw [M.shC_map, List.length_map, List.length_map, hL]) (small hus) (fun k1 x1 y H3 Q3 hx1 hy e3 _ hq3 => ?_) fun H3 e3 hD3 => ?_
        · obtain ⟨c1, hc1, hAt1⟩ := hA.get hx1
          have hmem : c1 ∈ cs := List.mem_of_getElem? hc1
          have hsm : c1.sh ∈ M.shC cs := by
            rw [M.shC_map]
            exact List.mem_map.mpr ⟨c1, hmem, rfl⟩
          have hy : y = V.str (S c1.sh) := by
            rw [M.shC_map, List.getElem?_map, List.getElem?_map, hc1] at hy
            exact (Option.some.inj hy).symm
          subst hy
          refine ⟨_, rfl, x1, c1, rfl, hAt1.keep (.of e3), ?_, ?_, hq3⟩
          · have h5 := om_j (b := M.q ", ") hsm
            have h6 : M.om (TL.joinL (M.q ", ") (M.shC cs)) + 3 ≤ M.om c.sh := by
              rw [hsh, M.om_app, M.om_app, M.om_app, show M.om (M.q "(") = 3 from by decide]
              omega
            omega
          · have h5 := len_j (b := M.q ", ") hsm
            omega
        · have hj : Txt.join (Str.ofString ", ") ((M.shC cs).map S) = S (TL.joinL (M.q ", ") (M.shC cs)) := by
            rw [ofq]
            exact SX.join_S _ _
          refine ⟨_, D, (M.shC cs).map S, rfl, rfl, .inl (sql (by rw [hD3, List.map_map] <;> rfl)), ?_, ?_⟩
          · have h5 := joinL_len (M.q ", ") (M.shC cs)
            have h6 : (Str.ofString ", ").length = 2 := by rw [ofq, S_len]; rfl
            have h7 : (M.q ", ").length = 2 := by decide
            rw [List.map_map, List.length_map, h6, show (((fun x : Str => x.length) ∘ S) : List Nat → Nat) = fun x => x.length from funext fun x => S_len x]
            rw [h7] at h5
            omega
          · rw [hj]
            refine ⟨_, _, rfl, rfl, ?_, ?_⟩
            · rw [ofq, S_cat, S_len, S_len]
              refine small ?_
              rw [List.length_append]
              show w0.length + 1 + _ ≤ _
              omega
            · refine ⟨_, _, rfl, rfl, ?_, ?_⟩
              · rw [ofq, ofq, S_cat, S_cat, S_len, S_len]
                refine small ?_
                rw [List.length_append, List.length_append]
                show w0.length + 1 + _ + 1 ≤ _
                omega
              · rw [ofq, ofq, S_cat, S_cat, S_cat]
                have := hq H3 ((s1.trans s2).trans e3)
                rw [hsh] at this
                simpa [M.q, List.append_assoc] using this
end
end K92
end

section
set_option Elab.async false
set_option linter.all false
set_option maxRecDepth 100000
set_option maxHeartbeats 8000000
/-! k92: the law's reader of parts, whole texts. -/
namespace K92
open PySem PySem.Spec PyProof.Rows L2 He HL
section
variable {w : World} {K : PySem.W.Frag} {mg : Str → Option Value} {base : Heap}
abbrev n_law_whole : List Str := ["_law_text_here", "_law_found"]
theorem sc_law_whole : FnScope n_law_whole ["_law_text_here", "_law_found"] (defScope s_law_whole) := ⟨rfl, rfl, rfl, by decide +kernel, rfl, by decide +kernel, by decide +kernel⟩
theorem bi_law_whole : ∀ (kV doc pm : Value) (an : Option Addr) (cdv ct : Value) (us : List Value), us.length = 2 → bindArgs (PySem.W.fnOf d_law_whole.name d_law_whole.qual d_law_whole.params d_law_whole.body d_law_whole.scope .none kV doc pm an cdv ct) ⟨us, []⟩ = pure ([("_law_text_here" : Str), ("_law_found" : Str)].zip us) := fun kV doc pm an cdv ct us hu => by
  match us, hu with
  | [u0, u1], _ => rfl
/-- ('told', x) or ('none', None) -/
def spWhole : Sp := fun vs H Q _ => ∃ t x, vs = [.str (S t), x] ∧ t.length ≤ 1000000 ∧
  ((x = .non ∧ ∀ p, H p = none → Q (.ref p) (upd H p (.tup [.str "none", .non]))) ∨
    ∃ u v j r, x = .ref u ∧ H u = some (.tup [v, .int (j : Nat)]) ∧ Ps t j r ∧ (r = [] → ∀ p, H p = none → Q (.ref p) (upd H p (.tup [.str "told", v]))) ∧ (r ≠ [] → ∀ p, H p = none → Q (.ref p) (upd H p (.tup [.str "none", .non]))))
theorem o_whole (W : Wl K mg) : OkD w K mg base CX0 1 d_law_whole ["_law_text_here", "_law_found"] spWhole := by
  refine HL.ok_of0 W.D_law_whole sc_law_whole (fun vs H Q E ⟨_, _, h, _⟩ => by rw [h]; rfl) bi_law_whole fun cdv A outer s H vs Q E hr h => ?_
  have nd := sc_law_whole.nd
  refine ⟨_, (pss_one (ps_ret (pe_ifExp (PW.pt (pw_and (pt_cmpR op_notN (pv 1) pe_non (nomark _)) (pw_and1 (pt_cmpR op_eq (pe_ix ix_tup (pv 1) pe_int (fun _ _ => rfl)) (pe_callB call_len_str (by rfl) W.f_len (by decide +kernel) (pa_cons (pv 0) pa_nil)) (nomark _))))) (pe_tup (pa_cons pe_str (pa_cons (pe_ix ix_tup (pv 1) pe_int (fun _ _ => rfl)) pa_nil))) (pe_tup (pa_cons pe_str (pa_cons pe_non pa_nil)))))), ?_⟩
  obtain ⟨t, x, rfl, hs, ⟨rfl, hq⟩ | ⟨u, v, j, r, rfl, hu, hP, hT, hF⟩⟩ := h
  · exact ⟨_, rfl, rfl, _, rfl, iteE false rfl (iteF ⟨by show 2 ≤ sizeLine; decide, fun p hp => hq p hp⟩)⟩
  · have tl : (S t).length ≤ sizeLine := by rw [S_len]; exact small hs
    refine ⟨_, rfl, rfl, _, rfl, iteE true (by rw [ref_non] <;> rfl) (iteT ⟨_, rfl, u, _, _, _, rfl, rfl, sqt hu, at1, _, rfl, _, rfl, tl, rfl, _, rfl, ?_⟩)⟩
    by_cases hr : r = []
    · have hj := hP.all.mpr hr
      refine iteE true (decide_eq_true (by rw [S_len, hj])) (iteT ⟨_, rfl, u, _, _, _, rfl, rfl, sqt hu, at0, by show 2 ≤ sizeLine; decide, fun p hp => hT hr p hp⟩)
    · have hj : j ≠ t.length := fun z => hr (hP.all.mp z)
      refine iteE false (decide_eq_false (fun z => hj (by injection z with z; rw [S_len] at z; omega))) (iteF ⟨by show 2 ≤ sizeLine; decide, fun p hp => hF hr p hp⟩)
end
end K92
end

section
set_option Elab.async false
set_option linter.all false
set_option maxRecDepth 100000
set_option maxHeartbeats 4000000
/-! k92: the parts drawn. -/
namespace K92
open PySem PySem.Spec PyProof.Rows L2 He HL
theorem joinN {f : List Nat → Nat} (hf0 : f [] = 0) (hf : ∀ a b, f (a ++ b) = f a + f b) {b : List Nat} {k : Nat} : ∀ {ys : List (List Nat)}, (∀ y ∈ ys, f y ≤ k) → f (TL.joinL b ys) ≤ ys.length * (k + f b)
  | [], _ => by simp [TL.joinL, hf0]
  | [x], h => by
    have := h x (by simp)
    simp only [TL.joinL, List.length_cons, List.length_nil]
    omega
  | x :: y :: r, h => by
    have h1 := h x (by simp)
    have ih := joinN hf0 hf (b := b) (k := k) (ys := y :: r) fun z hz => h z (by simp [List.mem_cons.mp hz])
    have e : TL.joinL b (x :: y :: r) = x ++ (b ++ TL.joinL b (y :: r)) := rfl
    rw [e, hf, hf, List.length_cons, Nat.succ_mul]
    omega
theorem num_small : ∀ k, k < 200 → (TL.numL k).length ≤ 3 ∧ M.om (TL.numL k) = 0 := by decide +kernel
end K92
end

section
set_option Elab.async false
set_option linter.all false
set_option maxRecDepth 100000
set_option maxHeartbeats 4000000
/-! k92: the texts drawn and spoilt. -/
namespace K92
open PySem PySem.Spec PyProof.Rows L2 He HL
section
variable {w : World} {K : PySem.W.Frag} {mg : Str → Option Value} {base : Heap}
theorem PAt.isTup {H : Hp} {p : M.Part} {v : V} (h : PAt H p v) : ∃ a xs, v = .ref a ∧ H a = some (.tup xs) := by
  cases p with
  | back => unfold PAt at h; obtain ⟨a, r, h⟩ := h; exact ⟨a, _, r, h⟩
  | leave k => unfold PAt at h; obtain ⟨a, r, h⟩ := h; exact ⟨a, _, r, h⟩
  | step n => unfold PAt at h; obtain ⟨a, r, h⟩ := h; exact ⟨a, _, r, h⟩
  | call n => unfold PAt at h; obtain ⟨a, r, h⟩ := h; exact ⟨a, _, r, h⟩
  | row ps => unfold PAt at h; obtain ⟨a, t, us, r, h, _⟩ := h; exact ⟨a, _, r, h⟩
  | whil c p => unfold PAt at h; obtain ⟨a, u, x, r, h, _⟩ := h; exact ⟨a, _, r, h⟩
  | ite c p q => unfold PAt at h; obtain ⟨a, u, x, y, r, h, _⟩ := h; exact ⟨a, _, r, h⟩
theorem CAt.isTup {H : Hp} {p : M.Cond} {v : V} (h : CAt H p v) : ∃ a xs, v = .ref a ∧ H a = some (.tup xs) := by
  cases p with
  | word b => unfold CAt at h; obtain ⟨a, r, h⟩ := h; exact ⟨a, _, r, h⟩
  | ask n => unfold CAt at h; obtain ⟨a, r, h⟩ := h; exact ⟨a, _, r, h⟩
  | neg c => unfold CAt at h; obtain ⟨a, u, r, h, _⟩ := h; exact ⟨a, _, r, h⟩
  | many b cs => unfold CAt at h; obtain ⟨a, t, us, r, h, _⟩ := h; exact ⟨a, _, r, h⟩
/-- no text, and none later -/
def NoTx (H : Hp) (b : Addr) (v : V) : Prop := v = .non ∨ (∃ i, v = .int i) ∨ (∃ a xs, v = .ref a ∧ H a = some (.tup xs)) ∨ ∃ a xs, v = .ref a ∧ H a = some (.lst xs) ∧ a ≠ b
theorem NoTx.no {H : Hp} {b : Addr} {v : V} (h : NoTx H b v) : NoStr K H v := by
  rcases h with rfl | ⟨i, rfl⟩ | ⟨a, xs, rfl, h⟩ | ⟨a, xs, rfl, h, _⟩
  · exact ⟨_, .base .non, kit_ty (by decide +kernel)⟩
  · exact ⟨_, .base (.int i), kit_ty (by decide +kernel)⟩
  · exact ⟨_, ty_tup h, kit_ty (by decide +kernel)⟩
  · exact ⟨_, .base (.lst h), kit_ty (by decide +kernel)⟩
theorem NoTx.keepB {H H' : Hp} {b c : Addr} {v : V} (h : NoTx H b v) (hB : Bag H b c) (e : SameB b H H') : NoTx H' b v := by
  rcases h with rfl | ⟨i, rfl⟩ | ⟨a, xs, rfl, h⟩ | ⟨a, xs, rfl, h, n⟩
  · exact .inl rfl
  · exact .inr (.inl ⟨i, rfl⟩)
  · exact .inr (.inr (.inl ⟨a, xs, rfl, hB.tup e _ _ h⟩))
  · exact .inr (.inr (.inr ⟨a, xs, rfl, e _ _ h n, n⟩))
/-- a text to read, or none -/
def Tx (H : Hp) (b : Addr) (v : V) : Prop := (∃ s, v = .str (S s) ∧ s.length ≤ 1000 ∧ M.om s ≤ 130 ∧ s.count 43 ≤ 60) ∨ NoTx H b v
abbrev n_law_spoilt : List Str := ["_law_bag_here", "_law_text_here", "_law_at", "_law_way", "_law_words", "_law_size"]
theorem sc_law_spoilt : FnScope n_law_spoilt ["_law_bag_here", "_law_text_here"] (defScope s_law_spoilt) := ⟨rfl, rfl, rfl, by decide +kernel, rfl, by decide +kernel, by decide +kernel⟩
theorem bi_law_spoilt : ∀ (kV doc pm : Value) (an : Option Addr) (cdv ct : Value) (us : List Value), us.length = 2 → bindArgs (PySem.W.fnOf d_law_spoilt.name d_law_spoilt.qual d_law_spoilt.params d_law_spoilt.body d_law_spoilt.scope .none kV doc pm an cdv ct) ⟨us, []⟩ = pure ([("_law_bag_here" : Str), ("_law_text_here" : Str)].zip us) := fun kV doc pm an cdv ct us hu => by
  match us, hu with
  | [u0, u1], _ => rfl
def wordsS : List String := [" ", "(", ")", "[", "]", ", ", "; ", ": ", "?", "yes", "no", "not(", "all()", "do a", "call ", "back", "+", "leave 1", "leave 0", "leave 01", "0", "1", "if yes then ", " else back", "while no: ", "> ", "A", "a", ".", ":", "-", "\n", "[]", "always ", "makes a "]
theorem wordsS_ok : ∀ s ∈ wordsS, (M.q s).length ≤ 20 ∧ M.om (M.q s) ≤ 3 ∧ (M.q s).count 43 ≤ 1 := by
  have h : (wordsS.all fun s => decide ((M.q s).length ≤ 20) && (decide (M.om (M.q s) ≤ 3) && decide ((M.q s).count 43 ≤ 1))) = true := by decide +kernel
  intro s hs
  have := List.all_eq_true.mp h s hs
  simpa using this
def spSpoilt : Sp := fun vs H Q _ => ∃ b c s, vs = [.ref b, .str (S s)] ∧ Bag H b c ∧ s.length ≤ 10000 ∧ ∀ s' H', SameB b H H' → Bag H' b c → s'.length ≤ s.length + 20 → M.om s' ≤ M.om s + 3 → s'.count 43 ≤ s.count 43 + 1 → Q (.str (S s')) H'
theorem o_spoilt (W : Wl K mg) : OkD w K mg base CX0 3 d_law_spoilt ["_law_bag_here", "_law_text_here"] spSpoilt := by
  have O__law_take := o_take (w := w) (base := base) W
  have O__law_one := o_one (w := w) (base := base) W
  refine HL.ok_of0 W.D_law_spoilt sc_law_spoilt (fun vs H Q E ⟨_, _, _, h, _⟩ => by rw [h]; rfl) bi_law_spoilt fun cdv A outer s H vs Q E hr h => ?_
  have nd := sc_law_spoilt.nd
  refine ⟨_, (pss_cons (ps_par (i := 2) (j := 3) (by rfl) nd rfl rfl (by decide) rfl rfl (pa_cons (pe_cal O__law_take (hr.mono (by omega)) W.g__law_take pass0 (pa_cons (pv 0) (pa_cons (pe_op op_add (pe_callB call_len_str (by rfl) W.f_len (by decide +kernel) (pa_cons (pv 1) pa_nil)) pe_int) pa_nil))) (pa_cons (pe_cal O__law_take (hr.mono (by omega)) W.g__law_take pass0 (pa_cons (pv 0) (pa_cons pe_int pa_nil))) pa_nil)) (by rfl))
    (pss_cons (ps_set (i := 4) nd rfl (Or.inl rfl) (pe_lst (pa_cons pe_str (pa_cons pe_str (pa_cons pe_str (pa_cons pe_str (pa_cons pe_str (pa_cons pe_str (pa_cons pe_str (pa_cons pe_str (pa_cons pe_str (pa_cons pe_str (pa_cons pe_str (pa_cons pe_str (pa_cons pe_str (pa_cons pe_str (pa_cons pe_str (pa_cons pe_str (pa_cons pe_str pa_nil)))))))))))))))))))
    (pss_cons (ps_set (i := 4) nd rfl (Or.inl rfl) (pe_op op_cat (pv 4) (pe_lst (pa_cons pe_str (pa_cons pe_str (pa_cons pe_str (pa_cons pe_str (pa_cons pe_str (pa_cons pe_str (pa_cons pe_str (pa_cons pe_str (pa_cons pe_str (pa_cons pe_str pa_nil)))))))))))))
    (pss_cons (ps_set (i := 4) nd rfl (Or.inl rfl) (pe_op op_cat (pv 4) (pe_lst (pa_cons pe_str (pa_cons pe_str (pa_cons pe_str (pa_cons pe_str (pa_cons pe_str (pa_cons pe_str (pa_cons pe_str (pa_cons pe_str pa_nil)))))))))))
    (pss_cons (ps_if (pt_cmpR op_lt (pv 3) pe_int (nomark _)) (pss_one (ps_ret (pe_op op_add_str (pe_op op_add_str (pe_slice sl_str (pv 1) po_none (po_some (pv 2))) (pe_cal O__law_one (hr.mono (by omega)) W.g__law_one pass0 (pa_cons (pv 0) (pa_cons (pv 4) pa_nil)))) (pe_slice sl_str (pv 1) (po_some (pv 2)) po_none)))) pss_nil)
    (pss_cons (ps_set (i := 5) nd rfl (Or.inl rfl) (pe_op op_add pe_int (pe_cal O__law_take (hr.mono (by omega)) W.g__law_take pass0 (pa_cons (pv 0) (pa_cons pe_int pa_nil)))))
    (pss_cons (ps_if (pt_cmpR op_lt (pv 3) pe_int (nomark _)) (pss_one (ps_ret (pe_op op_add_str (pe_slice sl_str (pv 1) po_none (po_some (pv 2))) (pe_slice sl_str (pv 1) (po_some (pe_op op_add (pv 2) (pv 5))) po_none)))) pss_nil)
    (pss_cons (ps_if (pt_cmpR op_eq (pv 3) pe_int (nomark _)) (pss_one (ps_ret (pe_op op_add_str (pe_op op_add_str (pe_slice sl_str (pv 1) po_none (po_some (pv 2))) (pe_cal O__law_one (hr.mono (by omega)) W.g__law_one pass0 (pa_cons (pv 0) (pa_cons (pv 4) pa_nil)))) (pe_slice sl_str (pv 1) (po_some (pe_op op_add (pv 2) (pv 5))) po_none)))) pss_nil)
    (pss_one (ps_ret (pe_op op_add_str (pe_slice sl_str (pv 1) (po_some (pv 2)) po_none) (pe_slice sl_str (pv 1) po_none (po_some (pv 2)))))))))))))), ?_⟩
  obtain ⟨b, c, s, rfl, hB, hs, hq⟩ := h
  have sl : (S s).length ≤ sizeLine := by rw [S_len]; exact small (by omega)
  have e1 : (((S s).length : Nat) : Int) + 1 = ((s.length + 1 : Nat) : Int) := by rw [S_len]; omega
  refine ⟨_, rfl, _, rfl, _, rfl, sl, _, _, rfl, rfl, b, c, s.length + 1, (congrArg (fun z => [V.ref b, V.int z]) e1), by omega, by omega, hB, fun i H1 hi e1 hB1 => ?_⟩
  refine ⟨_, rfl, b, c, 7, rfl, by decide, by decide, hB1, fun way H2 hway e2 hB2 => ⟨_, _, rfl, ?_⟩⟩
  have e02 : SameB b H H2 := e1.trans e2
  refine ⟨by show 17 ≤ sizeLine; decide, fun w1 hw1 => ?_⟩
  refine ⟨_, rfl, by show 10 ≤ sizeLine; decide, fun w2 hw2 => ?_⟩
  refine ⟨w1, w2, _, _, rfl, rfl, same_new hw2 _ _ upd_same, upd_same, by show 27 ≤ sizeLine; decide, fun w3 hw3 => ?_⟩
  refine ⟨_, rfl, by show 8 ≤ sizeLine; decide, fun w4 hw4 => ?_⟩
  refine ⟨w3, w4, _, _, rfl, rfl, same_new hw4 _ _ upd_same, upd_same, by show 35 ≤ sizeLine; decide, fun w5 hw5 => ?_⟩
  refine (fun (K5 : ∀ H5, Same H2 H5 → H5 w5 = some (HO.lst (wordsS.map fun s => V.str (Str.ofString s))) → w5 ≠ b → gName 4 (.ref w5) _ H5 _) => K5 _ ((((same_new hw1).trans (same_new hw2)).trans (same_new hw3)).trans ((same_new hw4).trans (same_new hw5))) upd_same
    ((hB2.keep ((((same_new hw1).trans (same_new hw2)).trans (same_new hw3)).trans (same_new hw4))).ne hw5).1) ?_
  intro H5 s5 hw5v nw5
  have hB5 := hB2.keep s5
  have e05 : SameB b H H5 := e02.trans (.of s5)
  have words : ∀ (H6 : Hp) (Q' : VK) (E' : XK), SameB b H5 H6 → Bag H6 b c → (∀ x : List Nat, x.length ≤ 20 → M.om x ≤ 3 → x.count 43 ≤ 1 → ∀ H', SameB b H6 H' → Bag H' b c → Q' (.str (S x)) H') → spOne K [.ref b, .ref w5] H6 Q' E' := fun H6 Q' E' e6 hB6 h =>
    ⟨b, c, w5, _, rfl, hB6, by decide, by decide, .inl fun H' e => sql (e _ _ (e6 _ _ hw5v nw5) nw5), fun x hx H' e hB' => by
      obtain ⟨st, hst, rfl⟩ := List.mem_map.mp hx
      obtain ⟨h1, h2, h3⟩ := wordsS_ok st hst
      rw [sq st]
      exact h _ h1 h2 h3 H' e hB'⟩
  have otd : ∀ j, M.om (s.take j) + M.om (s.drop j) = M.om s := fun j => by
    rw [← M.om_app, List.take_append_drop]
  have ctd : ∀ j, (s.take j).count 43 + (s.drop j).count 43 = s.count 43 := fun j => by
    rw [← List.count_append, List.take_append_drop]
  have cdd : ∀ j k, (s.drop (j + k)).count 43 ≤ (s.drop j).count 43 := fun j k => by
    rw [← List.drop_drop]
    exact (List.drop_sublist k (s.drop j)).count_le 43
  have ltd : ∀ j, (s.take j).length ≤ s.length := fun j => by rw [List.length_take]; omega
  have ldd : ∀ j, (s.drop j).length ≤ s.length := fun j => by rw [List.length_drop]; omega
  have ltt : ∀ j, (s.take j).length + (s.drop j).length = s.length := fun j => by rw [← List.length_append, List.take_append_drop]
  have odd : ∀ j k, M.om (s.drop (j + k)) ≤ M.om (s.drop j) ∧ (s.drop (j + k)).length ≤ (s.drop j).length := fun j k => by
    rw [← List.drop_drop]
    refine ⟨om_suf (a := (s.drop j).take k) (by rw [List.take_append_drop]), by rw [List.length_drop]; omega⟩
  dsimp only [gName]
  refine sif (way < 3) (fun Q' hQ' => ?_) (fun h3 H6 e6 => ?_) (fun h3 H6 e6 => ?_)
  · refine ⟨_, rfl, _, _, rfl, rfl, _, rfl, ?_⟩
    have := hQ' H5 (Same.refl _)
    rwa [show decide (way < 3) = decide (((way : Nat) : Int) < 3) from decide_eq_decide.mpr (by omega)] at this
  · refine ⟨_, rfl, _, rfl, _, rfl, _, rfl, sl, ?_⟩
    rw [cut_j]
    refine ⟨_, rfl, _, rfl, words H6 _ L2.E0 (.of e6) (hB5.keep e6) fun x hx1 hx2 hx3 H7 e7 hB7 => ⟨_, _, rfl, rfl, ?_, _, rfl, _, rfl, _, rfl, _, rfl, sl, ?_⟩⟩
    · rw [S_len, S_len]
      have := ltd i
      exact small (by omega)
    · rw [S_cat, cut_i]
      refine ⟨_, _, rfl, rfl, ?_, ?_⟩
      · rw [S_len, S_len, List.length_append]
        have := ltt i
        exact small (by omega)
      · rw [S_cat]
        refine hq _ H7 (e05.trans ((SameB.of e6).trans e7)) hB7 ?_ ?_ ?_
        · have := ltt i
          simp only [List.length_append]
          omega
        · have := otd i
          simp only [M.om_app]
          omega
        · have c1 := ctd i
          have c2 := fun k => cdd i k
          simp only [List.count_append]
          first
            | omega
            | (have c3 := c2 (1 + n); omega)
  have hB6 := hB5.keep e6
  refine ⟨_, rfl, b, c, 4, rfl, by decide, by decide, hB6, fun n H7 hn e7 hB7 => ⟨_, _, rfl, rfl, ?_⟩⟩
  have e57 : SameB b H5 H7 := (SameB.of e6).trans e7
  have e9 : ((i : Nat) : Int) + (1 + ((n : Nat) : Int)) = ((i + (1 + n) : Nat) : Int) := by omega
  dsimp only [gName]
  refine sif (way < 5) (fun Q' hQ' => ?_) (fun h5 H8 e8 => ?_) (fun h5 H8 e8 => ?_)
  · refine ⟨_, rfl, _, _, rfl, rfl, _, rfl, ?_⟩
    have := hQ' H7 (Same.refl _)
    rwa [show decide (way < 5) = decide (((way : Nat) : Int) < 5) from decide_eq_decide.mpr (by omega)] at this
  · refine ⟨_, rfl, _, rfl, _, rfl, _, rfl, sl, ?_⟩
    rw [cut_j]
    refine ⟨_, rfl, _, rfl, _, rfl, _, _, rfl, rfl, _, congrArg V.int e9, _, rfl, sl, ?_⟩
    rw [cut_i]
    have h1 := odd i (1 + n)
    have h2 := ltt i
    have h3' := otd i
    refine ⟨_, _, rfl, rfl, ?_, ?_⟩
    · rw [S_len, S_len]
      exact small (by omega)
    · rw [S_cat]
      refine hq _ H8 (e05.trans (e57.trans (.of e8))) (hB7.keep e8) ?_ ?_ ?_
      · simp only [List.length_append]
        omega
      · simp only [M.om_app]
        omega
      · have c1 := ctd i
        have c3 := cdd i (1 + n)
        simp only [List.count_append]
        omega
  have hB8 := hB7.keep e8
  have e58 := e57.trans (SameB.of e8)
  refine sif (way = 5) (fun Q' hQ' => ?_) (fun h6 H9 e9' => ?_) (fun h6 H9 e9' => ?_)
  · refine ⟨_, rfl, rfl, _, rfl, ?_⟩
    have := hQ' H8 (Same.refl _)
    rwa [show decide (way = 5) = decide (V.int ((way : Nat) : Int) = V.int 5) from decide_eq_decide.mpr ⟨fun z => by rw [z] <;> rfl, fun z => by injection z with z; omega⟩] at this
  · refine ⟨_, rfl, _, rfl, _, rfl, _, rfl, sl, ?_⟩
    rw [cut_j]
    refine ⟨_, rfl, _, rfl, words H9 _ L2.E0 (e58.trans (.of e9')) (hB8.keep e9') fun x hx1 hx2 hx3 H10 e10 hB10 => ⟨_, _, rfl, rfl, ?_, _, rfl, _, rfl, _, rfl, _, _, rfl, rfl, _, congrArg V.int e9, _, rfl, sl, ?_⟩⟩
    · rw [S_len, S_len]
      have := ltd i
      exact small (by omega)
    · rw [S_cat, cut_i]
      have h1 := odd i (1 + n)
      have h2 := ltt i
      have h3' := otd i
      refine ⟨_, _, rfl, rfl, ?_, ?_⟩
      · rw [S_len, S_len, List.length_append]
        exact small (by omega)
      · rw [S_cat]
        refine hq _ H10 (e05.trans (e58.trans ((SameB.of e9').trans e10))) hB10 ?_ ?_ ?_
        · simp only [List.length_append]
          omega
        · simp only [M.om_app]
          omega
        · have c1 := ctd i
          have c3 := cdd i (1 + n)
          simp only [List.count_append]
          omega
  · refine ⟨_, rfl, _, rfl, _, rfl, _, rfl, sl, ?_⟩
    rw [cut_i]
    refine ⟨_, rfl, _, rfl, _, rfl, _, rfl, sl, ?_⟩
    rw [cut_j]
    have h2 := ltt i
    have h3' := otd i
    refine ⟨_, _, rfl, rfl, ?_, ?_⟩
    · rw [S_len, S_len]
      exact small (by omega)
    · rw [S_cat]
      refine hq _ H9 (e05.trans (e58.trans (.of e9'))) (hB8.keep e9') ?_ ?_ ?_
      · simp only [List.length_append]
        omega
      · simp only [M.om_app]
        omega
      · have c1 := ctd i
        have c3 := cdd i (1 + n)
        simp only [List.count_append]
        omega
end
end K92
end

section
set_option Elab.async false
set_option linter.all false
set_option maxRecDepth 100000
set_option maxHeartbeats 4000000
set_option exponentiation.threshold 3000
/-! k92: how deep the data are, how long they are shown. -/
namespace K92
open PySem PySem.Spec PyProof.Rows L2 He HL M TL
mutual
theorem cd_deep : ∀ c : Cond, (cd c).depth ≤ om c.sh + 1
  | .word b => by
    unfold cd
    simp [PyData.depth, PyData.depthAll]
  | .ask n => by
    unfold cd
    simp [PyData.depth, PyData.depthAll]
  | .neg c => by
    have ih := cd_deep c
    unfold cd
    have e : om (Cond.neg c).sh = om c.sh + 3 := by
      show om (q "not" ++ (q "(" ++ (c.sh ++ q ")"))) = _
      rw [om_app, om_app, om_app, show om (q "not") = 0 from by decide, show om (q "(") = 3 from by decide, show om (q ")") = 0 from by decide]
      omega
    simp only [PyData.depth, PyData.depthAll]
    omega
  | .many b cs => by
    have ih := cdL_deep cs
    unfold cd
    have e : om (joinL (q ", ") (shC cs)) + 3 ≤ om (Cond.many b cs).sh := by
      show _ ≤ om (nq b ++ (q "(" ++ (joinL (q ", ") (shC cs) ++ q ")")))
      rw [om_app, om_app, om_app, show om (q "(") = 3 from by decide]
      omega
    simp only [PyData.depth, PyData.depthAll]
    omega
theorem cdL_deep : ∀ cs : List Cond, PyData.depthAll (cdL cs) ≤ om (joinL (q ", ") (shC cs)) + 1
  | [] => by
    unfold cdL
    simp [PyData.depthAll]
  | [c] => by
    have ih := cd_deep c
    simp only [cdL, PyData.depthAll, shC, joinL]
    omega
  | c :: d :: cs => by
    have ih := cd_deep c
    have ih2 := cdL_deep (d :: cs)
    unfold cdL
    have e : joinL (q ", ") (shC (c :: d :: cs)) = c.sh ++ (q ", " ++ joinL (q ", ") (shC (d :: cs))) := rfl
    rw [e, om_app, om_app]
    simp only [PyData.depthAll]
    omega
end
mutual
theorem pd_deep : ∀ c : Part, (pd c).depth ≤ om c.sh + 1
  | .back => by
    unfold pd
    simp [PyData.depth, PyData.depthAll]
  | .leave k => by
    unfold pd
    simp [PyData.depth, PyData.depthAll]
  | .step n => by
    unfold pd
    simp [PyData.depth, PyData.depthAll]
  | .call n => by
    unfold pd
    simp [PyData.depth, PyData.depthAll]
  | .row cs => by
    have ih := pdL_deep cs
    unfold pd
    have e : om (joinL (q "; ") (shP cs)) + 3 ≤ om (Part.row cs).sh := by
      show _ ≤ om (q "[" ++ (joinL (q "; ") (shP cs) ++ q "]"))
      rw [om_app, om_app, show om (q "[") = 3 from by decide]
      omega
    simp only [PyData.depth, PyData.depthAll]
    omega
  | .whil c p => by
    have ih := cd_deep c
    have ih2 := pd_deep p
    unfold pd
    have e : om c.sh + om p.sh + 2 ≤ om (Part.whil c p).sh := by
      show _ ≤ om (q "while " ++ (c.sh ++ (q ": " ++ p.sh)))
      rw [om_app, om_app, om_app, show om (q "while ") = 1 from by decide, show om (q ": ") = 1 from by decide]
      omega
    simp only [PyData.depth, PyData.depthAll]
    omega
  | .ite c p r => by
    have ih := cd_deep c
    have ih2 := pd_deep p
    have ih3 := pd_deep r
    unfold pd
    have e : om c.sh + om p.sh + om r.sh + 5 ≤ om (Part.ite c p r).sh := by
      show _ ≤ om (q "if " ++ (c.sh ++ (q " then " ++ (p.sh ++ (q " else " ++ r.sh)))))
      rw [om_app, om_app, om_app, om_app, om_app, show om (q "if ") = 1 from by decide, show om (q " then ") = 2 from by decide, show om (q " else ") = 2 from by decide]
      omega
    simp only [PyData.depth, PyData.depthAll]
    omega
theorem pdL_deep : ∀ cs : List Part, PyData.depthAll (pdL cs) ≤ om (joinL (q "; ") (shP cs)) + 1
  | [] => by
    unfold pdL
    simp [PyData.depthAll]
  | [c] => by
    have ih := pd_deep c
    simp only [pdL, PyData.depthAll, shP, joinL]
    omega
  | c :: d :: cs => by
    have ih := pd_deep c
    have ih2 := pdL_deep (d :: cs)
    unfold pdL
    have e : joinL (q "; ") (shP (c :: d :: cs)) = c.sh ++ (q "; " ++ joinL (q "; ") (shP (d :: cs))) := rfl
    rw [e, om_app, om_app]
    simp only [PyData.depthAll]
    omega
end
/-! ### showable -/
mutual
theorem cd_show : ∀ c : Cond, (cd c).showable = true
  | .word b => by
    unfold cd
    simp [PyData.showable, PyData.showableAll]
  | .ask n => by
    unfold cd
    simp [PyData.showable, PyData.showableAll]
  | .neg c => by
    unfold cd
    simp [PyData.showable, PyData.showableAll, cd_show c]
  | .many b cs => by
    unfold cd
    simp [PyData.showable, PyData.showableAll, cdL_show cs]
theorem cdL_show : ∀ cs : List Cond, PyData.showableAll (cdL cs) = true
  | [] => by
    unfold cdL
    simp [PyData.showableAll]
  | c :: cs => by
    unfold cdL
    simp [PyData.showableAll, cd_show c, cdL_show cs]
end
theorem num_log' {k : Nat} (h : k < 1000000000) : (k : Int).natAbs.log2 < 1920 := by
  show k.log2 < 1920
  by_cases h0 : k = 0
  · rw [h0]
    decide
  · rw [Nat.log2_lt h0]
    exact Nat.lt_of_lt_of_le h (Nat.le_trans (show 1000000000 ≤ 2 ^ 30 by decide) (Nat.pow_le_pow_right (by decide) (by decide)))
mutual
theorem pd_show : ∀ c : Part, c.wf → (pd c).showable = true
  | .back, _ => by
    unfold pd
    simp [PyData.showable, PyData.showableAll]
  | .leave k, h => by
    unfold pd
    have := num_log' (show k < 1000000000 from by simpa [Part.wf] using h)
    simp only [PyData.showable, PyData.showableAll, decide_eq_true this, Bool.and_true]
  | .step n, _ => by
    unfold pd
    simp [PyData.showable, PyData.showableAll]
  | .call n, _ => by
    unfold pd
    simp [PyData.showable, PyData.showableAll]
  | .row cs, h => by
    unfold pd
    simp [PyData.showable, PyData.showableAll, pdL_show cs (by simpa [Part.wf] using h)]
  | .whil c p, h => by
    have h1 : c.wf ∧ p.wf := by simpa [Part.wf] using h
    unfold pd
    simp [PyData.showable, PyData.showableAll, cd_show c, pd_show p h1.2]
  | .ite c p r, h => by
    have h1 : c.wf ∧ p.wf ∧ r.wf := by simpa [Part.wf] using h
    unfold pd
    simp [PyData.showable, PyData.showableAll, cd_show c, pd_show p h1.2.1, pd_show r h1.2.2]
theorem pdL_show : ∀ cs : List Part, wfP cs → PyData.showableAll (pdL cs) = true
  | [], _ => by
    unfold pdL
    simp [PyData.showableAll]
  | c :: cs, h => by
    have h1 : c.wf ∧ wfP cs := by simpa [wfP] using h
    unfold pdL
    simp [PyData.showableAll, pd_show c h1.1, pdL_show cs h1.2]
end
/-! ### lengths -/
theorem rt_len {l : List Nat} (h : PyData.strOk (HL.S l) = true) : (reprText (HL.S l)).length ≤ 10 * l.length + 2 := by
  have := StrLaws.reprText_len (HL.S l) fun c hc => by
    unfold PyData.strOk at h
    rw [Array.all_eq_true'] at h
    have h2 := of_decide_eq_true (h c (by simpa using hc))
    exact Nat.lt_of_lt_of_le h2 (by decide)
  rw [HL.S_len] at this
  exact this
theorem tt1 (a : Str) : (tupleText [a]).length ≤ a.length + 5 := by
  have := tupleText_len_le [a]
  simp at this
  omega
theorem tt2 (a b : Str) : (tupleText [a, b]).length ≤ a.length + b.length + 7 := by
  have := tupleText_len_le [a, b]
  simp at this
  omega
theorem tt3 (a b c : Str) : (tupleText [a, b, c]).length ≤ a.length + b.length + c.length + 9 := by
  have := tupleText_len_le [a, b, c]
  simp at this
  omega
theorem tt4 (a b c d : Str) : (tupleText [a, b, c, d]).length ≤ a.length + b.length + c.length + d.length + 11 := by
  have := tupleText_len_le [a, b, c, d]
  simp at this
  omega
mutual
theorem cd_len : ∀ c : Cond, c.wf → (cd c).shown.length ≤ 100 * c.sh.length
  | .word b, _ => by
    unfold cd
    simp only [PyData.shown, PyData.shownAll]
    have h1 := tt1 (reprText (HL.S (yq b)))
    have h2 := rt_len (ok_yq b)
    have h3 : (yq b).length ≤ 3 ∧ 2 ≤ (yq b).length := by cases b <;> decide
    show _ ≤ 100 * (yq b).length
    omega
  | .ask n, h => by
    unfold cd
    simp only [PyData.shown, PyData.shownAll]
    have h1 := tt2 (reprText (HL.S (q "ask"))) (reprText (HL.S n))
    have h2 := rt_len ok_ask
    have h3 := rt_len (nm_ok (show Nm n by simpa [Cond.wf] using h))
    have h4 : (q "ask").length = 3 := by decide
    show _ ≤ 100 * (q "?" ++ n).length
    rw [List.length_append, show (q "?").length = 1 from by decide]
    omega
  | .neg c, h => by
    have ih := cd_len c (by simpa [Cond.wf] using h)
    unfold cd
    simp only [PyData.shown, PyData.shownAll]
    have h1 := tt2 (reprText (HL.S (q "not"))) (cd c).shown
    have h2 := rt_len ok_not
    have h4 : (q "not").length = 3 := by decide
    show _ ≤ 100 * (q "not" ++ (q "(" ++ (c.sh ++ q ")"))).length
    simp only [List.length_append, h4, show (q "(").length = 1 from by decide, show (q ")").length = 1 from by decide]
    omega
  | .many b cs, h => by
    have ih := cdL_len cs (by simpa [Cond.wf] using h)
    unfold cd
    simp only [PyData.shown, PyData.shownAll]
    have h1 := tt2 (reprText (HL.S (nq b))) (tupleText (PyData.shownAll (cdL cs)))
    have h2 := rt_len (ok_nq b)
    have h4 : (nq b).length = 3 := by cases b <;> decide
    show _ ≤ 100 * (nq b ++ (q "(" ++ (joinL (q ", ") (shC cs) ++ q ")"))).length
    simp only [List.length_append, h4, show (q "(").length = 1 from by decide, show (q ")").length = 1 from by decide]
    omega
theorem cdL_len : ∀ cs : List Cond, wfC cs → (tupleText (PyData.shownAll (cdL cs))).length ≤ 100 * (joinL (q ", ") (shC cs)).length + 50 := fun cs h => by
  have h1 := tupleText_len_le (PyData.shownAll (cdL cs))
  have h2 := cdL_sum cs h
  have h3 := joinL_len (q ", ") (shC cs)
  have h4 : (q ", ").length = 2 := by decide
  have h5 : (PyData.shownAll (cdL cs)).length = cs.length := cdL_cnt cs
  have h6 : (shC cs).length = cs.length := by rw [shC_map, List.length_map]
  rw [h4, h6] at h3
  rw [h5] at h1
  by_cases hc : cs = []
  · subst hc
    have e0 : PyData.shownAll (cdL []) = [] := by
      unfold cdL
      simp [PyData.shownAll]
    rw [e0]
    have := tupleText_len_le []
    simp at this
    omega
  · have hc1 : 1 ≤ cs.length := List.length_pos_iff.mpr hc
    generalize ((shC cs).map (·.length)).sum = z at h2 h3
    omega
theorem cdL_sum : ∀ cs : List Cond, wfC cs → ((PyData.shownAll (cdL cs)).map (·.length)).sum ≤ 100 * ((shC cs).map (·.length)).sum
  | [], _ => by
    unfold cdL
    simp [PyData.shownAll]
  | c :: cs, h => by
    have h1 : c.wf ∧ wfC cs := by simpa [wfC] using h
    have ih := cd_len c h1.1
    have ih2 := cdL_sum cs h1.2
    unfold cdL shC
    simp only [PyData.shownAll, List.map_cons, List.sum_cons]
    omega
theorem cdL_cnt : ∀ cs : List Cond, (PyData.shownAll (cdL cs)).length = cs.length
  | [] => by
    unfold cdL
    simp [PyData.shownAll]
  | c :: cs => by
    unfold cdL
    simp only [PyData.shownAll, List.length_cons, cdL_cnt cs]
end
mutual
theorem pd_len : ∀ c : Part, c.wf → (pd c).shown.length ≤ 100 * c.sh.length
  | .back, _ => by
    unfold pd
    simp only [PyData.shown, PyData.shownAll]
    have h1 := tt1 (reprText (HL.S (q "back")))
    have h2 := rt_len ok_back
    have h3 : (q "back").length = 4 := by decide
    show _ ≤ 100 * (q "back").length
    omega
  | .leave k, h => by
    unfold pd
    simp only [PyData.shown, PyData.shownAll]
    have h1 := tt2 (reprText (HL.S (q "leave"))) (toString ((k : Nat) : Int) : String)
    have h2 := rt_len ok_leave
    have h3 : (q "leave").length = 5 := by decide
    have h4 : (Str.ofString (toString ((k : Nat) : Int))).length = (numL k).length := by rw [SX.num_S k, HL.S_len]
    show _ ≤ 100 * (q "leave" ++ (q " " ++ numL k)).length
    simp only [List.length_append, h3, show (q " ").length = 1 from by decide]
    have h5 : (Str.ofString (toString ((k : Nat) : Int))).length ≤ (numL k).length := Nat.le_of_eq h4
    omega
  | .step n, h => by
    unfold pd
    simp only [PyData.shown, PyData.shownAll]
    have h1 := tt2 (reprText (HL.S (q "step"))) (reprText (HL.S n))
    have h2 := rt_len ok_step
    have h3 := rt_len (nm_ok (show Nm n by simpa [Part.wf] using h))
    have h4 : (q "step").length = 4 := by decide
    show _ ≤ 100 * (q "do" ++ (q " " ++ n)).length
    simp only [List.length_append, show (q "do").length = 2 from by decide, show (q " ").length = 1 from by decide]
    omega
  | .call n, h => by
    unfold pd
    simp only [PyData.shown, PyData.shownAll]
    have h1 := tt2 (reprText (HL.S (q "call"))) (reprText (HL.S n))
    have h2 := rt_len ok_call
    have h3 := rt_len (nm_ok (show Nm n by simpa [Part.wf] using h))
    have h4 : (q "call").length = 4 := by decide
    show _ ≤ 100 * (q "call" ++ (q " " ++ n)).length
    simp only [List.length_append, h4, show (q " ").length = 1 from by decide]
    omega
  | .row cs, h => by
    have ih := pdL_len cs (by simpa [Part.wf] using h)
    unfold pd
    simp only [PyData.shown, PyData.shownAll]
    have h1 := tt2 (reprText (HL.S (q "row"))) (tupleText (PyData.shownAll (pdL cs)))
    have h2 := rt_len ok_row
    have h4 : (q "row").length = 3 := by decide
    show _ ≤ 100 * (q "[" ++ (joinL (q "; ") (shP cs) ++ q "]")).length
    simp only [List.length_append, show (q "[").length = 1 from by decide, show (q "]").length = 1 from by decide]
    omega
  | .whil c p, h => by
    have h1 : c.wf ∧ p.wf := by simpa [Part.wf] using h
    have i1 := cd_len c h1.1
    have i2 := pd_len p h1.2
    unfold pd
    simp only [PyData.shown, PyData.shownAll]
    have h1 := tt3 (reprText (HL.S (q "while"))) (cd c).shown (pd p).shown
    have h2 := rt_len ok_while
    have h4 : (q "while").length = 5 := by decide
    show _ ≤ 100 * (q "while " ++ (c.sh ++ (q ": " ++ p.sh))).length
    simp only [List.length_append, show (q "while ").length = 6 from by decide, show (q ": ").length = 2 from by decide]
    omega
  | .ite c p r, h => by
    have h1 : c.wf ∧ p.wf ∧ r.wf := by simpa [Part.wf] using h
    have i1 := cd_len c h1.1
    have i2 := pd_len p h1.2.1
    have i3 := pd_len r h1.2.2
    unfold pd
    simp only [PyData.shown, PyData.shownAll]
    have h1 := tt4 (reprText (HL.S (q "if"))) (cd c).shown (pd p).shown (pd r).shown
    have h2 := rt_len ok_if
    have h4 : (q "if").length = 2 := by decide
    show _ ≤ 100 * (q "if " ++ (c.sh ++ (q " then " ++ (p.sh ++ (q " else " ++ r.sh))))).length
    simp only [List.length_append, show (q "if ").length = 3 from by decide, show (q " then ").length = 6 from by decide, show (q " else ").length = 6 from by decide]
    omega
theorem pdL_len : ∀ cs : List Part, wfP cs → (tupleText (PyData.shownAll (pdL cs))).length ≤ 100 * (joinL (q "; ") (shP cs)).length + 50 := fun cs h => by
  have h1 := tupleText_len_le (PyData.shownAll (pdL cs))
  have h2 := pdL_sum cs h
  have h3 := joinL_len (q "; ") (shP cs)
  have h4 : (q "; ").length = 2 := by decide
  have h5 : (PyData.shownAll (pdL cs)).length = cs.length := pdL_cnt cs
  have h6 : (shP cs).length = cs.length := by rw [shP_map, List.length_map]
  rw [h4, h6] at h3
  rw [h5] at h1
  by_cases hc : cs = []
  · subst hc
    have e0 : PyData.shownAll (pdL []) = [] := by
      unfold pdL
      simp [PyData.shownAll]
    rw [e0]
    have := tupleText_len_le []
    simp at this
    omega
  · have hc1 : 1 ≤ cs.length := List.length_pos_iff.mpr hc
    generalize ((shP cs).map (·.length)).sum = z at h2 h3
    omega
theorem pdL_sum : ∀ cs : List Part, wfP cs → ((PyData.shownAll (pdL cs)).map (·.length)).sum ≤ 100 * ((shP cs).map (·.length)).sum
  | [], _ => by
    unfold pdL
    simp [PyData.shownAll]
  | c :: cs, h => by
    have h1 : c.wf ∧ wfP cs := by simpa [wfP] using h
    have ih := pd_len c h1.1
    have ih2 := pdL_sum cs h1.2
    unfold pdL shP
    simp only [PyData.shownAll, List.map_cons, List.sum_cons]
    omega
theorem pdL_cnt : ∀ cs : List Part, (PyData.shownAll (pdL cs)).length = cs.length
  | [] => by
    unfold pdL
    simp [PyData.shownAll]
  | c :: cs => by
    unfold pdL
    simp only [PyData.shownAll, List.length_cons, pdL_cnt cs]
end
end K92
end

section
set_option Elab.async false
set_option linter.all false
set_option maxRecDepth 100000
set_option maxHeartbeats 4000000
/-! Rules of our own: a def called, its body read where it is called; an exception's wish by slots that are there. -/
namespace XP
open PySem PySem.Spec PyProof.Rows L2
theorem takes_len {X : Cx} {W : WX} (t : Takes X W) : Takes X (fun cls d σ H => σ.length = X.N.length → W cls d σ H) := fun u s' ⟨a, B, sI, pins, σ, H, cls, d, e, I, nb, up, sky, na, os, ag, w⟩ =>
  t u s' ⟨a, B, sI, pins, σ, H, cls, d, e, I, nb, up, sky, na, os, ag, w I.len⟩
section
variable {X : Cx}
/-- repr of a list or a tuple that holds data of any depth -/
def rReprC (K : PySem.W.Frag) (units : Nat) : List V → Hp → VK → Prop := fun xs H Q => ∃ (a : Addr) (d : PyData), xs = [.ref a] ∧ Dp K H (.ref a) d ∧ d.canLay0 = true ∧ d.showable = true ∧ units + (d.depth + 1) < cLine ∧ d.shown.length ≤ sizeLine ∧ Q (.str d.shown) H
theorem call_reprC (hg : X.A.guards = some []) : CallR X (.builtin "repr") (rReprC X.K X.A.units) := by
  intro pins s σ H xs us Q I r h
  obtain ⟨a, d, rfl, hd, sh, sw, hu, hz, q⟩ := h
  obtain ⟨u, rfl, ru⟩ := vals1 r
  obtain rfl : u = Value.ref a := ru
  obtain ⟨as, rd⟩ := Dp.reads I d (.ref a) (.ref a) hd rfl
  have nd : d.hasDict = false := PyData.hasDict_of_canLay d sh
  exact repr_of_reads' rd sw (PyData.noDict_hsm nd) hg hu (fun b o e => e) (fun h' u tk k => ⟨.str d.shown, H, I.kept k, ⟨_, rfl⟩, q⟩) hz
/-- f(e, ..): f's body is read for this very caller -/
theorem pe_calA {CX : CXT} {x name qual : Str} {params : Arguments} {body : List Stmt} {scope : Scope} {g : Addr} {fd : FuncData} {N ps : List Str} {sp : Sp} {k : Nat} {E : XK} {p pos : Pos} {e : Expr} {es : List Expr} {t : TA}
    (D : FunD X.K name qual params body scope [] [] g fd) (b : L2.Binds X.K fd ps []) (S : FnScope N ps scope) (len : ∀ vs H Q E, sp vs H Q E → vs.length = ps.length) (hr : Room (k + 1) X.A) (hm : X.mg x = some (.ref g)) (hx : Passes CX X E) (ha : PA X (e :: es) t)
    (hbody : ∀ (cdv : Value) (s : Shared) (H : Hp) (vs : List V) (Q : VK), Room k (X.A.deeper (envOfC qual scope s.heap.objs.size g cdv)) → sp vs H Q E →
      ∃ t, PSs (cxOf CX X.prog X.w X.K X.mg X.base N qual scope g cdv X.A X.stack s H E) body t ∧ t { nx := fun _ H' => Q .non H', rt := Q } (L2.start N vs) H)
    (hg : Gl X x := by rfl) (hdb : (x == ("__debug__" : Str)) = false := by decide) (he : starEach (e :: es) X.env = (false, eval e X.env) :: starEach es X.env := by rfl) (hpl : (backTo pos (starEach es X.env)).any (·.1) = false := by rfl) :
    PE X (.Call (.Name x p) (e :: es) [] pos) (tCall sp [] E t) := by
  refine ⟨fun pins s σ H Q I h => ?_⟩
  refine wpAny_Call_Name_kw (ld_glob I hg hm ?_ hdb)
  refine PySem.W.callWith_K (h₀ := X.base) I.ok.mod.kin D.kp (thn (ha.run pos pins s σ H _ I h) fun us s1 ⟨vs, H1, I1, r, q⟩ => ⟨I1.kIn, ?_⟩) he hpl
  have q : sp vs H1 Q E := by
    have q' : sp (vs ++ []) H1 Q E := q
    rwa [List.append_nil] at q'
  obtain ⟨oc, od, dV, kV, doc, pm, an, cdv, ct, osl, rfl, lk, hcg, _, _⟩ := D.ex
  have hl := len _ _ _ _ q
  have rc : codeAny (model X.prog X.w) X.A (.call (.ref g) ⟨us, []⟩) (CR CX X.stack X.prog X.w H1 s1 Q E) s1 :=
    LamX.run_ofS (N := N) (ps := ps) (us := us ++ []) (vs := vs) lk hcg S hr I1.env0 (b s1 us I1.kIn (by rw [← hl]; simpa using r.length.symm)) (by simpa using r) hl fun hr' => hbody cdv s1 H1 vs Q hr' q
  refine wpAny_call (codeAny_mono rc fun r s5 hq => ?_)
  cases r with
  | error e => exact hx pins σ H1 s1 e s5 I1 hq
  | ok fl =>
    cases fl with
    | ret u => exact I1.after hq
    | next => exact False.elim hq
    | brk => exact False.elim hq
    | cont => exact False.elim hq
end
end XP
end

section
set_option Elab.async false
set_option linter.all false
set_option maxRecDepth 100000
set_option maxHeartbeats 4000000
/-! k92: alike, read. -/
namespace K92
open PySem PySem.Spec PyProof.Rows L2 He HL
section
variable {w : World} {K : PySem.W.Frag} {mg : Str → Option Value} {base : Heap}
abbrev n_law_alike : List Str := ["_law_found", "_law_due"]
theorem sc_law_alike : FnScope n_law_alike ["_law_found", "_law_due"] (defScope s_law_alike) := ⟨rfl, rfl, rfl, by decide +kernel, rfl, by decide +kernel, by decide +kernel⟩
theorem bi_law_alike : ∀ (kV doc pm : Value) (an : Option Addr) (cdv ct : Value) (us : List Value), us.length = 2 → bindArgs (PySem.W.fnOf d_law_alike.name d_law_alike.qual d_law_alike.params d_law_alike.body d_law_alike.scope .none kV doc pm an cdv ct) ⟨us, []⟩ = pure ([("_law_found" : Str), ("_law_due" : Str)].zip us) := fun kV doc pm an cdv ct us hu => by
  match us, hu with
  | [u0, u1], _ => rfl
/-- two lists of the same data -/
def spAlike (K : PySem.W.Frag) (units : Nat) : Sp := fun vs H Q _ => ∃ (l1 l2 : Addr) (d : PyData), vs = [.ref l1, .ref l2] ∧ Dp K H (.ref l1) d ∧ Dp K H (.ref l2) d ∧ d.canLay0 = true ∧ d.showable = true ∧ d.depth ≤ 200 ∧ d.shown.length ≤ sizeLine ∧ Q (.bl true) H
theorem alike_body (W : Wl K mg) {A : Around} {outer : List Env} {cdv : Value} {s : Shared} {H : Hp} {vs : List V} {Q : VK} {E : XK} {u0 : Nat} (hgd : A.guards = some []) (hu : A.units + 3 + 210 < cLine) (h : spAlike K u0 vs H Q E) :
    ∃ t, PSs (cxOf CX0 P0 w K mg base n_law_alike d_law_alike.qual d_law_alike.scope (fAd K d_law_alike.at_) cdv A outer s H E) d_law_alike.body t ∧ t { nx := fun _ H' => Q .non H', rt := Q } (L2.start n_law_alike vs) H := by
  have hgd : (cxOf CX0 P0 w K mg base n_law_alike d_law_alike.qual d_law_alike.scope (fAd K d_law_alike.at_) cdv A outer s H E).A.guards = some [] := hgd
  refine ⟨_, (pss_one (ps_ret (pe_and (pe_cmpR XP.op_eqE (pv 0) (pv 1) (nomark _)) (pe_one (pe_cmpR op_eq (pe_callB (XP.call_reprC hgd) (by rfl) W.f_repr (by decide +kernel) (pa_cons (pv 0) pa_nil)) (pe_callB (XP.call_reprC hgd) (by rfl) W.f_repr (by decide +kernel) (pa_cons (pv 1) pa_nil)) (nomark _)))))), ?_⟩
  obtain ⟨l1, l2, d, rfl, h1, h2, hl, hs, hd, hz, hq⟩ := h
  have hu' : (A.deeper (envOfC d_law_alike.qual d_law_alike.scope s.heap.objs.size (fAd K d_law_alike.at_) cdv)).units + (d.depth + 1) < cLine := by
    show A.units + 3 + (d.depth + 1) < cLine
    omega
  refine ⟨_, rfl, _, rfl, d, d, h1, h2, hl, hl, ?_, ?_⟩
  · have := Nat.min_le_left d.depth d.depth
    show A.units + 3 + min d.depth d.depth < cLine
    omega
  · rw [SeqAt.eqv_refl d hl]
    refine ⟨_, rfl, iteT ⟨_, rfl, l1, d, rfl, h1, hl, hs, hu', hz, _, rfl, l2, d, rfl, h2, hl, hs, hu', hz, rfl, ?_⟩⟩
    rw [decide_eq_true rfl]
    exact hq
abbrev n_law_read : List Str := ["_law_act", "e"]
theorem sc_law_read : FnScope n_law_read ["_law_act"] (defScope s_law_read) := ⟨rfl, rfl, rfl, by decide +kernel, rfl, by decide +kernel, by decide +kernel⟩
theorem bi_law_read : ∀ (kV doc pm : Value) (an : Option Addr) (cdv ct : Value) (us : List Value), us.length = 1 → bindArgs (PySem.W.fnOf d_law_read.name d_law_read.qual d_law_read.params d_law_read.body d_law_read.scope .none kV doc pm an cdv ct) ⟨us, []⟩ = pure ([("_law_act" : Str)].zip us) := fun kV doc pm an cdv ct us hu => by
  match us, hu with
  | [u0], _ => rfl
/-- what _law_read makes of its callable: ('told', x), or ('none', None) where a NoText is let out -/
def TTr (K : PySem.W.Frag) : (XK → Hp → VK → Prop) → Hp → VK → Prop := fun tl H Q =>
  tl (fun cls d H' => cls = .ref (CN K) ∧ d = none ∧ ∀ p, H' p = none → Q (.ref p) (upd H' p (.tup [.str "none", .non]))) H fun v H' => [V.str "told", v].length ≤ sizeLine ∧ ∀ p, H' p = none → Q (.ref p) (upd H' p (.tup [.str "told", v]))
def tsRead (K : PySem.W.Frag) (a : Addr) : TS := tRet (tIf (tAnd (tB (tCB (rIsE K (CN K) a) (tCons (tVar 1) (tCons (tC (.ref (ga K "NoText"))) tNil)))) (tNot (tB (tCB (rIsE K (CN K) a) (tCons (tVar 1) (tCons (tC (.ref (ga K "Wrong"))) tNil))))))
  (tTup (tCons (tC (.str "none")) (tCons (tC .non) tNil))) (tTup (tCons (tC (.str "other")) (tCons (tC .non) tNil))))
theorem read_gives (W : Wl K mg) {N : List Str} {qual : Str} {scope : Scope} {f0 : Addr} {cdv0 : Value} {A : Around} {outer : List Env} {s0 : Shared} {H0 : Hp} {E0 : L2.XK} {cdg : Value} {q : Str} :
    LamX.GivesTo (cxOf (CXN w) P0 w K mg base N qual scope f0 cdv0 A outer s0 H0 E0).nox n_law_read "_law_read" (defScope s_law_read) (ga K "_law_read") cdg (defBody s_law_read) "_law_act" q (TTr K) := by
  intro f c' s H Q tl act hc h
  have nd := sc_law_read.nd
  have e1 : PySem.W.kitOne K (.ref (CN K)) (.ref (ga K "NoText")) = some true := W.kit (p := ("NoText", "NoText", true)) (by simp [ks])
  have e2 : PySem.W.kitOne K (.ref (CN K)) (.ref (ga K "Wrong")) = some false := W.kit (p := ("NoText", "Wrong", false)) (by simp [ks])
  refine ⟨_, pss_one (ps_try_as (i := 1) (c := .ref (ga K "AloneError")) (ts := fun a cls d => if cls = .ref (CN K) ∧ d = none then tsRead K a else fun _ _ _ => False)
      (tb := fun W D σ H => ∃ Ech : L2.XK, (∀ cls d σ' H', Ech cls d H' → σ'.length = 2 → W cls d σ' H') ∧ tRet (tTup (tCons (tC (.str "told")) (tCons (fun σZ HZ Q => σZ[0]? = some (some (.ref f)) ∧ HZ c' = some (LamX.CodeO c' q) ∧ tl Ech HZ Q) tNil))) D σ H)
      rfl rfl nd rfl rfl ⟨rfl, by decide, .inl W.g_AloneError⟩ LamX.takes0 (fun Wx pn xe tk _ => ?_) (fun a oe cls d pn hz hf => ?_)), ?_⟩
  · refine ⟨fun pins s' σ H' D I h' => ?_⟩
    obtain ⟨Ech, hW, h1⟩ := h'
    have hp := fun p1 p2 => act _ pn xe Ech p1 p2 (XP.takes_len tk) (fun cls d σ' H' z => hW cls d σ' H' z)
    refine PSs.run ?_ pins s' σ H' D I h1
    exact pss_one (ps_ret (pe_tup (pa_cons pe_str (pa_cons (hp _ _) pa_nil))))
  · by_cases hcd : cls = .ref (CN K) ∧ d = none
    · rw [if_pos hcd]
      obtain ⟨rfl, rfl⟩ := hcd
      exact pss_one (ps_ret (pe_ifExp (PW.pt (pw_and (pt_val (pe_callB (call_isE W.cat_x_NoText hz hf) (by rfl) W.f_isinstance (by decide +kernel) (pa_cons (pv 1) (pa_cons (pe_glob (v := .ref (ga K "NoText")) (by rfl) W.g_NoText rfl) pa_nil))))
        (pw_and1 (pt_not (pt_val (pe_callB (call_isE W.cat_x_NoText hz hf) (by rfl) W.f_isinstance (by decide +kernel) (pa_cons (pv 1) (pa_cons (pe_glob (v := .ref (ga K "Wrong")) (by rfl) W.g_Wrong rfl) pa_nil))))))))
        (pe_tup (pa_cons pe_str (pa_cons pe_non pa_nil))) (pe_tup (pa_cons pe_str (pa_cons pe_non pa_nil)))))
    · rw [if_neg hcd]
      exact pss_never
  · refine ⟨fun cls d H' => cls = .ref (CN K) ∧ d = none ∧ ∀ p, H' p = none → Q (.ref p) (upd H' p (.tup [.str "none", .non])), ?_, rfl, hc, ?_⟩
    · rintro cls d σ' H' ⟨rfl, rfl, hq⟩ hlen
      refine ⟨true, W.x_NoText_AloneError, fun _ a ha => ?_, nofun⟩
      obtain ⟨x0, x1, rfl⟩ : ∃ x0 x1, σ' = [x0, x1] := by
        match σ', hlen with
        | [x0, x1], _ => exact ⟨x0, x1, rfl⟩
      rw [if_pos ⟨rfl, rfl⟩]
      refine ⟨_, rfl, _, _, true, rfl, fun u r => r, e1, true, rfl, iteT ⟨_, rfl, _, _, false, rfl, fun u r => r, e2, false, rfl, ?_⟩⟩
      exact iteE true rfl (iteT ⟨by show 2 ≤ sizeLine; decide, fun p hp => hq p hp⟩)
    · exact h
end
end K92
end

section
set_option Elab.async false
set_option linter.all false
set_option maxRecDepth 100000
set_option maxHeartbeats 4000000
/-! sorted(set(x)), x a tuple of texts. -/
namespace XS
open PySem PySem.Spec PyProof.Rows L2
def txOf : Int × Value → Str := fun e => match e.2 with
  | .str k _ => k
  | _ => Str.empty
/-- the rows and the table of a set of texts; l: its members -/
structure Held (w : World) (es : Array (Int × Value)) (t : SetTable) (l : List Str) : Prop where
  each : ∀ e ∈ es.toList, ∃ k tk, e.2 = Value.str k tk ∧ e.1 = hashStr w k
  keys : (es.toList.map txOf).Perm l
  room : es.size < scanBound
  fits : t.fits es.size = true
  ris : Ris t.place.toList
  led : w.params.followText "set-order" = true ∨ t.led = true
def TSet (w : World) (h : Heap) (a : Addr) (l : List Str) : Prop := ∃ o es ep t, h.get? a = some o ∧ o.ExactSet ∧ o.data = .set es ep t ∧ Held w es t l
section
variable {P : Program} {w : World} {A : Around} {E : Value → Shared → Prop} {s : Shared} {a : Addr} {l : List Str} {es : Array (Int × Value)} {t : SetTable}
theorem TSet.keep {h h' : Heap} (T : TSet w h a l) (e : ∀ o, h.get? a = some o → h'.get? a = some o) : TSet w h' a l := let ⟨o, es, ep, t, x, y⟩ := T; ⟨o, es, ep, t, e o x, y⟩
theorem Held.size (F : Held w es t l) : es.size = l.length := by
  rw [← F.keys.length_eq, List.length_map, Array.length_toList]
theorem Held.elems (F : Held w es t l) : ElemsOf (strKind P w) es.toList := fun e he => by
  obtain ⟨k, tk, h1, h2⟩ := F.each e he
  rw [h1]
  exact ⟨⟨k, strKind_is _ _ _ _, h2⟩, rfl⟩
theorem is_key {e : Int × Value} {k k' : Str} {tk : Tok} (h : e.2 = Value.str k tk) : (strKind P w).is k' e.2 = true ↔ k = k' := by
  constructor
  · intro q
    rw [h] at q
    exact (strKind P w).inj (.str k tk) k k' (strKind_is _ _ _ _) q
  · intro q
    rw [h, q]
    exact strKind_is _ _ _ _
theorem Held.mem (F : Held w es t l) (k : Str) : k ∈ l ↔ ∃ e ∈ es.toList, (strKind P w).is k e.2 = true := by
  rw [← F.keys.mem_iff, List.mem_map]
  constructor
  · rintro ⟨e, he, q⟩
    obtain ⟨k', tk, h1, _⟩ := F.each e he
    refine ⟨e, he, (is_key h1).mpr ?_⟩
    rw [← q]
    unfold txOf
    rw [h1]
  · rintro ⟨e, he, q⟩
    obtain ⟨k', tk, h1, _⟩ := F.each e he
    refine ⟨e, he, ?_⟩
    unfold txOf
    rw [h1]
    exact (is_key h1).mp q
theorem Held.relay (F : Held w es t l) (n : Nat) : Held w (relayAll t es n).1 (relayAll t es n).2.1 l := by
  have p := relayAll_perm t es n
  have z : (relayAll t es n).1.size = es.size := by rw [← Array.length_toList, p.length_eq, Array.length_toList]
  refine ⟨fun e he => F.each e (p.mem_iff.mp he), (p.map txOf).trans F.keys, by rw [z]; exact F.room, relayAll_fits t es n, relayAll_ris t es n, F.led.imp id fun q => by rw [relayAll_led]; exact q⟩
theorem Held.lay (F : Held w es t l) (k : Str) (tk : Tok) (hz : l.length + 1 < scanBound) : Held w (layNew t es (hashStr w k) (.str k tk)).1 (layNew t es (hashStr w k) (.str k tk)).2.1 (k :: l) := by
  have p := layNew_perm t es (hashStr w k) (.str k tk)
  rw [Array.toList_push] at p
  have p2 := p.trans (List.perm_append_singleton _ _)
  have z : (layNew t es (hashStr w k) (.str k tk)).1.size = l.length + 1 := by rw [← Array.length_toList, p2.length_eq, List.length_cons, Array.length_toList, F.size]
  refine ⟨fun e he => ?_, (p2.map txOf).trans (F.keys.cons k), by rw [z]; exact hz, layNew_fits t es (hashStr w k) (.str k tk), layNew_ris t es (hashStr w k) (.str k tk) F.ris, F.led.imp id fun q => by rw [layNew_led]; exact q⟩
  rcases List.mem_cons.mp (p2.mem_iff.mp he) with q | q
  · rw [q]
    exact ⟨k, tk, rfl, rfl⟩
  · exact F.each e q
theorem tail_at {g : Bool → Sem Unit} (hg : ∀ (b : Bool) (s₁ : Shared) (Q' : Unit → Shared → Prop), Q' () s₁ → wpAny (model P w) A (g b) Q' E s₁) {o : Obj} {es0 es : Array (Int × Value)} {ep : Nat} {t0 t : SetTable} (ho : s.heap.get? a = some o)
    (hx : o.ExactSet) (hd : o.data = .set es0 ep t0) (F : Held w es t l) {old : Bool} {R : Option Bool → Shared → Prop} (hR : ∀ h', Heap.SameBut a s.heap h' → TSet w h' a l → R (some true) { s with heap := h' }) :
    wpAny (model P w) A (do
        storeSet a es t
        if (!old && t.tooFull) = true then do
            g (relayAll t es (SetTable.grown es.size)).2.2
            storeSet a (relayAll t es (SetTable.grown es.size)).1 (relayAll t es (SetTable.grown es.size)).2.1
            pure (some true)
          else pure (some true)) R E s := by
  have h1 := store_at (es' := es) (t' := t) ho hd
  have b1 := Heap.SameBut.update s.heap a (Obj.putSet es t)
  refine wpAny_bind (wpAny_storeSet_of ho hd ?_ (fits_of_scanBound F.room))
  split
  · have G := F.relay (SetTable.grown es.size)
    generalize relayAll t es (SetTable.grown es.size) = Z at G ⊢
    refine wpAny_bind (hg _ _ _ (wpAny_bind (wpAny_storeSet_of h1 rfl ?_ (fits_of_scanBound G.room))))
    exact wpAny_pure (hR _ (b1.trans (Heap.SameBut.update _ a _)) ⟨_, Z.1, _, Z.2.1, store_at (es' := Z.1) (t' := Z.2.1) h1 rfl, hx, rfl, G⟩)
  · exact wpAny_pure (hR _ b1 ⟨_, es, _, t, h1, hx, rfl, F⟩)
/-- one text put in -/
theorem add_at {k : Str} {tk : Tok} {Q : Bool → Shared → Prop} (T : TSet w s.heap a l) (hz : l.length + 1 < scanBound)
    (h1 : k ∈ l → Q false s) (h2 : k ∉ l → ∀ h', Heap.SameBut a s.heap h' → TSet w h' a (k :: l) → Q true { s with heap := h' }) :
    wpAny (model P w) A (setAddHashed a (.str k tk) ((strKind P w).hash k)) Q E s := by
  obtain ⟨o, es, ep, t, ho, hx, hd, F⟩ := T
  have hk : (strKind P w).is k (.str k tk) = true := strKind_is _ _ _ _
  have sc : (Value.str k tk).scannable = true := rfl
  have el : ElemsOf (strKind P w) es.toList := F.elems
  unfold setAddHashed setAddHashedIn
  refine wpAny_holding (wpAny_bind (wpAny_setState_of ho hd F.fits ?_))
  dsimp only
  rw [byScan_of sc F.room el]
  simp only [↓reduceIte]
  unfold setAddByScan
  refine wpAny_bind (wpAny_bind (wpAny_rule (wpAny_bind (wpAny_setScan_of hk ho hd F.fits el ?_))))
  cases hi : List.findIdx? (fun e => (strKind P w).is k e.2) es.toList with
  | some j =>
    obtain ⟨hj, pj, _⟩ := List.findIdx?_eq_some_iff_getElem.mp hi
    exact wpAny_pure (wpAny_pure (h1 ((F.mem (P := P) k).mpr ⟨es.toList[j], List.getElem_mem hj, pj⟩)))
  | none =>
    dsimp only
    have nk : k ∉ l := fun z => by
      obtain ⟨e, he, q⟩ := (F.mem (P := P) k).mp z
      have c := List.findIdx?_eq_none_iff.mp hi e he
      rw [q] at c
      cases c
    have gw : ∀ (b : Bool) {s₁ : Shared} {Q' : Unit → Shared → Prop}, Q' () s₁ → wpAny (model P w) A (match b with | true => rule "set.scan.the-table-gave-way" | false => pure ()) Q' E s₁ := fun b s₁ Q' q => by
      cases b
      · exact wpAny_pure q
      · exact wpAny_rule q
    have G := F.lay k tk hz
    have fin := h2 nk
    have hw : (strKind P w).hash k = hashStr w k := rfl
    rw [hw]
    generalize layNew t es (hashStr w k) (.str k tk) = Z at G ⊢
    obtain ⟨es1, t1, old, gave⟩ := Z
    dsimp only at G ⊢
    have F2 : Held w es1 t1 (k :: l) := G
    refine wpAny_bind (gw _ ?_)
    split
    · refine wpAny_bind ?_
      rw [hashByValue_scannable 8 sc]
      refine wpAny_pure ?_
      have F3 : Held w es1 (if plainKind (Value.str k tk) = true then t1 else { t1 with plain := false }) (k :: l) := by
        split
        · exact F2
        · exact ⟨F2.each, F2.keys, F2.room, SetTable.fits_plain_off F2.fits, F2.ris, F2.led⟩
      refine tail_at ?_ ho hx hd F3 ?_
      · intro b s₁ Q' q
        cases b
        · exact wpAny_pure q
        · exact wpAny_rule q
      · intro h' sb T
        exact wpAny_pure (fin h' sb T)
    · refine wpAny_bind (wpAny_pure ?_)
      simp only [↓reduceIte]
      refine tail_at ?_ ho hx hd F2 ?_
      · intro b s₁ Q' q
        cases b
        · exact wpAny_pure q
        · exact wpAny_rule q
      · intro h' sb T
        exact wpAny_pure (fin h' sb T)
/-- the new set -/
abbrev Fresh (w : World) : Obj := { cls := .type "set", dict := none, data := .set #[] 0 (.fresh 0 0 (!w.params.followText "set-order")) }
theorem fresh_set {h : Heap} (ho : h.get? a = some (Fresh w)) : TSet w h a [] := by
  refine ⟨_, #[], 0, _, ho, ⟨rfl, rfl, rfl⟩, rfl, ⟨(fun e he => by simp at he), List.Perm.refl _, by decide, rfl, List.Pairwise.nil, ?_⟩⟩
  show _ ∨ (!w.params.followText "set-order") = true
  cases w.params.followText "set-order"
  · exact .inr rfl
  · exact .inl rfl
/-- what is met so far -/
def Met (xs : List Str) (l : List Str) : Prop := l.Nodup ∧ (∀ k, k ∈ l ↔ k ∈ xs)
theorem Met.nil : Met [] [] := ⟨List.nodup_nil, fun k => Iff.rfl⟩
theorem Met.old {xs l : List Str} {k : Str} (h : Met xs l) (hk : k ∈ l) : Met (xs ++ [k]) l := ⟨h.1, fun j => by
  rw [h.2 j, List.mem_append, List.mem_singleton]
  exact ⟨.inl, fun z => z.elim id fun e => (h.2 j).mp (e ▸ hk)⟩⟩
theorem Met.more {xs l : List Str} {k : Str} (h : Met xs l) (hk : k ∉ l) : Met (xs ++ [k]) (k :: l) := ⟨List.nodup_cons.mpr ⟨hk, h.1⟩, fun j => by
  rw [List.mem_cons, h.2 j, List.mem_append, List.mem_singleton]
  exact Or.comm⟩
theorem nodup_len : ∀ (l xs : List Str), l.Nodup → (∀ k ∈ l, k ∈ xs) → l.length ≤ xs.length
  | [], _, _, _ => Nat.zero_le _
  | k :: l, xs, hn, h => by
    obtain ⟨h1, h2⟩ := List.nodup_cons.mp hn
    have hk := h k (by simp)
    have ih := nodup_len l (xs.erase k) h2 fun j hj => (List.mem_erase_of_ne fun (e : j = k) => h1 (by rw [← e]; exact hj)).mpr (h j (by simp [hj]))
    rw [List.length_erase_of_mem hk] at ih
    have := List.length_pos_of_mem hk
    rw [List.length_cons]
    omega
theorem Met.len {xs l : List Str} (h : Met xs l) : l.length ≤ xs.length := nodup_len l xs h.1 fun k hk => (h.2 k).mp hk
/-- the loop of set(x) -/
theorem fill {I S : Addr} {fp wr : List Addr} {G : Array GenState → Array GenState → Prop} {n : Nat} {Pv : Nat → Value → Prop} {St : Nat → Shared → Prop} {R : Result → Shared → Prop} (W : WalksS P w A.in1 I fp wr G n Pv St) (nS : S ∉ fp) (xs : List Str)
    (hn : xs.length = n) (hsm : n < 1000) (hv : ∀ i v, Pv i v → ∃ tk k, xs[i]? = some k ∧ v = .str k tk) : ∀ (m i : Nat) (s : Shared), m + i = n → St i s → (∃ l, TSet w s.heap S l ∧ Met (xs.take i) l) →
      (∀ s' l, Moved (S :: wr) G s s' → TSet w s'.heap S l → Met xs l → R (.ok (.ret .none)) s') → codeAny (model P w) A (.builtin "set.update.loop" ⟨[.ref S, .ref I], []⟩) R s := by
  have nW : S ∉ wr := fun z => nS (W.sub _ z)
  have up : ∀ b ∈ wr, b ∈ S :: wr := fun b z => List.mem_cons_of_mem _ z
  intro m
  induction m with
  | zero =>
    intro i s hi hst ⟨l, T, hl⟩ hR
    obtain rfl : i = n := by omega
    refine codeAny_builtin F.entry_set_update_loop ?_
    rw [Around.under_plainId F.plain_set_update_loop _]
    show wpAny _ A.in1 (pyNext (.ref I) >>= _) _ _ s
    refine wpAny_bind (W.done s _ _ hst fun s2 mv => ?_)
    show wpAny _ A.in1 (ret Value.none) _ _ s2
    refine wpAny_pure (hR s2 l (mv.mono up) (T.keep fun o e => mv.heap S o nW e) ?_)
    rw [← hn, List.take_length] at hl
    exact hl
  | succ m ih =>
    intro i s hi hst ⟨l, T, hl⟩ hR
    have hlt : i < n := by omega
    refine codeAny_builtin F.entry_set_update_loop ?_
    rw [Around.under_plainId F.plain_set_update_loop _]
    show wpAny _ A.in1 (pyNext (.ref I) >>= _) _ _ s
    refine wpAny_bind (W.item i s _ _ hlt hst fun v s2 pv hst2 mv => ?_)
    obtain ⟨tk, k, hk, rfl⟩ := hv i v pv
    have T2 : TSet w s2.heap S l := T.keep fun o e => mv.heap S o nW e
    have tk1 : xs.take (i + 1) = xs.take i ++ [k] := by rw [List.take_succ, hk] <;> rfl
    have ll : l.length ≤ i := Nat.le_trans hl.len (by rw [List.length_take]; omega)
    show wpAny _ A.in1 (holding [Value.str k tk] (setAdd S (.str k tk)) >>= _) _ _ s2
    unfold setAdd
    refine wpAny_bind (wpAny_holding (wpAny_holding (wpAny_bind ((strKind P w).pyHash (k := k) (strKind_is _ _ _ _) ?_))))
    refine add_at (s := { s2 with toks := s2.toks + 1 }) T2 (by unfold scanBound; omega) (fun kin => ?_) (fun kout h3 sb T3 => ?_)
    · refine wpAny_pure ⟨plainId_quiet F.plain_set_update_loop _, ih (i + 1) _ (by omega) (W.frame _ s2 _ _ hst2 (Nat.le_succ _) fun b hb o e => e) ⟨l, T2, by rw [tk1]; exact hl.old kin⟩ fun s4 l4 mv4 T4 hl4 => ?_⟩
      exact hR s4 l4 (Moved.trans W.gtrans ((mv.mono up).then_heap (Nat.le_succ _) fun b o hb e => e) mv4) T4 hl4
    · refine wpAny_pure ⟨plainId_quiet F.plain_set_update_loop _, ih (i + 1) _ (by omega) (W.frame _ s2 _ _ hst2 (Nat.le_succ _) fun b hb o e => ?_) ⟨k :: l, T3, by rw [tk1]; exact hl.more kout⟩ fun s4 l4 mv4 T4 hl4 => ?_⟩
      · rw [sb.2 b (fun z : b = S => nS (z ▸ hb))]
        exact e
      · refine hR s4 l4 (Moved.trans W.gtrans ((mv.mono up).then_heap (Nat.le_succ _) fun b o hb e => ?_) mv4) T4 hl4
        rw [sb.2 b (fun z : b = S => hb (by rw [z]; exact List.mem_cons_self))]
        exact e
theorem str_at : ∀ {us : List Value} {xs : List Str}, StrsAre us xs → ∀ (i : Nat) (v : Value), us[i]? = some v → ∃ tk k, xs[i]? = some k ∧ v = .str k tk
  | _, _, .nil, i, v, h => by simp at h
  | _, _, .cons k tk r, 0, v, h => by
    simp at h
    exact ⟨tk, k, rfl, h.symm⟩
  | _, _, .cons k tk r, i + 1, v, h => by
    simp only [List.getElem?_cons_succ] at h ⊢
    exact str_at r i v h
set_option maxHeartbeats 8000000 in
/-- set(x), x a tuple of texts -/
theorem call_set {q : Addr} {items : Array Value} {xs : List Str} {Q : Value → Shared → Prop} (hh : A.handled = none) (ht : s.heap.IsTuple q items) (hi : StrsAre items.toList xs) (hsm : xs.length < 1000)
    (h : ∀ (h2 : Heap) (tk : Nat) (l : List Str), TSet w h2 s.heap.objs.size l → Met xs l → (∀ b o, s.heap.get? b = some o → h2.get? b = some o) → Q (.ref s.heap.objs.size) { s with heap := h2, toks := tk }) : wpAny (model P w) A (call (.type "set") [.ref q]) Q E s := by
  obtain ⟨mc, mt, mq⟩ := F.called_set.mro
  have c1 := F.called_set.made
  have c2 := F.called_set.sub
  refine wpAny_call (codeAny_of_tree ?_)
  show wpAny _ _ (callAny (.type "set") _) _ _ _
  refine wpAny_pure ⟨Code.quiet_builtin _ (by decide +kernel), codeAny_builtin F.entry_type_call ?_⟩
  rw [Around.under_plain (weight_type_call_type "set" [.ref q] []) rfl]
  have c3 := F.called_set.notType
  have c4 := F.called_set.canCreate
  have c5 := F.typeCall_set_1 (.ref q)
  repeat (any_goals (first | assumption | wp_step))
  refine codeAny_mono (code_set_led1 (.ref q) (E := E) (Q₁ := fun v s1 => v = .ref s.heap.objs.size ∧ s1 = { s with heap := s.heap.push (Fresh w) }) ⟨rfl, rfl⟩) fun r0 s0 hr0 => ?_
  cases r0 with
  | error e => exact hr0
  | ok fl0 =>
    cases fl0 with
    | ret v0 =>
      obtain ⟨rfl, rfl⟩ := hr0
      have n0 : (s.heap.push (Fresh w)).get? s.heap.objs.size = some (Fresh w) := Heap.get?_push_size _ rfl
      have ty : Shared.TypeIs { s with heap := s.heap.push (Fresh w) } (.ref s.heap.objs.size) "set" := ⟨_, n0, rfl⟩
      have c6 := F.called_set.init.lookup
      have c7 := F.called_set.init.bind (.ref s.heap.objs.size)
      repeat (any_goals (first | assumption | wp_step))
      refine codeAny_mono (codeAny_call_builtin (R := wants (fun r s2 => r = .none ∧ ∃ h2 tk l, s2 = { s with heap := h2, toks := tk } ∧ TSet w h2 s.heap.objs.size l ∧ Met xs l ∧ (∀ b o, s.heap.get? b = some o → h2.get? b = some o)) E)
        F.called_set.init.plain F.entry_set_init (check_set_init_1 ty ?_)) fun r1 s1 hr1 => ?_
      · obtain ⟨oq, hoq, hcq, nq, hdq⟩ := ht
        obtain ⟨qc, qd, qx, qs⟩ := oq
        simp only at hcq hdq
        subst hcq hdq
        have at1 : (s.heap.push (Fresh w)).get? q = some { cls := .type "tuple", dict := qd, data := .seq items nq, slots := qs } := Heap.get?_push_of_some _ hoq
        have d1 := F.sub_tuple_set
        have d2 := F.sub_tuple_frozenset
        have d3 : (Value.type "tuple" == Value.type "dict") = false := by decide
        have it1 : (s.heap.push (Fresh w)).IsTuple q items := ⟨_, at1, rfl, nq, rfl⟩
        unfold Builtin.«set.__init__» noKeywords Builtin.Frozenset.updateFrom
        generalize hI : pyIter = I0
        wp_walk
        subst hI
        refine wpAny_pyIter_tuple it1 (wpAny_bind (wpAny_runValue ?_))
        have lq : q < s.heap.objs.size := Heap.lt_size hoq
        have hd3 : A.in1.in1.in1.handled = none := by simp [hh]
        have z1 : (s.heap.push (Fresh w)).objs.size = s.heap.objs.size + 1 := Heap.size_push ..
        have ne1 : q ≠ (s.heap.push (Fresh w)).objs.size := by
          rw [z1]
          exact Nat.ne_of_lt (Nat.lt_succ_of_lt lq)
        have ne2 : s.heap.objs.size ∉ [(s.heap.push (Fresh w)).objs.size, q] := by
          rw [z1, List.mem_cons, List.mem_singleton, not_or]
          exact ⟨Nat.ne_of_lt (Nat.lt_succ_self _), Nat.ne_of_gt lq⟩
        have zx : xs.length = items.size := by
          rw [← Array.length_toList, hi.len_eq]
        refine fill ((Walks.tuple hd3 _ q ne1 items).toS) ne2 xs zx (by omega) (fun i v hv => str_at hi i v (by rw [Array.getElem?_toList]; exact hv)) items.size 0 _ (by omega) ⟨⟨_, Heap.get?_push_size _ rfl, rfl, rfl⟩, it1.push _⟩
          ⟨[], fresh_set (Heap.get?_push_of_some _ n0), Met.nil⟩ fun s2 l mv T m => ?_
        obtain ⟨h2, g2, d2, tk2, os2⟩ := s2
        obtain rfl : g2 = s.gens := mv.gens
        obtain rfl : d2 = s.drawn := mv.drawn
        obtain rfl : os2 = s.os := mv.os
        show wpAny _ _ _ _ _ _
        refine wpAny_pure ?_
        show wpAny _ _ (ret Value.none) _ _ _
        refine wpAny_pure ⟨rfl, h2, tk2, l, rfl, T, m, fun b o e => ?_⟩
        have lb := Heap.lt_size e
        refine mv.heap b o (fun z => ?_) (Heap.get?_push_of_some _ (Heap.get?_push_of_some _ e))
        rw [z1] at z
        rcases List.mem_cons.mp z with z | z
        · exact absurd lb (by rw [z]; exact Nat.lt_irrefl _)
        · exact absurd lb (by rw [List.mem_singleton.mp z]; exact Nat.not_lt_of_le (Nat.le_succ _))
      · cases r1 with
        | error e => exact hr1
        | ok fl1 =>
          cases fl1 with
          | ret v1 =>
            obtain ⟨rfl, h2, tk, l, rfl, T, m, k⟩ := hr1
            repeat (any_goals (first | assumption | wp_step))
            exact h _ _ _ T m k
          | _ => exact hr1.elim
    | _ => exact hr0.elim
end
end XS
end

section
set_option Elab.async false
set_option linter.all false
set_option maxRecDepth 100000
set_option maxHeartbeats 4000000
/-! sorted(set(x)), x a tuple of texts: the rule. -/
namespace XS
open PySem PySem.Spec PyProof.Rows L2
section
variable {P : Program} {w : World} {A : Around} {E : Value → Shared → Prop} {s : Shared} {a : Addr} {l : List Str}
theorem strs_of : ∀ (us : List Value), (∀ v ∈ us, ∃ k tk, v = Value.str k tk) → ∀ (f : Value → Str), (∀ k tk, f (.str k tk) = k) → StrsAre us (us.map f)
  | [], _, _, _ => .nil
  | v :: us, h, f, hf => by
    obtain ⟨k, tk, rfl⟩ := h v List.mem_cons_self
    rw [List.map_cons, hf]
    exact .cons k tk (strs_of us (fun u hu => h u (List.mem_cons_of_mem _ hu)) f hf)
def txV : Value → Str
  | .str k _ => k
  | _ => Str.empty
theorem sorted_tset {Q : Value → Shared → Prop} (T : TSet w s.heap a l) (hh : A.handled = none) (h64 : l.length < 64)
    (hQ : ∀ s2 p (out : Array Value) (c : Nat) (ys : List Str), (∀ b o, s.heap.get? b = some o → s2.heap.get? b = some o) → s2.gens = s.gens → s2.os = s.os → s.heap.objs.size ≤ p →
      s2.heap.get? p = some (seqObj "list" out c) → StrsAre out.toList ys → ys.Perm l → sortedS ys = true → Q (.ref p) s2) : wpAny (model P w) A (call (.builtin "sorted") [.ref a]) Q E s := by
  obtain ⟨o, es, ep, t, ho, hx, hd, F⟩ := T
  refine Calls.call_function_entry kind_sorted plain_sorted entry_sorted (args_sorted1 _) ?_
  unfold Builtin.«sorted»
  refine wpAny_bind (m := checkCount "sorted" 1 1 _) (wpAny_pure (wpAny_bind (collect_set (A := A.in1) hh ⟨o, ho, hx.1, hd⟩ F.fits F.room F.ris F.led fun s1 us k1 z1 g1 o1 pm => ?_)))
  have lu : us.length = l.length := by rw [pm.length_eq, List.length_map, Array.length_toList, F.size]
  have hS : StrsAre us (us.map txV) := strs_of us (fun v hv => by
    obtain ⟨e, he, q⟩ := List.mem_map.mp (pm.mem_iff.mp hv)
    obtain ⟨k, tk, h1, _⟩ := F.each e he
    exact ⟨k, tk, by rw [← q]; exact h1⟩) txV fun _ _ => rfl
  have pk : (us.map txV).Perm l := by
    have q := pm.map txV
    rw [List.map_map] at q
    exact q.trans F.keys
  refine wpAny_bind (wpAny_newList ?_ (by rw [lu, sizeLine_eq]; omega))
  have oL : (s1.heap.push (seqObj "list" us.toArray 0)).get? s1.heap.objs.size = some (seqObj "list" us.toArray 0) := Heap.get?_push_size _ rfl
  refine wpAny_bind (wpAny_holding (wpAny_call_entry slot_list_sort ⟨_, oL, rfl⟩ entry_list_sort (list_sort_treeK strKind_oneLt oL hS.keysOf (fun v1 v2 rest e => keyKind_strs (by rw [← e]; exact hS)) (by rw [lu]; exact h64) fun st hp hs => ⟨_, rfl, ?_⟩) (args_list_sort _)))
  obtain ⟨ys, y1, y2, y3⟩ := sorted_out_str hS hp hs
  obtain ⟨c, hc⟩ := sortedHeap_at (vs := us) (out := (arrOf st).map (·.2)) oL
  refine wpAny_pure ⟨_, rfl, hQ _ s1.heap.objs.size _ c ys (fun b u e => ?_) g1 o1 z1 hc y1 (y2.trans pk) y3⟩
  have q := k1 b u e
  have lt := Heap.lt_size q
  show (sortedHeap (s1.heap.push (seqObj "list" us.toArray 0)) s1.heap.objs.size us _).get? b = some u
  rw [sortedHeap_old (Nat.ne_of_lt lt) (by rw [size_push']; exact Nat.lt_succ_of_lt lt)]
  exact Heap.get?_push_of_some _ q
end
end XS
namespace XS
open PySem PySem.Spec PyProof.Rows L2
section
variable {X : Cx}
/-- sorted(set(x)), x a tuple of texts -/
def tSortSet (K : PySem.W.Frag) (ta : TE) : TE := fun σ H Q => ta σ H fun x H1 => ∃ (t : Addr) (xs : List Str), x = .ref t ∧ SqT K H1 t (xs.map V.str) ∧ xs.length < 64 ∧
  ∀ (ys : List Str) (p : Addr), ys.Nodup → (∀ k, k ∈ ys ↔ k ∈ xs) → sortedS ys = true → H1 p = none → Q (.ref p) (upd H1 p (.lst (ys.map V.str)))
theorem pe_sortSet {a : Expr} {ta : TE} {p p2 q pos : Pos} (hc : X.calm = true) (hg : Gl X "sorted") (hm : X.mg "sorted" = none) (hg2 : Gl X "set") (hm2 : X.mg "set" = none) (ha : PE X a ta)
    (na : starEach [a] X.env = (false, eval a X.env) :: starEach [] X.env := by rfl) : PE X (.Call (.Name "sorted" p) [.Call (.Name "set" p2) [a] [] q] [] pos) (tSortSet X.K ta) := by
  refine ⟨fun pins s σ H Q I h => ?_⟩
  refine Call_ (ld_blt I hg hm boot_sorted ?_)
  refine PyProof.Rows.callWith_builtin1 (PyProof.Rows.args_cons ?_ rfl) rfl rfl
  refine Call_ (ld_blt I hg2 hm2 boot_set ?_)
  refine PyProof.Rows.callWith_type1 (PyProof.Rows.args_cons (thn (ha.run pins s σ H _ I h) fun v s1 ⟨x, H1, I1, r1, q1⟩ => PyProof.Rows.args_nil ?_) na) na rfl
  obtain ⟨t, xs, rfl, hq, h64, q1⟩ := q1
  cases r1
  obtain ⟨its, r, pl, hz⟩ := I1.tuple hq
  refine call_set (I1.ok.hd hc) pl (by simpa using strsAre_of r) (by omega) fun h2 tk l T m k2 => ?_
  refine PyProof.Rows.args_nil ?_
  have I2 : Inv X pins σ H1 { s1 with heap := h2, toks := tk } := I1.kept k2
  have T2 : TSet X.w ({ s1 with heap := h2, toks := tk } : Shared).heap s1.heap.objs.size l := T
  generalize ({ s1 with heap := h2, toks := tk } : Shared) = s2 at I2 T2 ⊢
  refine sorted_tset T2 (I2.ok.hd hc) (by have := m.len; omega) fun s3 b out c ys k g o hp hg hi pm so => ?_
  have nd : ys.Nodup := pm.nodup_iff.mpr m.1
  have hlen : (ys.map V.str).length ≤ sizeLine := by
    rw [List.length_map, pm.length_eq, sizeLine_eq]
    have := m.len
    omega
  have hn : H1 b = none := I2.hok.fresh hp
  have J : Inv X pins σ (upd H1 b (.lst (ys.map V.str))) { s2 with heap := s3.heap, gens := s3.gens, drawn := s3.drawn, toks := s3.toks } :=
    I2.call (ch := []) (Un.laid k hp hn) (I2.hok.laid k hp ⟨hlen, out.toList, c, vals_of_strs hi, hg⟩) (by rw [g]; exact I2.bare) (fun _ z => nomatch z)
  have e : s3 = { s2 with heap := s3.heap, gens := s3.gens, drawn := s3.drawn, toks := s3.toks } := by
    cases s3
    cases s2
    cases o
    rfl
  rw [e]
  exact ⟨.ref b, _, J, rfl, q1 ys b nd (fun j => (pm.mem_iff).trans (m.2 j)) so hn⟩
end
end XS
end

section
set_option Elab.async false
set_option linter.all false
set_option maxRecDepth 100000
set_option maxHeartbeats 4000000
/-! A list comprehension whose item may raise: the exception goes on in the def. -/
namespace PySem
namespace HandSPX
section
variable {M : Model} {A : Around} {E : Value → Shared → Prop} {s : Shared} {Z : Obj → Prop} {base : Heap} {env : Env} {outer l : List Env} {L e : Addr}
/-- noted, by whatever frame it was noted ahead -/
theorem looks_odd {fl : Value} {Q : Unit → Shared → Prop} (hZ : Steady Z) (hfr : A.frames = some (env :: outer)) (hf : env.frame = some L) (b1 : base.StaysIn s.heap) (b2 : base.get? e = none) (b3 : s.heap.FunFrames base (env :: outer)) (b4 : TracedZ s.heap base e Z fl)
    (hfl : (fl == rawInt L) = false) (hQ : ∀ g, HeldZ base (env :: outer) e Z L g → s.heap.UpToSlots g → Q () { s with heap := g }) : wpAny M A (noteFrame (.ref e) env) Q E s := by
  obtain ⟨ob, fs, T, ot, ts, g1, g2, g3, g4, g5, g6, g7, g8, g9⟩ := b4
  unfold noteFrame
  simp only [hf]
  refine wpAny_bind (wpAny_field g1 g3 g4 ?_)
  rw [if_pos (show (Value.ref T != Value.none) = true by simp)]
  refine wpAny_bind (wpAny_field g7 g8 g9 ?_)
  rw [if_neg (by rw [hfl]; exact Bool.false_ne_true)]
  refine wpAny_bind (wpAny_setField g7 g8 (Array.getElem?_eq_some_iff.mp g9).1 ?_)
  have oth : ∀ b, b ≠ T → (s.heap.update T (Obj.mapFields (·.setIfInBounds 3 Value.none))).get? b = s.heap.get? b := fun b hb => Heap.get?_update_other _ _ (Ne.symm hb)
  have noT : ∀ b o, s.heap.get? b = some o → (∀ us, o.data ≠ .fields us) → b ≠ T := fun b o h1 h2 z => by
    rw [z, g7] at h1
    injection h1 with h1
    subst h1
    exact h2 ts g8
  refine wpAny_entryZ hZ hfr (b3.of_keeps fun b o h1 h2 => ⟨o, (oth b (noT b o h1 h2)).trans h1, rfl⟩) hf ((oth e (Ne.symm g6)).trans g1) (fun b o hb => (oth b fun z => by rw [z, g5] at hb; cases hb).trans (b1 b o hb)) b2 g3 (Array.getElem?_eq_some_iff.mp g4).1 g2 fun g hN => ?_
  obtain ⟨n1, n2, n3, n4⟩ := hN
  exact hQ g ⟨n1, b2, n2, n3⟩ fun b o h1 h2 => n4 b o ((oth b (noT b o h1 h2)).trans h1) h2
end
end HandSPX
end PySem
namespace XL
open PySem PySem.Spec PyProof.Rows L2 HandSPX
/-- the block's context, with the def's wish about exceptions -/
abbrev blkX (X : Cx) (s : Shared) (H : Hp) (scope : Scope) (ce : Env) (fp : List Addr) : Cx := { X.blk s H scope ce fp with xe := notedBy (model X.prog X.w) X.A ce (CompFails (model X.prog X.w) X.A X.xe ce) }
section
variable {X : Cx} {pins : List (Addr × Obj)} {σ : L2.St} {H : Hp} {s : Shared}
theorem blkX_inv {s1 : Shared} {H1 : Hp} {scope : Scope} {ce : Env} {fp : List Addr} (I : Inv (X.blk s1 H1 scope ce fp) pins σ H s) : Inv (blkX X s1 H1 scope ce fp) pins σ H s :=
  ⟨⟨I.ok.mod, I.ok.kind, I.ok.glob, I.ok.blt, I.ok.above, I.ok.inj, I.ok.has, I.ok.cab, I.ok.hd, I.ok.frames, I.ok.stk, I.ok.exf, I.ok.bs, I.ok.bsz, I.ok.noex, I.ok.exfs, I.ok.funs, I.ok.frf⟩, I.os, I.bare, I.base, I.loc, I.cell, I.free, I.freeC, I.pin, I.hok, I.len⟩
theorem traced_but {h h2 base B2 : Heap} {C e : Addr} {Z : Obj → Prop} {fl : Value} {m : Str → Option Value} (hb : Heap.SameBut C h h2) (hC : h.Ns C m) (hB : ∀ b, base.get? b = none → B2.get? b = none) (t : TracedZ h base e Z fl) : TracedZ h2 B2 e Z fl := by
  obtain ⟨ob, fs, T, ot, ts, g1, g2, g3, g4, g5, g6, g7, g8, g9⟩ := t
  have no : ∀ b o us, h.get? b = some o → o.data = .fields us → b ≠ C := fun b o us h1 h2 z => by
    obtain ⟨oc, es, ep, q1, q2, _⟩ := hC
    rw [z, q1] at h1
    injection h1 with h1
    subst h1
    rw [q2] at h2
    cases h2
  exact ⟨ob, fs, T, ot, ts, (hb.2 e (no _ _ _ g1 g3)).trans g1, g2, g3, g4, hB _ g5, g6, (hb.2 T (no _ _ _ g7 g8)).trans g7, g8, g9⟩
/-- what the item lets out, the def lets out -/
theorem takes_blk {E : XK} {scope : Scope} {ce : Env} {fp : List Addr} {pins0 : List (Addr × Obj)} {σ0 : L2.St} {H3 : Hp} {s3 : Shared} (tk : Takes X fun c d _ H => E c d H) (hs : X.stack = X.env :: X.outer) (hf : X.env.frame = some X.env.locals) (I3 : Inv X pins0 σ0 H3 s3)
    (hfp : ∀ b ∈ fp, FpOk X pins0 H3 b) (hcl : ce.locals = s3.heap.objs.size) (hcf : ce.frame = X.env.frame) : Takes (blkX X s3 H3 scope ce fp) fun c d _ H => E c d H := by
  rintro u s' ⟨a, B, sI, pins, σ, H, cls, d, rfl, I, nb, up, sky, na, os, ag, hE⟩
  have hfr : X.A.frames = some (X.env :: X.outer) := by rw [I3.ok.frames, hs]
  have stk : (blkX X s3 H3 scope ce fp).stack = X.env :: X.outer := hs
  rw [stk] at sky
  have hCL : ce.locals ≠ X.env.locals := by
    rw [hcl]
    exact Nat.ne_of_gt I3.lt
  obtain ⟨m0, hn0, _⟩ := I.loc
  have hn0 : sI.heap.Ns ce.locals m0 := hn0
  have fC := I3.fpOk (H' := H) (b := ce.locals) (by rw [hcl]; exact Nat.le_refl _) I.free
  have key : ∀ g, HeldZ B (X.env :: X.outer) a (Zc cls d) X.env.locals g → s'.heap.UpToSlots g → CompFails (model X.prog X.w) X.A X.xe ce (.ref a) { s' with heap := g } := by
    intro g hg ug
    have hn1 : g.Ns ce.locals m0 := hn0.upToSlots fun b o h1 h2 => (up.trans ug) b o h1 h2
    refine ⟨m0, hn1, fun h2 m2 hn2 sb => ?_⟩
    have sb : Heap.SameBut ce.locals g h2 := sb
    obtain ⟨e1, e2, e3, e4⟩ := hg
    -- the ground without the block
    have B0 : ∀ b, B.get? b = none → (PySem.W.hideAll B [ce.locals]).get? b = none := fun b h => by
      cases q : (PySem.W.hideAll B [ce.locals]).get? b with
      | none => rfl
      | some o =>
        rw [PySem.W.of_hideAll _ q] at h
        cases h
    have B1 : ∀ b o, (PySem.W.hideAll B [ce.locals]).get? b = some o → B.get? b = some o ∧ b ≠ ce.locals := fun b o h => ⟨PySem.W.of_hideAll _ h, fun z => by
      rw [PySem.W.hideAll_none _ (by rw [z]; exact List.mem_cons_self ..)] at h
      cases h⟩
    have held : HeldZ (PySem.W.hideAll B [ce.locals]) (X.env :: X.outer) a (Zc cls d) X.env.locals h2 := by
      refine ⟨fun b o h => ?_, B0 _ e2, ?_, traced_but sb hn1 B0 e4⟩
      · obtain ⟨h1, hne⟩ := B1 b o h
        exact (sb.2 b hne).trans (e1 b o h1)
      · have ff := Heap.FunFrames.sameBut sb hn2 e3
        exact funFrames_none ff fun L hL => B0 _ (ff.mem hL).1
    have e4' := traced_but (B2 := B) sb hn1 (fun _ h => h) e4
    obtain ⟨ob, fs, T, ot, ts, g1, g2, g3, g4, _⟩ := e4'
    unfold PySem.passOn
    refine wpAny_bind (wpAny_field g1 g3 g4 ?_)
    rw [if_neg (show ¬ ((Value.ref T == Value.none) = true) by simp)]
    rw [hcf, hf]
    refine wpAny_bind (setFlight_onZ held fun h3 hh u3 => ?_)
    refine wpAny_throw ?_
    have J : Inv X pins0 σ0 H sI := I3.call' (ch := fp) I.os I.base I.hok I.bare fun b hb => ⟨(hfp b hb).2.2.2.1, (hfp b hb).2.1, (hfp b hb).2.2.2.2.1, (hfp b hb).2.2.2.2.2⟩
    obtain ⟨f0, f1, f2, f3, f4, f5⟩ := fC
    have J2 := J.turned (t' := sI.toks) (h' := PySem.W.hideAll sI.heap [ce.locals]) (it := ce.locals) (fun b o hb h => PySem.W.hideAll_get _ h (by simpa using hb)) f0 f1 f3 f4 f5
    refine tk _ _ ⟨a, PySem.W.hideAll B [ce.locals], _, pins0, σ0, H, cls, d, rfl, J2, fun b o h hb => ?_, fun b o h hnf => ?_, ?_, na, os, ag, hE⟩
    · have h' := PySem.W.of_hideAll _ h
      have hne : b ≠ ce.locals := fun z => by
        have h : (PySem.W.hideAll sI.heap [ce.locals]).get? b = some o := h
        rw [PySem.W.hideAll_none _ (by rw [z]; exact List.mem_cons_self ..)] at h
        cases h
      exact PySem.W.hideAll_get _ (nb b o h' hb) (by simpa using hne)
    · have h' := PySem.W.of_hideAll _ h
      have hne : b ≠ ce.locals := fun z => by
        have h : (PySem.W.hideAll sI.heap [ce.locals]).get? b = some o := h
        rw [PySem.W.hideAll_none _ (by rw [z]; exact List.mem_cons_self ..)] at h
        cases h
      obtain ⟨sl, q⟩ := (up.trans ug) b o h' hnf
      obtain ⟨sl2, q2⟩ := u3 b _ ((sb.2 b hne).trans q) hnf
      exact ⟨sl2, q2⟩
    · rw [hs]
      exact .inr (.inr hh)
  show wpAny (model X.prog X.w) X.A (noteFrame (.ref a) ce) _ _ s'
  rw [noteFrame_env _ hcf]
  rcases sky with ⟨k1, k2, k3, oe, vs, k4, k5, k6, k7⟩ | fl | ⟨k1, k2, k3, k4⟩
  · exact look_newZ Zc.steady hfr k3 hf k4 k1 k2 k6 k7 k5 key
  · exact looks_onZ Zc.steady hfr hf fl key
  · refine looks_odd Zc.steady hfr hf k1 k2 k3 k4 ?_ key
    have : (blkX X s3 H3 scope ce fp).env.locals = ce.locals := rfl
    rw [this]
    exact beq_eq_false_iff_ne.mpr fun z => hCL (Int.ofNat_inj.mp (by simpa [rawInt] using z))
/-- the walk of a comprehension's block, an item may raise -/
theorem lc_walk {E : XK} {pins : List (Addr × Obj)} {s : Shared} {σ : L2.St} {H : Hp} {Q : VK} {el tg iter : Expr} {ifs : List Expr} {scope : Scope} {own : List (Str × Nat)} {pos pos' : Pos} {wi : TI} {g : TG} {tt : TT} {te : TE} {use : Option (Value → Sem Unit)} {Qf : Value → Shared → Prop}
    (tk : Takes X fun c d _ H => E c d H) (hst : X.stack = X.env :: X.outer) (hfL : X.env.frame = some X.env.locals) (hc : X.calm = true) (hN : X.N.Nodup) (I : Inv X pins σ H s) (hi : PI X tg iter wi) (ok : BlkOk X.N X.env.scope scope own)
    (hg : ∀ (s : Shared) (H : Hp) (C : Addr) (cl : List (Str × Addr)) (fp : List Addr), PG (blkX X s H scope (compEnvC scope cl C X.env) fp) tg g)
    (ht : ∀ (s : Shared) (H : Hp) (C : Addr) (cl : List (Str × Addr)) (fp : List Addr), PTs (blkX X s H scope (compEnvC scope cl C X.env) fp) ifs tt)
    (he : ∀ (s : Shared) (H : Hp) (C : Addr) (cl : List (Str × Addr)) (fp : List Addr), Takes (blkX X s H scope (compEnvC scope cl C X.env) fp) (fun c d _ H => E c d H) → PE (blkX X s H scope (compEnvC scope cl C X.env) fp) el te)
    (hs : ∀ x, foldedSetIterable iter X.env x = pure x) (h : tLc wi g tt te (own.map (·.2)) σ H Q)
    (fin : ∀ D ce s' m H', Inv X pins σ H' s' → Q (.ref D) H' → s'.heap.Ns ce.locals m → FpOk X pins H' ce.locals → compEnds (model X.prog X.w) X.A X.xe use Qf (.ref D) ce (.ok .next) s') :
    wpAny (model X.prog X.w) X.A (comprehension (.ListComp el [⟨tg, iter, ifs, 0⟩] scope pos) scope X.env pos' (newList []) false (eval iter X.env) use) Qf X.xe s := by
  have frees : ∀ y ∈ scope.names, y.2 = .free → ∃ c, X.env.cells.lookup y.1 = some c := fun y hy e => (ok.free y hy e).elim (fun k => I.ok.has _ (.inl k)) fun k => I.ok.has _ (.inr k)
  refine comprehension_at (use := use) rfl hs (closure_ok frees) ok.kind (fun y hy e => by rw [ok.uniq y hy, e]) (thn (hi.run pins s σ H _ I h) fun xv s1 h1 => thn h1 fun itv s2 h2 => ?_)
  obtain ⟨it, fp, tn, J, H2, rfl, I2, T, t2, f2, q⟩ := h2
  refine wpAny_newObj_type (newEnv_comp ?_) (by show 0 ≤ sizeLine; decide)
  generalize eD : s2.heap.objs.size = D
  obtain ⟨W, ⟨m0, w0⟩, turn⟩ := q D (I2.hok.fresh (Nat.le_of_eq eD))
  generalize e3 : ({ s2 with heap := s2.heap.push { cls := .type "list", data := .seq ([] : List Value).toArray } } : Shared) = s3
  have hp3 : s3.heap = s2.heap.push { cls := .type "list", data := .seq ([] : List Value).toArray } := by rw [← e3]
  have I3 : Inv X pins σ (upd H2 D (.lst [])) s3 := by
    rw [← e3]
    exact I2.laid (t' := s2.toks) (fun b o e => Heap.get?_push_of_some _ e) (Nat.le_of_eq eD) ⟨Nat.zero_le _, [], 0, .nil, by rw [← eD]; exact Heap.get?_push_size _ rfl⟩
  have f3 : ∀ b ∈ fp, FpOk X pins (upd H2 D (.lst [])) b ∧ b < s3.heap.objs.size := fun b hb => by
    obtain ⟨o, e, _⟩ := T.obj _ _ t2 b hb
    have hlt := Heap.lt_size e
    refine ⟨⟨?_, (f2 b hb).2⟩, by rw [hp3, Heap.size_push]; exact Nat.lt_succ_of_lt hlt⟩
    rw [upd_ne (by rw [← eD]; exact Nat.ne_of_lt hlt)]
    exact (f2 b hb).1
  have t3 : tn 0 s3.heap := T.keep _ _ _ t2 fun b _ o e => by rw [hp3]; exact Heap.get?_push_of_some _ e
  have I4 := blkX_inv (block_start I3 ok hN f3)
  show codeAny _ _ (.compStart (.ListComp el [⟨tg, iter, ifs, 0⟩] scope pos) 0 (.ref it) (.ref D) (compEnvC scope (cellsFrom (s3.heap.objs.size + 1) scope.names (cloFrom X.env.cells scope.names [])) s3.heap.objs.size X.env))
    (compEnds (model X.prog X.w) X.A X.xe use Qf (.ref D) (compEnvC scope (cellsFrom (s3.heap.objs.size + 1) scope.names (cloFrom X.env.cells scope.names [])) s3.heap.objs.size X.env)) { s3 with heap := pushCells (s3.heap.push { cls := .type "dict", data := .dict #[] }) scope.names }
  generalize ecl : cellsFrom (s3.heap.objs.size + 1) scope.names (cloFrom X.env.cells scope.names []) = cl at I4 ⊢
  have pg := hg s3 (upd H2 D (.lst [])) s3.heap.objs.size cl fp
  have pt := ht s3 (upd H2 D (.lst [])) s3.heap.objs.size cl fp
  have pe := he s3 (upd H2 D (.lst [])) s3.heap.objs.size cl fp (takes_blk tk hst hfL I3 (fun b hb => (f3 b hb).1) rfl rfl)
  have nfp : ∀ b ∈ fp, (upd H2 D (.lst [])) b = none := fun b hb => (f3 b hb).1.1
  generalize ece : compEnvC scope cl s3.heap.objs.size X.env = ce at I4 pg pt pe ⊢
  have cL : ce.locals = s3.heap.objs.size := by rw [← ece]; rfl
  generalize upd H2 D (.lst []) = H3 at I3 I4 pg pt pe w0 nfp f3
  have t4 : tn 0 (pushCells (s3.heap.push { cls := .type "dict", data := .dict #[] }) scope.names) := T.keep _ _ _ t3 fun b _ o e => pushCells_keeps _ _ _ _ (Heap.get?_push_of_some _ e)
  replace t4 : tn 0 ({ s3 with heap := pushCells (s3.heap.push { cls := .type "dict", data := .dict #[] }) scope.names } : Shared).heap := t4
  generalize ({ s3 with heap := pushCells (s3.heap.push { cls := .type "dict", data := .dict #[] }) scope.names } : Shared) = s4 at I4 t4 ⊢
  have stat : ∀ {σ' : L2.St} {H' : Hp} {s' : Shared}, Inv (blkX X s3 H3 scope ce fp) [] σ' H' s' → (∀ b ∈ fp, H' b = none) → ∀ b ∈ fp, FpOk (blkX X s3 H3 scope ce fp) [] H' b := fun {σ' H' s'} I' hn b hb =>
    ⟨hn b hb, (I'.ok.exf b hb).1, I'.ok.exfs b hb, .inl hb, fun x c e => (I'.ok.exf b hb).2 x c e, fun p hp => absurd (show p ∈ ([] : List (Addr × Obj)) ++ [] from hp) (by simp)⟩
  have loop : codeAny (model X.prog X.w) X.A (.compLoop (.ListComp el [⟨tg, iter, ifs, 0⟩] scope pos) 0 (.ref it) (.ref D) ce) (compEnds (model X.prog X.w) X.A X.xe use Qf (.ref D) ce) s4 := by
    refine compLoop_any (fun n s' => ∃ i H', Inv (blkX X s3 H3 scope ce fp) [] (wipe σ (own.map (·.2))) H' s' ∧ tn i s'.heap ∧ (∀ b ∈ fp, H' b = none) ∧ W i n H') ?_ m0 ⟨0, H3, I4, t4, nfp, w0⟩
    rintro n s5 ⟨i, H5, I5, t5, n5, w5⟩
    rcases turn i n H5 w5 with ⟨stop, qq⟩ | ⟨go, Nx, hNx, step⟩
    · refine thn (T.done (blkX X s3 H3 scope ce fp) rfl rfl rfl hc i [] s5 _ H5 _ I5 (stat I5 n5) t5 stop) fun r s6 ⟨hr, I6⟩ => ?_
      subst hr
      have I7 : Inv X pins σ H5 s6 := I3.call' (ch := fp) I6.os I6.base I6.hok I6.bare fun b hb => ⟨(f3 b hb).1.2.2.2.1, (f3 b hb).1.2.1, (f3 b hb).1.2.2.2.2.1, (f3 b hb).1.2.2.2.2.2⟩
      obtain ⟨m, hn, _⟩ := I6.loc
      exact fin D ce s6 m H5 I7 qq hn (I3.fpOk (by rw [cL]; exact Nat.le_refl _) I6.free)
    · refine thn (T.item (blkX X s3 H3 scope ce fp) rfl rfl rfl hc i [] s5 _ H5 _ I5 (stat I5 n5) t5 go) fun r s6 ⟨u, hr, h6⟩ => ?_
      subst hr
      refine thn h6 fun _ s7 ⟨x, H7, I7, r7, y7, t7, n7⟩ => ?_
      refine thn (pg.run _ s7 _ H7 x u _ (I7.pinned (stat I7 n7) (T.obj _ _ t7)) r7 (step x H7 y7)) fun _ s8 ⟨σ8, H8, I8, hw8, q8⟩ => ?_
      refine thn (pt.run _ s8 σ8 H8 _ I8 q8) fun b s9 ⟨H9, I9, q9⟩ => ?_
      have next : ∀ {s' : Shared} {H' : Hp}, Inv (blkX X s3 H3 scope ce fp) ([] ++ pinsAt fp s7.heap) σ8 H' s' → Nx H' → ∃ m, m < n ∧ ∃ i H', Inv (blkX X s3 H3 scope ce fp) [] (wipe σ (own.map (·.2))) H' s' ∧ tn i s'.heap ∧ (∀ b ∈ fp, H' b = none) ∧ W i m H' := fun {s' H'} I' nx => by
        obtain ⟨m', hm, w'⟩ := hNx H' nx
        have pin' : ∀ b ∈ fp, ∀ o, s7.heap.get? b = some o → s'.heap.get? b = some o ∧ H' b = none := fun b hb o e => ⟨(I'.pin (b, o) (List.mem_append_right _ (List.mem_append_right _ (mem_pinsAt hb e)))).1, (I'.pin (b, o) (List.mem_append_right _ (List.mem_append_right _ (mem_pinsAt hb e)))).2.1⟩
        have hl : (wipe σ (own.map (·.2))).length = σ8.length := by rw [← hw8, wipe_length]
        refine ⟨m', hm, i + 1, H', (I'.unpinned (pins := [])).weak hl (fun j v e => ?_), T.keep _ _ _ t7 fun b hb o e => (pin' b hb o e).1, fun b hb => ?_, w'⟩
        · rw [← hw8] at e
          exact (wipe_some e).1
        · obtain ⟨o, e, _⟩ := T.obj _ _ t7 b hb
          exact (pin' b hb o e).2
      cases b with
      | false =>
        simp only [Bool.false_eq_true, if_false] at q9 ⊢
        exact next I9 q9
      | true =>
        simp only [if_true] at q9 ⊢
        refine thn (pe.run _ s9 σ8 H9 _ I9 q9) fun z s10 ⟨yv, H10, I10, r10, acc, hD10, hz10, nx⟩ => ?_
        exact app_ok (X := blkX X s3 H3 scope ce fp) I10 hD10 hz10 r10 fun s11 I11 => next I11 nx
  exact codeAny_compStart_list loop (T.self X.A 0 _ _ _ t4 loop)
/-- as a value -/
theorem pe_lc {E : XK} {el tg iter : Expr} {ifs : List Expr} {scope : Scope} {own : List (Str × Nat)} {pos : Pos} {wi : TI} {g : TG} {tt : TT} {te : TE} (tk : Takes X fun c d _ H => E c d H) (hst : X.stack = X.env :: X.outer) (hfL : X.env.frame = some X.env.locals) (hc : X.calm = true) (hN : X.N.Nodup) (hi : PI X tg iter wi) (ok : BlkOk X.N X.env.scope scope own)
    (hg : ∀ (s : Shared) (H : Hp) (C : Addr) (cl : List (Str × Addr)) (fp : List Addr), PG (blkX X s H scope (compEnvC scope cl C X.env) fp) tg g)
    (ht : ∀ (s : Shared) (H : Hp) (C : Addr) (cl : List (Str × Addr)) (fp : List Addr), PTs (blkX X s H scope (compEnvC scope cl C X.env) fp) ifs tt)
    (he : ∀ (s : Shared) (H : Hp) (C : Addr) (cl : List (Str × Addr)) (fp : List Addr), Takes (blkX X s H scope (compEnvC scope cl C X.env) fp) (fun c d _ H => E c d H) → PE (blkX X s H scope (compEnvC scope cl C X.env) fp) el te)
    (hs : ∀ x, foldedSetIterable iter X.env x = pure x := by intro _; rfl) : PE X (.ListComp el [⟨tg, iter, ifs, 0⟩] scope pos) (tLc wi g tt te (own.map (·.2))) := by
  refine ⟨fun pins s σ H Q I h => ?_⟩
  rw [eval_ListComp]
  refine lc_walk tk hst hfL hc hN I hi ok hg ht he hs h fun D ce s' m H' I' q hn f => ⟨m, hn, fun h2 sb => ?_⟩
  obtain ⟨f0, f1, f2, f3, f4, f5⟩ := f
  exact ⟨.ref D, H', I'.turned (t' := s'.toks) (fun b o hb e => (sb.2 b hb).trans e) f0 f1 f3 f4 f5, rfl, q⟩
/-- name = [..] on one line, the name a local -/
theorem ps_setLc {E : XK} {i : Nat} {y : Str} {py : Pos} {el tg iter : Expr} {ifs : List Expr} {scope : Scope} {own : List (Str × Nat)} {pos spos : Pos} {wi : TI} {g : TG} {tt : TT} {te : TE} (tk : Takes X fun c d _ H => E c d H) (hst : X.stack = X.env :: X.outer) (hfL : X.env.frame = some X.env.locals) (hc : X.calm = true) (hN : X.N.Nodup) (hy : X.N[i]? = some y)
    (hyl : X.env.scope.names.lookup y = some .local) (hsw : swapsWith (.ListComp el [⟨tg, iter, ifs, 0⟩] scope pos) (some (.Name y py)) spos.line X.env = pure true) (hi : PI X tg iter wi) (ok : BlkOk X.N X.env.scope scope own)
    (hg : ∀ (s : Shared) (H : Hp) (C : Addr) (cl : List (Str × Addr)) (fp : List Addr), PG (blkX X s H scope (compEnvC scope cl C X.env) fp) tg g)
    (ht : ∀ (s : Shared) (H : Hp) (C : Addr) (cl : List (Str × Addr)) (fp : List Addr), PTs (blkX X s H scope (compEnvC scope cl C X.env) fp) ifs tt)
    (he : ∀ (s : Shared) (H : Hp) (C : Addr) (cl : List (Str × Addr)) (fp : List Addr), Takes (blkX X s H scope (compEnvC scope cl C X.env) fp) (fun c d _ H => E c d H) → PE (blkX X s H scope (compEnvC scope cl C X.env) fp) el te)
    (hs : ∀ x, foldedSetIterable iter X.env x = pure x := by intro _; rfl) : PS X (.Assign [.Name y py] (.ListComp el [⟨tg, iter, ifs, 0⟩] scope pos) spos) (tAsg (tLc wi g tt te (own.map (·.2))) (gName i)) := by
  refine ⟨fun pins s σ H D I h => ?_⟩
  rw [exec_Assign_Name_used _ _ _ _ hsw]
  refine wpAny_bind (wpAny_standAt (wpAny_bind ?_))
  show wpAny _ X.A (do let _ ← comprehension (.ListComp el [⟨tg, iter, ifs, 0⟩] scope pos) scope X.env (firstIterPos [⟨tg, iter, ifs, 0⟩] pos) (newList []) false (eval iter X.env) (some (assign (.Name y py) X.env))) _ _ s
  have h : tLc wi g tt te (own.map (·.2)) σ H (fun x H1 => gName i x σ H1 D.nx) := h
  refine wpAny_bind (thn (lc_walk (Qf := fun _ s' => SP X pins D .next s') tk hst hfL hc hN I hi ok hg ht he hs h fun L ce s' m H' I' q hn f => ?_) fun _ s' hq => wpAny_pure (wpAny_pure hq))
  show wpAny _ _ (assign (.Name y py) X.env (.ref L)) _ _ _
  refine wpAny_assign_Name (store_ok2 (v := V.ref L) I' hN hy (.inl hyl) rfl (fun s2 I2 ⟨a, sb, ha⟩ => ?_) (.inr hyl))
  obtain ⟨f0, f1, f2, f3, f4, f5⟩ := f
  have haC : ce.locals ≠ a := by
    rcases ha with z | z
    · rw [z]; exact f1
    · exact fun e => f4 y a z e.symm
  refine ⟨m, hn.sameBut sb haC, fun h3 sb3 => ?_⟩
  exact ⟨_, H', I2.turned (t' := s2.toks) (fun b o hb e => (sb3.2 b hb).trans e) f0 f1 f3 f4 f5, q⟩
end
end XL
end

section
set_option Elab.async false
set_option linter.all false
set_option maxRecDepth 100000
set_option maxHeartbeats 4000000
/-! Rules of our own: xs[i::2], x in a list of data, f(..) with f an expression that gives one of several defs. -/
namespace XP
open PySem PySem.Spec PyProof.Rows L2
section
variable {X : Cx}
/-- x in l, l a list of data -/
def rInL (K : PySem.W.Frag) (units : Nat) : R2 := fun x y H Q => ∃ d ds, Dp K H x d ∧ Dp K H y (.list ds) ∧ d.canLay0 = true ∧ PyData.canLayAll0 ds = true ∧ units + 1 + min (PyData.depthAll ds) d.depth < cLine ∧ Q (.bl (ds.any fun z => PyData.eqv z d)) H
theorem op_inL : OpR X (compareOp .In) (rInL X.K X.A.units) := by
  intro pins s σ H x y v u Q I rx ry h
  obtain ⟨d, ds, hd, he, sd, se, hu, q⟩ := h
  obtain ⟨as, r1⟩ := Dp.reads I d x v hd rx
  obtain ⟨bs, r2⟩ := Dp.reads I (.list ds) y u he ry
  exact SeqAt.in_list_reads r2 r1 se sd hu ⟨.bl _, H, I, rfl, q⟩
/-- x == [], x == () -/
def rEqNil (K : PySem.W.Frag) (units : Nat) (f : Bool → Bool) : R2 := fun x y H Q => units < cLine ∧ ∃ a b xs, x = .ref a ∧ y = .ref b ∧ ((SqL K H a xs ∧ SqL K H b []) ∨ (SqT K H a xs ∧ SqT K H b [])) ∧ Q (.bl (f xs.isEmpty)) H
theorem op_eqNil : OpR X (compareOp .Eq) (rEqNil X.K X.A.units id) := by
  intro pins s σ H x y v u Q I rx ry h
  obtain ⟨hu, a, b, xs, rfl, rfl, hq, q⟩ := h
  cases rx
  cases ry
  rcases hq with ⟨h1, h2⟩ | ⟨h1, h2⟩
  · obtain ⟨its, r, pl, _⟩ := I.list h1
    obtain ⟨ks, r2, pl2, _⟩ := I.list h2
    cases r2
    cases r with
    | nil => exact SeqAt.RcAt.lists (e := fun _ => true) pl.isList pl2.isList rfl hu (fun j j1 _ => absurd j1 (Nat.not_lt_zero _)) _ _ _ _ ⟨.bl true, H, I, rfl, q⟩
    | cons => exact SeqAt.RcAt.lists_lengths pl.isList pl2.isList (by simp) hu _ _ _ _ ⟨.bl false, H, I, rfl, q⟩
  · obtain ⟨its, r, pl, _⟩ := I.tuple h1
    obtain ⟨ks, r2, pl2, _⟩ := I.tuple h2
    cases r2
    have z := SeqAt.RcAt.tuples (A := X.A) (s := s) (e := fun _ => true) pl pl2 hu (fun j _ j2 => absurd j2 (Nat.not_lt_zero _))
    cases r with
    | nil => exact z _ _ _ _ ⟨.bl true, H, I, rfl, q⟩
    | cons => exact z _ _ _ _ ⟨.bl false, H, I, by simp; rfl, q⟩
theorem op_neNil : OpR X (compareOp .NotEq) (rEqNil X.K X.A.units not) := by
  intro pins s σ H x y v u Q I rx ry h
  obtain ⟨hu, a, b, xs, rfl, rfl, hq, q⟩ := h
  cases rx
  cases ry
  rcases hq with ⟨h1, h2⟩ | ⟨h1, h2⟩
  · obtain ⟨its, r, pl, _⟩ := I.list h1
    obtain ⟨ks, r2, pl2, _⟩ := I.list h2
    cases r2
    cases r with
    | nil => exact SeqAt.RcNeAt.lists (e := fun _ => true) pl.isList pl2.isList rfl hu (fun j j1 _ => absurd j1 (Nat.not_lt_zero _)) _ _ _ _ ⟨.bl false, H, I, rfl, q⟩
    | cons => exact SeqAt.RcNeAt.lists_lengths pl.isList pl2.isList (by simp) hu _ _ _ _ ⟨.bl true, H, I, rfl, q⟩
  · obtain ⟨its, r, pl, _⟩ := I.tuple h1
    obtain ⟨ks, r2, pl2, _⟩ := I.tuple h2
    cases r2
    have z := SeqAt.RcNeAt.tuples (A := X.A) (s := s) (e := fun _ => true) pl pl2 hu (fun j _ j2 => absurd j2 (Nat.not_lt_zero _))
    cases r with
    | nil => exact z _ _ _ _ ⟨.bl false, H, I, rfl, q⟩
    | cons => exact z _ _ _ _ ⟨.bl true, H, I, by simp; rfl, q⟩
/-- every second one -/
def alt {α : Type} : List α → List α
  | [] => []
  | [x] => [x]
  | x :: _ :: r => x :: alt r
theorem alt_len {α : Type} : ∀ l : List α, (alt l).length ≤ l.length
  | [] => Nat.le_refl _
  | [_] => Nat.le_refl _
  | x :: y :: r => by
    have := alt_len r
    simp only [alt, List.length_cons]
    omega
theorem alt_pick {α : Type} : ∀ (l : List α), (List.range ((l.length + 1) / 2)).filterMap (fun k => l[2 * k]?) = alt l
  | [] => by simp [alt]
  | [x] => by simp [alt, List.range_succ]
  | x :: y :: r => by
    have ih := alt_pick r
    have e : (x :: y :: r).length = r.length + 2 := rfl
    rw [e, show (r.length + 2 + 1) / 2 = (r.length + 1) / 2 + 1 by omega, List.range_succ_eq_map, List.filterMap_cons]
    show x :: List.filterMap _ (List.map Nat.succ _) = x :: alt r
    rw [List.filterMap_map, ← ih]
    congr 1
theorem alt_map {α β : Type} (f : α → β) : ∀ l : List α, alt (l.map f) = (alt l).map f
  | [] => rfl
  | [_] => rfl
  | x :: y :: r => by
    show f x :: alt (r.map f) = f x :: (alt r).map f
    rw [alt_map f r]
theorem alt_vals {xs : List V} {its : List Value} : Vals xs its → Vals (alt xs) (alt its) := by
  intro r
  match xs, its, r with
  | [], _, .nil => exact .nil
  | [x], _, .cons h .nil => exact .cons h .nil
  | x :: y :: xs, _, .cons h (.cons _ t) => exact .cons h (alt_vals t)
theorem pick_alt (its : Array Value) (a : Nat) : slicePick its (some (a : Int)) none (some 2) = (alt (its.toList.drop a)).toArray := by
  have hb : sliceBounds (some (a : Int)) none (some 2) its.size = (((min a its.size : Nat) : Int), ((its.size : Nat) : Int), 2) := by
    unfold sliceBounds
    simp only [Option.getD_some]
    have h0 : ¬ ((a : Int) < 0) := by omega
    simp
    omega
  unfold slicePick
  rw [hb]
  show ((sliceRange ((min a its.size : Nat) : Int) ((its.size : Nat) : Int) 2).filterMap (its[·]?)).toArray = _
  congr 1
  have hl : (its.toList.drop a).length = its.size - a := by simp
  rw [← alt_pick, hl]
  have hr : sliceRange ((min a its.size : Nat) : Int) ((its.size : Nat) : Int) 2 = (List.range ((its.size - a + 1) / 2)).map fun k => min a its.size + 2 * k := by
    unfold sliceRange
    have hc : (if (2 : Int) > 0 then (if ((min a its.size : Nat) : Int) < ((its.size : Nat) : Int) then (((its.size : Nat) : Int) - ((min a its.size : Nat) : Int) + 2 - 1) / 2 else 0)
        else (if ((min a its.size : Nat) : Int) > ((its.size : Nat) : Int) then (((min a its.size : Nat) : Int) - ((its.size : Nat) : Int) - 2 - 1) / (-2) else 0)).toNat = (its.size - a + 1) / 2 := by
      rw [if_pos (by decide)]
      split <;> omega
    show ((List.range _).map _) = _
    rw [hc]
    refine List.map_congr_left fun k _ => ?_
    omega
  rw [hr, List.filterMap_map]
  have fc : ∀ (l : List Nat) (f g : Nat → Option Value), (∀ k ∈ l, f k = g k) → l.filterMap f = l.filterMap g := fun l f g h => by
    induction l with
    | nil => rfl
    | cons x l ih => rw [List.filterMap_cons, List.filterMap_cons, h x List.mem_cons_self, ih fun k hk => h k (List.mem_cons_of_mem _ hk)]
  refine fc _ _ _ fun k hk => ?_
  have hk := List.mem_range.mp hk
  show its[min a its.size + 2 * k]? = (its.toList.drop a)[2 * k]?
  rw [List.getElem?_drop, Array.getElem?_toList, show min a its.size = a by omega]
theorem pick_alt0 (its : Array Value) : slicePick its none none (some 2) = (alt its.toList).toArray := by
  have h := pick_alt its 0
  rw [List.drop_zero] at h
  rw [← h]
  unfold slicePick
  have e : sliceBounds none none (some 2) its.size = sliceBounds (some ((0 : Nat) : Int)) none (some 2) its.size := by
    unfold sliceBounds
    simp
    omega
  rw [e]
/-- xs[lo::2] -/
def tAlt (K : PySem.W.Frag) (te : TE) (tl : TO) : TE := fun σ H Q => te σ H fun x H1 => tl σ H1 fun l H2 => ∃ a xs, x = .ref a ∧ SqL K H2 a xs ∧ (∃ i : Nat, (l = some (i : Int) ∨ (l = none ∧ i = 0)) ∧ ∀ p, H2 p = none → Q (.ref p) (upd H2 p (.lst (alt (xs.drop i)))))
theorem pe_alt {e : Expr} {te : TE} {lo : Option Expr} {tl : TO} {k : Nat} {p1 p3 pos : Pos} (he : PE X e te) (hl : PO X lo tl) : PE X (.Subscript e (.Slice lo none (some (.Constant (.int 2) k p1)) p3) pos) (tAlt X.K te tl) := by
  refine ⟨fun pins s σ H Q I h => ?_⟩
  refine Subscript_ (thn (he.run pins s σ H _ I h) fun v s1 ⟨x, H1, I1, r1, q1⟩ => ?_)
  have hst : PO X (some (.Constant (.int 2) k p1)) (tPart (tC (.int 2))) := po_some pe_int
  refine wpAny_Slice (thn (hl.run pins s1 σ H1 _ I1 q1) fun vl s2 ⟨l, H2, I2, pl, q2⟩ => ?_)
  obtain ⟨a, xs, ex, hx, i, hi, q⟩ := q2
  subst ex
  cases r1
  refine thn (po_none.run pins s2 σ H2 (fun o H3 => o = none ∧ H3 = H2) I2 ⟨rfl, rfl⟩) fun vu s3 ⟨u, H3, I3, pu, eu, e3⟩ => ?_
  subst eu e3
  refine thn (hst.run pins s3 σ H3 (fun o H4 => o = some 2 ∧ H4 = H3) I3 ⟨2, rfl, rfl, rfl⟩) fun vs s4 ⟨o, H4, I4, ps, eo, e4⟩ => ?_
  subst eo e4
  have I5 : Inv X pins σ H4 { s4 with heap := s4.heap.push { cls := .type "slice", data := .fields #[vl, vu, vs] } } := I4.kept (t' := s4.toks) fun b ob w => Heap.get?_push_of_some _ w
  obtain ⟨its, r, ht, hz⟩ := I5.list hx
  have hlen := r.length
  show wpAny (model X.prog X.w) X.A (subscriptTail e (.Slice lo none (some (.Constant (.int 2) k p1)) p3) (.ref a) (.ref s4.heap.objs.size)) (EP X pins σ Q) X.xe { s4 with heap := s4.heap.push { cls := .type "slice", data := .fields #[vl, vu, vs] } }
  refine tail_any (ops := [.ref a, .ref s4.heap.objs.size]) ht.isList.typeIs (PySem.slot_list_getitem.lookup) ?_ (by with_unfolding_all rfl)
  refine wpAny_getItem_list_slice ht.isList (Heap.IsSliceOf.new _ vl vu vs) pl pu ps (by decide) ?_ (by rw [List.size_toArray]; omega)
  have hp : slicePick its.toArray l none (some 2) = (alt (its.drop i)).toArray := by
    rcases hi with rfl | ⟨rfl, rfl⟩
    · rw [pick_alt]
    · rw [pick_alt0, List.drop_zero]
  rw [hp]
  refine ⟨.ref _, _, I5.laid (t' := s4.toks) (o := .lst (alt (xs.drop i))) (fun b ob w => Heap.get?_push_of_some _ w) (Nat.le_refl _) ?_, rfl, q _ (I5.hok.fresh (Nat.le_refl _))⟩
  exact ⟨Nat.le_trans (alt_len _) (by rw [List.length_drop]; omega), _, 0, alt_vals (r.drop i), Heap.get?_push_size _ rfl⟩
/-- f(e, ..), f an expression; S: the promises of the defs that it may give -/
def tCallF (S : Addr → Option Sp) (tf : TE) (t : TA) : TE := fun σ H Q => tf σ H fun y H1 => ∃ f sp, y = V.ref f ∧ S f = some sp ∧ t σ H1 fun vs H2 => sp vs H2 Q (fun _ _ _ => False)
theorem pe_callF {k : Nat} {fe e : Expr} {es : List Expr} {pos : Pos} {S : Addr → Option Sp} {tf : TE} {t : TA} (A : ∀ f sp, S f = some sp → L2.Held X.prog X.w X.K X.mg X.base k f sp) (hr : Room k X.A) (hf : PE X fe tf) (ha : PA X (e :: es) t)
    (ht : eval (.Call fe (e :: es) [] pos) X.env = (do callWith pos (← eval fe X.env) [] (backTo pos (starEach (e :: es) X.env)) (backToKw pos (keywordEach [] X.env))) := by rfl)
    (he : starEach (e :: es) X.env = (false, eval e X.env) :: starEach es X.env := by rfl) (hpl : (backTo pos (starEach es X.env)).any (·.1) = false := by rfl) : PE X (.Call fe (e :: es) [] pos) (tCallF S tf t) := by
  refine ⟨fun pins s σ H Q I h => ?_⟩
  refine Call_ (thn (hf.run pins s σ H _ I h) fun u s1 ⟨y, H1, I1, ry, f, sp, ey, hS, q⟩ => ?_) ht
  subst ey
  obtain rfl : u = Value.ref f := ry
  obtain ⟨fd, ps, F, hk, hb⟩ := (A f sp hS).ex
  refine PySem.W.callWith_K (h₀ := X.base) I1.ok.mod.kin hk (thn (ha.run pos pins s1 σ _ _ I1 q) fun us s2 ⟨vs, H2, I2, r, q2⟩ => ⟨I2.kIn, ?_⟩) he hpl
  have q3 : sp (vs ++ []) H2 Q (fun _ _ _ => False) := by
    rw [List.append_nil]
    exact q2
  exact run_fn (dvs := []) (ds := []) F hr hb .nil (fun _ _ _ _ _ _ _ z => z.elim) I2 r q3
end
end XP
end

section
set_option Elab.async false
set_option linter.all false
set_option maxRecDepth 100000
set_option maxHeartbeats 4000000
/-! sorted(x), x a list of data; also of tuples of which the first one is (). -/
namespace XT
open PySem PySem.Spec PySem.W PySem.Calls PyProof.Rows PySem.SeqAt
section
variable {prog : Program} {w : World} {A : Around} {E : Value → Shared → Prop} {s : Shared}
/-- tuples, the first one is empty -/
def Tup0 (ds : List PyData) : Prop := (∃ r, ds = .tuple [] :: r) ∧ ∀ d ∈ ds, ∃ xs, d = .tuple xs
theorem tup_lt {Q : Value → Shared → Prop} {l b : Addr} {us vs : Array Value} {e r : Nat → Bool} (hl : s.heap.IsTuple l us) (hb : s.heap.IsTuple b vs)
    (he : ∀ j (h1 : j < us.size) (h2 : j < vs.size), EqAt A.in1 s us[j] vs[j] (e j)) (hr : ∀ j (h1 : j < us.size) (h2 : j < vs.size), e j = false → RcLt A.in1 s us[j] vs[j] (r j))
    (h : Q (.bool (firstLt e r (decide (us.size < vs.size)) (List.range (min us.size vs.size)))) s) : wpAny (model prog w) A (call (.builtin "tuple.__lt__") [.ref l, .ref b]) Q E s := by
  obtain ⟨⟨c1, d1, dat1, s1⟩, o1, k1, n1, q1⟩ := id hl
  obtain ⟨⟨c2, d2, dat2, s2⟩, o2, k2, n2, q2⟩ := id hb
  simp only at k1 q1 k2 q2
  subst k1 q1 k2 q2
  exact call_meets F.slot_tuple_lt ⟨_, o1, rfl⟩ F.entry_tuple_lt (F.args_tuple_lt_2 _ _) (SeqAt.tuple_ltAt l b us vs n1 n2 d1 d2 s1 s2 e r) ⟨o1, o2, he, hr, h⟩
theorem one_tup {xs : List PyData} {db : PyData} {a b : Value} {as bs : List Addr} {Q : Bool → Shared → Prop} (ra : Reads s.heap a (.tuple xs) as) (rb : Reads s.heap b db bs) (h : alike (.tuple xs) db = true)
    (hu : A.units + min (PyData.tuple xs).depth db.depth < cLine) (hq : Q (dataLt (.tuple xs) db) s) : wpAny (model prog w) A (oneLt' true a b) Q E s := by
  cases db with
  | tuple ys =>
    have hal : alikeAll xs ys = true := by simpa [alike] using h
    cases ra with
    | @tuple l o us n _ a1 h1 h2 h3 h4 =>
      cases rb with
      | @tuple l' o' vs n' _ b1 k1 k2 k3 k4 =>
        have n1 : us.size = xs.length := by simpa using SeqAt.ReadsAll.length _ _ _ h4
        have n2 : vs.size = ys.length := by simpa using SeqAt.ReadsAll.length _ _ _ k4
        rw [dataLt_tuple, ← firstLt_toks xs ys hal, ← n1, ← n2] at hq
        rw [oneLt'_eq]
        simp only [if_true]
        have hm := SeqAt.room_in hu
        refine wpAny_bind (wpAny_cRoomFor (SeqAt.room_here hu) ?_)
        refine wpAny_bind (wpAny_callSpecialIfBound?_slot (T := "tuple") ⟨_, h1, h2⟩ F.slot_tuple_lt (tup_lt (e := pairEq xs ys) (r := fun j => dataLt (xs.getD j .none) (ys.getD j .none)) ⟨_, h1, h2, _, h3⟩ ⟨_, k1, k2, _, k3⟩ (fun j j1 j2 => ?_) (fun j j1 j2 hj => ?_) ?_))
        · have z := eqAt_alikeAll xs ys A.in1 s us.toList vs.toList _ _ h4 k4 hal hm j (by simpa using j1) (by simpa using j2)
          simpa using z
        · have z := rcLt_alikeAll xs ys A.in1 s us.toList vs.toList _ _ h4 k4 hal hm j (by simpa using j1) (by simpa using j2) hj
          simpa using z
        · exact wpAny_truthy_bool hq
  | _ => exact absurd h (by simp [alike])
theorem mapM_each {α β : Type} {f : α → Sem β} {g : α → β} : ∀ (l : List α) {Q : List β → Shared → Prop}, (∀ v ∈ l, ∀ (Q' : β → Shared → Prop), Q' (g v) s → wpAny (model prog w) A (f v) Q' E s) → Q (l.map g) s → wpAny (model prog w) A (l.mapM f) Q E s
  | [], _, _, h => by
    rw [List.mapM_nil]
    exact wpAny_pure h
  | x :: l, Q, hf, h => by
    rw [List.mapM_cons]
    exact wpAny_bind (hf x List.mem_cons_self _ (wpAny_bind (mapM_each l (Q := fun bs s' => wpAny (model prog w) A (pure (g x :: bs)) Q E s') (fun v hv => hf v (List.mem_cons_of_mem _ hv)) (wpAny_pure h))))
theorem first_tup {v : Value} {xs : List PyData} {as : List Addr} (r : Reads s.heap v (.tuple xs) as) : ∃ o : Option Value, (xs = [] → o = none) ∧ ∀ Q' : Option Value → Shared → Prop, Q' o s → wpAny (model prog w) A (firstOfTuple' v) Q' E s := by
  cases r with
  | @tuple a o us n _ a1 h1 h2 h3 h4 =>
    refine ⟨us[0]?, fun e => ?_, fun Q' hq => ?_⟩
    · subst e
      have z : us.toList = [] := List.length_eq_zero_iff.mp (by simpa using SeqAt.ReadsAll.length _ _ _ h4)
      rw [← Array.getElem?_toList, z]
      rfl
    · rw [kas_first_eq]
      refine wpAny_bind ((looks_reads (Reads.tuple h1 h2 h3 h4)).here ?_)
      show wpAny (model prog w) A (if (Value.type "tuple" != Value.type "tuple") = true then _ else _) Q' E s
      rw [if_neg (by simp)]
      exact wpAny_bind (listItems_at h1 h3 (wpAny_pure hq))
theorem kind_tup {vs : List Value} {ds : List PyData} (e : EachIs (fun v d => ∃ as, Reads s.heap v d as) vs ds) (ht : Tup0 ds) (h2 : 2 ≤ vs.length) {Q : SortKind → Shared → Prop} (h : Q oneType' s) : wpAny (model prog w) A (keyKind' vs.toArray) Q E s := by
  classical
  obtain ⟨⟨r, rfl⟩, hall⟩ := ht
  have fst : ∀ v ∈ vs, ∃ o : Option Value, ∀ Q' : Option Value → Shared → Prop, Q' o s → wpAny (model prog w) A (firstOfTuple' v) Q' E s := fun v hv => by
    obtain ⟨d, hd, as, q⟩ := e.left v hv
    obtain ⟨xs, rfl⟩ := hall d hd
    obtain ⟨o, _, ho⟩ := first_tup (prog := prog) (w := w) (A := A) (E := E) q
    exact ⟨o, ho⟩
  cases e with
  | @cons v0 _ vs' _ hr er =>
    obtain ⟨as, hr⟩ := hr
    obtain ⟨o0, e0, h0⟩ := first_tup (prog := prog) (w := w) (A := A) (E := E) hr
    have e0 := e0 rfl
    subst e0
    let g : Value → Option Value := fun v => if v = v0 then none else if hv : v ∈ v0 :: vs' then (fst v hv).choose else none
    have hg : ∀ v ∈ v0 :: vs', ∀ Q' : Option Value → Shared → Prop, Q' (g v) s → wpAny (model prog w) A (firstOfTuple' v) Q' E s := fun v hv Q' hq => by
      by_cases hv0 : v = v0
      · subst hv0
        have : g v = none := if_pos rfl
        rw [this] at hq
        exact h0 Q' hq
      · have : g v = (fst v hv).choose := by
          show (if v = v0 then none else if hv : v ∈ v0 :: vs' then (fst v hv).choose else none) = _
          rw [if_neg hv0, dif_pos hv]
        rw [this] at hq
        exact (fst v hv).choose_spec Q' hq
    have g0 : g v0 = none := if_pos rfl
    rw [keyKind'_eq, List.mapM_toArray, map_eq_pure_bind]
    refine wpAny_bind (wpAny_bind (mapM_each (g := g) _ hg (wpAny_pure ?_)))
    rw [List.map_cons, g0]
    rw [if_neg (by simp), if_neg (by simp)]
    rw [oneTypeOnly'_eq, List.mapM_toArray, map_eq_pure_bind]
    have ty : ∀ v ∈ v0 :: vs', ∀ (Q' : Value → Shared → Prop), Q' (Value.type "tuple") s → wpAny (model prog w) A (typeOf v) Q' E s := fun v hv Q' hq => by
      rcases List.mem_cons.mp hv with rfl | hv
      · exact (looks_reads hr).here hq
      · obtain ⟨d, hd, as, q⟩ := er.left v hv
        obtain ⟨xs, rfl⟩ := hall d (List.mem_cons_of_mem _ hd)
        exact (looks_reads q).here hq
    refine wpAny_bind (wpAny_bind (wpAny_bind (mapM_each (g := fun _ => Value.type "tuple") _ ty (wpAny_pure ?_))))
    have a1 : ((List.map (fun _ => Value.type "tuple") (v0 :: vs')).toArray.all fun x => x == Value.type "tuple") = true := by simp
    have a2 : (List.map (fun _ => Value.type "tuple") (v0 :: vs')).toArray[0]? = some (Value.type "tuple") := by simp
    rw [a2]
    simp only [a1, if_true]
    exact wpAny_pure (wpAny_pure h)
theorem sorts_tup {vs : List Value} {ds : List PyData} (e : EachIs (fun v d => ∃ as, Reads s.heap v d as) vs ds) (hal : AllAlike ds) (ht : Tup0 ds) (hu : ∀ d, d ∈ ds → A.units + d.depth < cLine) : SortsAt prog w A s (dataKind s.heap ds) vs := by
  refine ⟨fun v hv => ?_, oneType', fun E x y a b Q ha hb hq => ?_, fun h2 E Q hq => kind_tup e ht h2 hq⟩
  · obtain ⟨d, hd, as, r⟩ := e.left v hv
    exact ⟨_, dataKind_some hal hd r⟩
  · obtain ⟨d, as, hd, ra, rfl⟩ := dataKind_inv ha
    obtain ⟨d', as', hd', rb, rfl⟩ := dataKind_inv hb
    rw [keyLt'_oneType]
    obtain ⟨xs, rfl⟩ := ht.2 d hd
    exact one_tup ra rb (hal _ hd d' hd') (Nat.lt_of_le_of_lt (Nat.add_le_add_left (Nat.min_le_left _ _) _) (hu _ hd)) hq
/-- sorted(x): what SortsAt holds of -/
theorem sorted_any {β : Type} {R : Value → β → Prop} {enc : β → PyData} {bs : List β} {l : Addr} {vs : List Value} {Q : Value → Shared → Prop} (hl : s.heap.IsList l vs.toArray) (e : EachIs R vs bs) (er : EachIs (fun v b => ∃ as, Reads s.heap v (enc b) as) vs bs) (hal : AllAlike (bs.map enc)) (hk : Sortable (bs.map enc) ∨ Tup0 (bs.map enc)) (hL : bs.length ≤ sizeLine)
    (hu : ∀ b, b ∈ bs → A.units + 2 + (enc b).depth < cLine) (h : ∀ out, out.length = bs.length → EachIs R out (bs.mergeSort (dataLe false enc)) → Q (.ref (s.heap.objs.size + 1)) { s with heap := sortedAll s.heap vs (List.toArray out) }) :
    wpAny (model prog w) A (call (.builtin "sorted") [.ref l]) Q E s := by
  rcases hk with hk | hk
  · exact sorted_data hl e er hal hk hL hu h
  · have er2 : EachIs (fun v b => ∃ as, Reads (sortingHeap (copyHeap s.heap vs) (s.heap.objs.size + 1) vs) v (enc b) as) vs bs := er.mono fun _ _ ⟨as, r⟩ => ⟨as, PyProof.Rows.Reads.keeps (fun _ _ => sorting_copy_old) r⟩
    have er3 := each_map (R := fun v d => ∃ as, Reads (sortingHeap (copyHeap s.heap vs) (s.heap.objs.size + 1) vs) v d as) enc er2
    refine sorted_vals hl (sorts_tup (s := { s with heap := sortingHeap (copyHeap s.heap vs) (s.heap.objs.size + 1) vs }) er3 hal hk (bound_map hu)) (by rw [e.length]; exact hL) ?_
    exact h _ (by rw [sortVals_length false rfl]; exact e.length) (sortVals_data false e er2 hal)
end
end XT
namespace XT
open PySem PySem.Spec PyProof.Rows L2
open PySem.W (EachIs)
section
variable {X : Cx}
/-- sorted(x), x a list of data: the items in Python's order -/
def rSortD (K : PySem.W.Frag) (units : Nat) : List V → Hp → VK → Prop := fun vs H Q => ∃ (a : Addr) (xs : List V) (ds : List PyData), vs = [.ref a] ∧ SqL K H a xs ∧ DpAll K H xs ds ∧ PySem.W.AllAlike ds ∧ (PySem.W.Sortable ds ∨ Tup0 ds) ∧ (∀ d ∈ ds, units + 2 + d.depth < cLine) ∧
  ∀ p, H p = none → Q (.ref p) (upd H p (.lst (((xs.zip ds).mergeSort (PySem.W.dataLe false Prod.snd)).map Prod.fst)))
theorem dpAll_len {K : PySem.W.Frag} {H : Hp} : ∀ {xs : List V} {ds : List PyData}, DpAll K H xs ds → xs.length = ds.length
  | _, _, .nil => rfl
  | _, _, .cons _ t => by rw [List.length_cons, List.length_cons, dpAll_len t]
theorem vals_each {xs : List V} {its : List Value} (r : Vals xs its) : ∀ ds : List PyData, xs.length = ds.length → EachIs (fun u (p : V × PyData) => RelV p.1 u) its (xs.zip ds) := by
  induction r with
  | nil =>
    intro ds h
    cases ds with
    | nil => exact .nil
    | cons => cases h
  | cons r rs ih =>
    intro ds h
    cases ds with
    | nil => cases h
    | cons d ds => exact .cons r (ih ds (Nat.succ.inj h))
theorem each_vals : ∀ {its : List Value} {ps : List (V × PyData)}, EachIs (fun u (p : V × PyData) => RelV p.1 u) its ps → Vals (ps.map Prod.fst) its
  | _, _, .nil => .nil
  | _, _, .cons h t => .cons h (each_vals t)
theorem reads_each {h : Heap} : ∀ {xs : List V} {its : List Value} {ds : List PyData}, xs.length = ds.length → EachIs (fun v d => ∃ as, Reads h v d as) its ds → EachIs (fun v (p : V × PyData) => ∃ as, Reads h v p.2 as) its (xs.zip ds)
  | [], _, _, hl, .nil => .nil
  | x :: xs, _, _, hl, .cons h1 t => .cons h1 (reads_each (Nat.succ.inj hl) t)
theorem call_sortD (hc : X.calm = true) : CallR X (.builtin "sorted") (rSortD X.K X.A.units) := by
  intro pins s σ H xs us Q I r h
  obtain ⟨a, xs, ds, rfl, hq, hd, hal, hk, hu, q⟩ := h
  obtain ⟨u, rfl, ru⟩ := vals1 r
  obtain rfl : u = Value.ref a := ru
  obtain ⟨its, r, pl, hz⟩ := I.list hq
  have hl := dpAll_len hd
  obtain ⟨as, rd⟩ := Dp.readsAll I ds xs its hd r
  have er : EachIs (fun v d => ∃ as, Reads s.heap v d as) its ds := PySem.W.readsAll_each id (by rw [List.map_id]; exact rd)
  have ez : (xs.zip ds).map Prod.snd = ds := List.map_snd_zip (by omega)
  have lz : (xs.zip ds).length = xs.length := by rw [List.length_zip]; omega
  refine sorted_any (enc := Prod.snd) (bs := xs.zip ds) pl.isList (vals_each r ds hl) (reads_each hl er) (by rw [ez]; exact hal) (by rw [ez]; exact hk) (by rw [lz]; exact hz) (fun b hb => hu _ (by obtain ⟨b1, b2⟩ := b; exact (List.of_mem_zip hb).2)) fun out ho he => ?_
  obtain ⟨c, hcell⟩ := sortedAll_at s.heap its out.toArray
  have k : ∀ b o, s.heap.get? b = some o → (sortedAll s.heap its out.toArray).get? b = some o := fun b o e => sortedAll_old e
  have hp : s.heap.objs.size ≤ s.heap.objs.size + 1 := Nat.le_succ _
  have hn : H (s.heap.objs.size + 1) = none := I.hok.fresh hp
  have hlen : (((xs.zip ds).mergeSort (PySem.W.dataLe false Prod.snd)).map Prod.fst).length ≤ sizeLine := by
    rw [List.length_map, List.length_mergeSort, lz]
    exact hz
  have J : Inv X pins σ (upd H (s.heap.objs.size + 1) (.lst (((xs.zip ds).mergeSort (PySem.W.dataLe false Prod.snd)).map Prod.fst))) { s with heap := sortedAll s.heap its out.toArray } :=
    I.call (ch := []) (Un.laid k hp hn) (I.hok.laid k hp ⟨hlen, out, c, each_vals he, hcell⟩) I.bare (fun _ z => nomatch z)
  exact ⟨.ref _, _, J, rfl, q _ hn⟩
end
end XT
end

section
set_option Elab.async false
set_option linter.all false
set_option maxRecDepth 100000
set_option maxHeartbeats 4000000
/-! k92: rows of names in order. -/
namespace N
open PySem PySem.Spec PyProof.Rows M
theorem rising_pw : ∀ (l : List Str) (p : Str), risingS p l = true → (p :: l).Pairwise (fun a b => a.cps.toList ≤ b.cps.toList)
  | [], p, _ => List.pairwise_singleton _ _
  | x :: r, p, h => by
    have h' : (!ltCps x.cps.toList p.cps.toList && risingS x r) = true := h
    rw [Bool.and_eq_true, ltCps_eq] at h'
    have hx : p.cps.toList ≤ x.cps.toList := by
      have z : ¬ x.cps.toList < p.cps.toList := by simpa using h'.1
      exact List.not_lt.mp z
    have ih := rising_pw r x h'.2
    refine List.pairwise_cons.mpr ⟨fun y hy => ?_, ih⟩
    rcases List.mem_cons.mp hy with e | hy
    · rw [e]
      exact hx
    · exact List.le_trans hx ((List.pairwise_cons.mp ih).1 y hy)
theorem sorted_pw {l : List Str} (h : sortedS l = true) : l.Pairwise (fun a b => a.cps.toList ≤ b.cps.toList) := by
  cases l with
  | nil => exact List.Pairwise.nil
  | cons x r => exact rising_pw r x h
theorem str_ext {a b : Str} (h : a.cps.toList = b.cps.toList) : a = b := by
  cases a
  cases b
  congr
  exact Array.toList_inj.mp h
theorem perm_nodup : ∀ (l m : List Str), l.Nodup → m.Nodup → (∀ k, k ∈ l ↔ k ∈ m) → l.Perm m := fun l m h1 h2 h => (List.perm_ext_iff_of_nodup h1 h2).mpr h
theorem sort_one {l m : List Str} (h1 : l.Nodup) (h2 : m.Nodup) (h : ∀ k, k ∈ l ↔ k ∈ m) (s1 : sortedS l = true) (s2 : sortedS m = true) : l = m :=
  List.Perm.eq_of_pairwise (fun a b _ _ x y => str_ext (List.le_antisymm x y)) (sorted_pw s1) (sorted_pw s2) (perm_nodup l m h1 h2 h)
/-- in order, none twice -/
def Ord (l : List Str) : Prop := l.Nodup ∧ sortedS l = true
instance (l : List Str) : Decidable (Ord l) := inferInstanceAs (Decidable (_ ∧ _))
theorem ord_iff {l ys : List Str} (h1 : ys.Nodup) (h2 : ∀ k, k ∈ ys ↔ k ∈ l) (h3 : sortedS ys = true) : l = ys ↔ Ord l := by
  constructor
  · intro e
    rw [e]
    exact ⟨h1, h3⟩
  · intro z
    exact sort_one z.1 h1 (fun k => (h2 k).symm) z.2 h3
end N
end

section
set_option Elab.async false
set_option linter.all false
set_option maxRecDepth 100000
set_option maxHeartbeats 4000000
/-! k92: answers, facts, traces and addresses, read and shown, as plain functions on signs. -/
namespace M
open L2 TL
abbrev St (l : Cs) : PySem.Str := ⟨l.toArray⟩
def nmB (n : Cs) : Bool := decide (0 < n.length ∧ n.length ≤ 8) && n.all isLet
theorem nmB_iff {n : Cs} : nmB n = true ↔ Nm n := by
  unfold nmB
  rw [Bool.and_eq_true, decide_eq_true_iff, List.all_eq_true]
  exact ⟨fun h => ⟨h.1.1, h.1.2, h.2⟩, fun h => ⟨⟨h.pos, h.most⟩, h.all⟩⟩
def ANs (ns : List Cs) : Prop := ns.all nmB = true ∧ N.Ord (ns.map St)
instance (ns : List Cs) : Decidable (ANs ns) := inferInstanceAs (Decidable (_ ∧ _))
theorem ANs.nm {ns : List Cs} (h : ANs ns) : ∀ n ∈ ns, Nm n := fun n hn => nmB_iff.mp (List.all_eq_true.mp h.1 n hn)
/-- l cut at each c -/
def sp (c : Nat) : Cs → List Cs
  | [] => [[]]
  | x :: r => if x = c then [] :: sp c r else match sp c r with
    | [] => [[x]]
    | h :: t => (x :: h) :: t
theorem sp_ne (c : Nat) : ∀ l, sp c l ≠ []
  | [] => by simp [sp]
  | x :: r => by
    unfold sp
    by_cases h : x = c
    · rw [if_pos h]
      simp
    · rw [if_neg h]
      split <;> simp
theorem sp_hit {c : Nat} {r : Cs} : sp c (c :: r) = [] :: sp c r := by
  conv => lhs; unfold sp
  rw [if_pos rfl]
theorem sp_miss {c x : Nat} {r h : Cs} {t : List Cs} (n : x ≠ c) (e : sp c r = h :: t) : sp c (x :: r) = (x :: h) :: t := by
  conv => lhs; unfold sp
  rw [if_neg n, e]
theorem spl_sp (c : Nat) : ∀ (l acc h : Cs) (t : List Cs), sp c l = h :: t → spl [c] 0 acc l = (acc ++ h) :: t
  | [], acc, h, t, e => by
    injection e with e1 e2
    subst e1 e2
    rw [spl_nil, List.append_nil]
  | x :: r, acc, h, t, e => by
    obtain ⟨h', t', e'⟩ := List.exists_cons_of_ne_nil (sp_ne c r)
    by_cases n : x = c
    · subst n
      rw [sp_hit] at e
      injection e with e1 e2
      subst e1 e2
      rw [spl_hit (show pre [x] (x :: r) = true from pre_self [x] r), show ([x] : Cs).length - 1 = 0 from rfl, spl_sp x r [] h' t' e', e', List.append_nil, List.nil_append]
    · rw [sp_miss n e'] at e
      injection e with e1 e2
      subst e1 e2
      rw [spl_miss (pre_of_head [] r n), spl_sp c r _ h' _ e', List.append_assoc]
      rfl
theorem spl_eq (c : Nat) (l : Cs) : spl [c] 0 [] l = sp c l := by
  obtain ⟨h, t, e⟩ := List.exists_cons_of_ne_nil (sp_ne c l)
  rw [spl_sp c l [] h t e, e, List.nil_append]
theorem join_two (b x y : Cs) (r : List Cs) : joinL b (x :: y :: r) = x ++ (b ++ joinL b (y :: r)) := rfl
theorem join_hd (b : Cs) (x : Nat) (h : Cs) (t : List Cs) : joinL b ((x :: h) :: t) = x :: joinL b (h :: t) := by
  cases t with
  | nil => rfl
  | cons y t => rfl
theorem join_sp (c : Nat) : ∀ l, joinL [c] (sp c l) = l
  | [] => rfl
  | x :: r => by
    obtain ⟨h', t', e'⟩ := List.exists_cons_of_ne_nil (sp_ne c r)
    have ih := join_sp c r
    by_cases n : x = c
    · subst n
      rw [sp_hit, e', join_two, ← e', ih]
      rfl
    · rw [sp_miss n e', join_hd, ← e', ih]
theorem sp_free (c : Nat) : ∀ l, ∀ p ∈ sp c l, c ∉ p
  | [], p, hp => by
    have : p = [] := by simpa [sp] using hp
    rw [this]
    simp
  | x :: r, p, hp => by
    obtain ⟨h', t', e'⟩ := List.exists_cons_of_ne_nil (sp_ne c r)
    have ih := sp_free c r
    by_cases n : x = c
    · subst n
      rw [sp_hit] at hp
      rcases List.mem_cons.mp hp with e | hp
      · rw [e]
        simp
      · exact ih p hp
    · rw [sp_miss n e'] at hp
      rw [e'] at ih
      rcases List.mem_cons.mp hp with e | hp
      · rw [e]
        intro z
        rcases List.mem_cons.mp z with z | z
        · exact n z.symm
        · exact ih h' (List.mem_cons_self ..) z
      · exact ih p (List.mem_cons_of_mem _ hp)
theorem sp_cons {c : Nat} : ∀ {a : Cs} (r : Cs), c ∉ a → sp c (a ++ c :: r) = a :: sp c r
  | [], r, _ => sp_hit
  | x :: a, r, h => by
    have ih := sp_cons (a := a) r fun z => h (List.mem_cons_of_mem _ z)
    exact sp_miss (fun z => h (by rw [z]; exact List.mem_cons_self ..)) ih
theorem sp_one {c : Nat} : ∀ {a : Cs}, c ∉ a → sp c a = [a]
  | [], _ => rfl
  | x :: a, h => sp_miss (fun z => h (by rw [z]; exact List.mem_cons_self ..)) (sp_one fun z => h (List.mem_cons_of_mem _ z))
theorem sp_len (c : Nat) : ∀ l, (sp c l).length = l.count c + 1
  | [] => rfl
  | x :: r => by
    obtain ⟨h', t', e'⟩ := List.exists_cons_of_ne_nil (sp_ne c r)
    have ih := sp_len c r
    by_cases n : x = c
    · subst n
      rw [sp_hit, List.length_cons, ih, List.count_cons_self]
    · rw [sp_miss n e', List.count_cons_of_ne n, ← ih, e']
      rfl
/-! ### answers -/
def rdA (s : Cs) : Option (List Cs) := if ANs (if s = q "-" then [] else sp 43 s) then some (if s = q "-" then [] else sp 43 s) else none
def shA (ns : List Cs) : Cs := if ns = [] then q "-" else joinL [43] ns
theorem rdA_sh {s : Cs} {ns : List Cs} (h : rdA s = some ns) : shA ns = s ∧ ANs ns := by
  unfold rdA at h
  by_cases hA : ANs (if s = q "-" then [] else sp 43 s)
  · rw [if_pos hA] at h
    injection h with h
    subst h
    refine ⟨?_, hA⟩
    by_cases hs : s = q "-"
    · rw [if_pos hs, hs]
      rfl
    · rw [if_neg hs]
      unfold shA
      rw [if_neg (sp_ne 43 s), join_sp]
  · rw [if_neg hA] at h
    cases h
/-! ### facts -/
inductive Fact where
  | alw (c : Cond)
  | mk (a b : Cs) (c : Cond)
def Fact.wf : Fact → Prop
  | .alw c => c.wf
  | .mk a b c => Nm a ∧ Nm b ∧ c.wf
def mkS (a b r : Cs) : Cs := q "makes" ++ (q " " ++ (a ++ (q " " ++ (b ++ (q " " ++ r)))))
def alS (r : Cs) : Cs := q "always" ++ (q " " ++ r)
def Fact.sh : Fact → Cs
  | .alw c => alS c.sh
  | .mk a b c => mkS a b c.sh
def fact (n : Nat) (s : Cs) : Option (Fact × Cs) := match word s with
  | none => none
  | some (w, r1) => match takes (q " ") r1 with
    | none => none
    | some r2 => if w = q "always" then (match cond n r2 with
        | none => none
        | some (c, r) => some (.alw c, r))
      else if w = q "makes" then (match word r2 with
        | none => none
        | some (a, r3) => match takes (q " ") r3 with
          | none => none
          | some r4 => match word r4 with
            | none => none
            | some (b, r5) => match takes (q " ") r5 with
              | none => none
              | some r6 => match cond n r6 with
                | none => none
                | some (c, r) => some (.mk a b c, r))
      else none
def readF (n : Nat) (s : Cs) : Option Fact := match fact n s with
  | none => none
  | some (f, _) => if f.sh = s then some f else none
def lawF (n m : Nat) (s : Cs) : Option Fact :=
  if s.take 7 = q "always " then (match lawC n m (s.drop 7) with
    | none => none
    | some c => some (.alw c))
  else match sp 32 s with
  | w0 :: w1 :: w2 :: _ :: _ => if w0 = q "makes" ∧ nmB w1 = true ∧ nmB w2 = true then (match lawC n m (s.drop (8 + w1.length + w2.length)) with
    | none => none
    | some c => some (.mk w1 w2 c)) else none
  | _ => none
theorem nl_sp {r : Cs} : nl (q " " ++ r) := nl_q (s := " ") (by decide)
theorem nm_sp {a : Cs} (h : Nm a) : (32 : Nat) ∉ a := fun z => by
  have := h.all 32 z
  revert this
  decide
theorem nm_always : Nm (q "always") := nm_q (by decide)
theorem nm_makes : Nm (q "makes") := nm_q (by decide)
theorem word_sp {w r : Cs} (h : Nm w) : word (w ++ (q " " ++ r)) = some (w, q " " ++ r) := word_app h nl_sp
theorem alS_inj {a b : Cs} (h : alS a = alS b) : a = b := List.append_cancel_left (List.append_cancel_left h)
theorem mkS_inj {a b x y : Cs} (h : mkS a b x = mkS a b y) : x = y := by
  unfold mkS at h
  exact List.append_cancel_left (List.append_cancel_left (List.append_cancel_left (List.append_cancel_left (List.append_cancel_left (List.append_cancel_left h)))))
theorem fact_alw {n : Nat} {r : Cs} : fact n (alS r) = (match cond n r with
    | none => none
    | some (c, r) => some (.alw c, r)) := by
  unfold fact alS
  rw [word_sp nm_always]
  dsimp only
  rw [takes_self]
  dsimp only
  rw [if_pos rfl]
theorem fact_mk {n : Nat} {a b r : Cs} (ha : Nm a) (hb : Nm b) : fact n (mkS a b r) = (match cond n r with
    | none => none
    | some (c, r) => some (.mk a b c, r)) := by
  unfold fact mkS
  rw [word_sp nm_makes]
  dsimp only
  rw [takes_self]
  dsimp only
  rw [if_neg (by decide), if_pos rfl, word_sp ha]
  dsimp only
  rw [takes_self]
  dsimp only
  rw [word_sp hb]
  dsimp only
  rw [takes_self]
/-- what stands ahead of a fact's condition -/
theorem fact_head {n : Nat} {s r : Cs} {f : Fact} (h : fact n s = some (f, r)) : (∃ c s2, f = .alw c ∧ s = alS s2) ∨ ∃ a b c s2, f = .mk a b c ∧ Nm a ∧ Nm b ∧ s = mkS a b s2 := by
  unfold fact at h
  cases h1 : word s with
  | none =>
    rw [h1] at h
    cases h
  | some z =>
    obtain ⟨w, r1⟩ := z
    rw [h1] at h
    dsimp only at h
    obtain ⟨e1, n1, _⟩ := word_some h1
    cases h2 : takes (q " ") r1 with
    | none =>
      rw [h2] at h
      cases h
    | some r2 =>
      rw [h2] at h
      dsimp only at h
      have e2 := takes_some.mp h2
      by_cases c1 : w = q "always"
      · rw [if_pos c1] at h
        left
        cases h3 : cond n r2 with
        | none =>
          rw [h3] at h
          cases h
        | some z =>
          obtain ⟨c, r'⟩ := z
          rw [h3] at h
          injection h with h
          injection h with h _
          exact ⟨c, r2, h.symm, by rw [e1, e2, c1]; rfl⟩
      · rw [if_neg c1] at h
        by_cases c2 : w = q "makes"
        · rw [if_pos c2] at h
          right
          cases h3 : word r2 with
          | none =>
            rw [h3] at h
            cases h
          | some z =>
            obtain ⟨a, r3⟩ := z
            rw [h3] at h
            dsimp only at h
            obtain ⟨e3, n3, _⟩ := word_some h3
            cases h4 : takes (q " ") r3 with
            | none =>
              rw [h4] at h
              cases h
            | some r4 =>
              rw [h4] at h
              dsimp only at h
              have e4 := takes_some.mp h4
              cases h5 : word r4 with
              | none =>
                rw [h5] at h
                cases h
              | some z =>
                obtain ⟨b, r5⟩ := z
                rw [h5] at h
                dsimp only at h
                obtain ⟨e5, n5, _⟩ := word_some h5
                cases h6 : takes (q " ") r5 with
                | none =>
                  rw [h6] at h
                  cases h
                | some r6 =>
                  rw [h6] at h
                  dsimp only at h
                  have e6 := takes_some.mp h6
                  cases h7 : cond n r6 with
                  | none =>
                    rw [h7] at h
                    cases h
                  | some z =>
                    obtain ⟨c, r'⟩ := z
                    rw [h7] at h
                    injection h with h
                    injection h with h _
                    exact ⟨a, b, c, r6, h.symm, n3, n5, by rw [e1, e2, c2, e3, e4, e5, e6]; rfl⟩
        · rw [if_neg c2] at h
          cases h
theorem readF_iff {n : Nat} {s : Cs} {f : Fact} : readF n s = some f ↔ (∃ c s2, f = .alw c ∧ s = alS s2 ∧ readC n s2 = some c) ∨ ∃ a b c s2, f = .mk a b c ∧ Nm a ∧ Nm b ∧ s = mkS a b s2 ∧ readC n s2 = some c := by
  constructor
  · intro h
    unfold readF at h
    cases hf : fact n s with
    | none =>
      rw [hf] at h
      cases h
    | some z =>
      obtain ⟨g, r⟩ := z
      rw [hf] at h
      dsimp only at h
      by_cases hs : g.sh = s
      · rw [if_pos hs] at h
        injection h with h
        subst h
        rcases fact_head hf with ⟨c, s2, rfl, rfl⟩ | ⟨a, b, c, s2, rfl, na, nb, rfl⟩
        · left
          refine ⟨c, s2, rfl, rfl, ?_⟩
          rw [fact_alw] at hf
          unfold readC
          cases hc : cond n s2 with
          | none =>
            rw [hc] at hf
            cases hf
          | some z =>
            obtain ⟨c', r'⟩ := z
            rw [hc] at hf
            injection hf with hf
            injection hf with e1 e2
            injection e1 with e1
            subst e1
            dsimp only
            rw [if_pos (alS_inj hs)]
        · right
          refine ⟨a, b, c, s2, rfl, na, nb, rfl, ?_⟩
          rw [fact_mk na nb] at hf
          unfold readC
          cases hc : cond n s2 with
          | none =>
            rw [hc] at hf
            cases hf
          | some z =>
            obtain ⟨c', r'⟩ := z
            rw [hc] at hf
            injection hf with hf
            injection hf with e1 e2
            injection e1 with _ _ e1
            subst e1
            dsimp only
            rw [if_pos (mkS_inj hs)]
      · rw [if_neg hs] at h
        cases h
  · have rc : ∀ {s2 : Cs} {c : Cond}, readC n s2 = some c → ∃ r, cond n s2 = some (c, r) ∧ c.sh = s2 := fun {s2 c} h => by
      unfold readC at h
      cases hc : cond n s2 with
      | none =>
        rw [hc] at h
        cases h
      | some z =>
        obtain ⟨c', r'⟩ := z
        rw [hc] at h
        dsimp only at h
        by_cases e : c'.sh = s2
        · rw [if_pos e] at h
          injection h with h
          subst h
          exact ⟨r', rfl, e⟩
        · rw [if_neg e] at h
          cases h
    rintro (⟨c, s2, rfl, rfl, h⟩ | ⟨a, b, c, s2, rfl, na, nb, rfl, h⟩)
    · obtain ⟨r, h1, h2⟩ := rc h
      unfold readF
      rw [fact_alw, h1]
      dsimp only
      rw [if_pos (show (Fact.alw c).sh = alS s2 by show alS c.sh = _; rw [h2])]
    · obtain ⟨r, h1, h2⟩ := rc h
      unfold readF
      rw [fact_mk na nb, h1]
      dsimp only
      rw [if_pos (show (Fact.mk a b c).sh = mkS a b s2 by show mkS a b c.sh = _; rw [h2])]
theorem sp_al (r : Cs) : (alS r).take 7 = q "always " ∧ (alS r).drop 7 = r := by
  have e : alS r = q "always " ++ r := by
    unfold alS
    rw [q_split "always" " " "always " (by decide)]
  rw [e]
  exact ⟨List.take_left' (by decide), List.drop_left' (by decide)⟩
theorem al_of {s : Cs} (h : s.take 7 = q "always ") : s = alS (s.drop 7) := by
  have e := List.take_append_drop 7 s
  rw [h] at e
  unfold alS
  rw [← q_split "always" " " "always " (by decide)]
  exact e.symm
theorem mk_no (a b r : Cs) : (mkS a b r).take 7 ≠ q "always " := fun h => by
  have := congrArg (fun l : Cs => l.head?) h
  have e : mkS a b r = 109 :: (mkS a b r).drop 1 := by
    unfold mkS
    have : q "makes" = [109, 97, 107, 101, 115] := by decide
    rw [this]
    rfl
  rw [e] at this
  have e2 : q "always " = [97, 108, 119, 97, 121, 115, 32] := by decide
  rw [e2] at this
  simp at this
theorem sp_mk {a b : Cs} (na : Nm a) (nb : Nm b) (r : Cs) : sp 32 (mkS a b r) = q "makes" :: a :: b :: sp 32 r := by
  have e : q " " = [32] := by decide
  unfold mkS
  rw [e]
  show sp 32 (q "makes" ++ 32 :: (a ++ 32 :: (b ++ 32 :: r))) = _
  rw [sp_cons _ (by decide), sp_cons _ (nm_sp na), sp_cons _ (nm_sp nb)]
theorem drop_mk (a b r : Cs) : (mkS a b r).drop (8 + a.length + b.length) = r := by
  have e : mkS a b r = (q "makes" ++ (q " " ++ (a ++ (q " " ++ (b ++ q " "))))) ++ r := by
    unfold mkS
    simp only [List.append_assoc]
  have l1 : (q "makes").length = 5 := by decide
  have l2 : (q " ").length = 1 := by decide
  rw [e]
  exact List.drop_left' (by simp only [List.length_append, l1, l2]; omega)
theorem lawF_iff {n m : Nat} {s : Cs} {f : Fact} : lawF n m s = some f ↔ (∃ c s2, f = .alw c ∧ s = alS s2 ∧ lawC n m s2 = some c) ∨ ∃ a b c s2, f = .mk a b c ∧ Nm a ∧ Nm b ∧ s = mkS a b s2 ∧ lawC n m s2 = some c := by
  constructor
  · intro h
    unfold lawF at h
    by_cases h7 : s.take 7 = q "always "
    · rw [if_pos h7] at h
      left
      cases hc : lawC n m (s.drop 7) with
      | none =>
        rw [hc] at h
        cases h
      | some c =>
        rw [hc] at h
        injection h with h
        exact ⟨c, s.drop 7, h.symm, al_of h7, hc⟩
    · rw [if_neg h7] at h
      right
      split at h
      · rename_i w0 w1 w2 w3 ws e
        by_cases hw : w0 = q "makes" ∧ nmB w1 = true ∧ nmB w2 = true
        · rw [if_pos hw] at h
          obtain ⟨rfl, n1, n2⟩ := hw
          have es : s = mkS w1 w2 (joinL [32] (w3 :: ws)) := by
            have j := join_sp 32 s
            rw [e] at j
            exact j.symm
          cases hc : lawC n m (s.drop (8 + w1.length + w2.length)) with
          | none =>
            rw [hc] at h
            cases h
          | some c =>
            rw [hc] at h
            injection h with h
            refine ⟨w1, w2, c, joinL [32] (w3 :: ws), h.symm, nmB_iff.mp n1, nmB_iff.mp n2, es, ?_⟩
            rw [es, drop_mk] at hc
            exact hc
        · rw [if_neg hw] at h
          cases h
      · cases h
  · rintro (⟨c, s2, rfl, rfl, h⟩ | ⟨a, b, c, s2, rfl, na, nb, rfl, h⟩)
    · unfold lawF
      rw [if_pos (sp_al s2).1, (sp_al s2).2, h]
    · unfold lawF
      obtain ⟨w3, ws, e⟩ := List.exists_cons_of_ne_nil (sp_ne 32 s2)
      rw [if_neg (mk_no a b s2), sp_mk na nb, e]
      dsimp only
      rw [if_pos ⟨rfl, nmB_iff.mpr na, nmB_iff.mpr nb⟩, drop_mk, h]
theorem om_alS (r : Cs) : om r ≤ om (alS r) ∧ r.length ≤ (alS r).length := by
  unfold alS
  simp only [om_app, List.length_append]
  omega
theorem om_mkS (a b r : Cs) : om r ≤ om (mkS a b r) ∧ r.length ≤ (mkS a b r).length := by
  unfold mkS
  simp only [om_app, List.length_append]
  omega
theorem opt_ext {α : Type} {a b : Option α} (h : ∀ x, a = some x ↔ b = some x) : a = b := by
  cases a with
  | none =>
    cases b with
    | none => rfl
    | some y => exact absurd ((h y).mpr rfl) (by simp)
  | some x => exact ((h x).mp rfl).symm
theorem readF_eq {n n' m : Nat} {s : Cs} (h1 : om s < n) (h2 : om s < n') (hm : s.length ≤ m) : readF n s = lawF n' m s := by
  refine opt_ext fun f => ?_
  rw [readF_iff, lawF_iff]
  constructor
  · rintro (⟨c, s2, rfl, rfl, h⟩ | ⟨a, b, c, s2, rfl, na, nb, rfl, h⟩)
    · have := om_alS s2
      exact .inl ⟨c, s2, rfl, rfl, by rw [← readC_eq (n := n) (by omega) (by omega) (by omega)]; exact h⟩
    · have := om_mkS a b s2
      exact .inr ⟨a, b, c, s2, rfl, na, nb, rfl, by rw [← readC_eq (n := n) (by omega) (by omega) (by omega)]; exact h⟩
  · rintro (⟨c, s2, rfl, rfl, h⟩ | ⟨a, b, c, s2, rfl, na, nb, rfl, h⟩)
    · have := om_alS s2
      exact .inl ⟨c, s2, rfl, rfl, by rw [readC_eq (n' := n') (m := m) (by omega) (by omega) (by omega)]; exact h⟩
    · have := om_mkS a b s2
      exact .inr ⟨a, b, c, s2, rfl, na, nb, rfl, by rw [readC_eq (n' := n') (m := m) (by omega) (by omega) (by omega)]; exact h⟩
theorem lawF_sh {n m : Nat} {s : Cs} {f : Fact} (h : lawF n m s = some f) : f.sh = s ∧ f.wf := by
  rcases lawF_iff.mp h with ⟨c, s2, rfl, rfl, h9⟩ | ⟨a, b, c, s2, rfl, na, nb, rfl, h9⟩
  · obtain ⟨e1, e2⟩ := lawC_sh h9
    exact ⟨by show alS c.sh = _; rw [e1], e2⟩
  · obtain ⟨e1, e2⟩ := lawC_sh h9
    exact ⟨by show mkS a b c.sh = _; rw [e1], na, nb, e2⟩
theorem lawF_short {n m : Nat} {s : Cs} (h7 : s.take 7 ≠ q "always ") (h : (sp 32 s).length < 4) : lawF n m s = none := by
  unfold lawF
  rw [if_neg h7]
  split
  · rename_i w0 w1 w2 w3 ws e
    rw [e] at h
    simp at h
    omega
  · rfl
theorem lawF_words {n m : Nat} {s w0 w1 w2 w3 : Cs} {ws : List Cs} (h7 : s.take 7 ≠ q "always ") (e : sp 32 s = w0 :: w1 :: w2 :: w3 :: ws) : lawF n m s = if w0 = q "makes" ∧ nmB w1 = true ∧ nmB w2 = true then (lawC n m (s.drop (8 + w1.length + w2.length))).map (Fact.mk w1 w2) else none := by
  unfold lawF
  rw [if_neg h7, e]
  dsimp only
  split
  · cases lawC n m (s.drop (8 + w1.length + w2.length)) <;> rfl
  · rfl
theorem sp_four {s w0 w1 w2 w3 : Cs} {ws : List Cs} (e : sp 32 s = w0 :: w1 :: w2 :: w3 :: ws) : s = w0 ++ (32 :: (w1 ++ (32 :: (w2 ++ (32 :: joinL [32] (w3 :: ws)))))) := by
  have j := join_sp 32 s
  rw [e] at j
  exact j.symm
/-! ### traces -/
abbrev Trace := List Cs × List (Cs × List Cs)
def stp (w : Cs) : Option Cs := if w.drop (w.length - 1) = q ">" ∧ nmB (w.take (w.length - 1)) = true then some (w.take (w.length - 1)) else none
def trW : List Cs → Option (List (Cs × List Cs))
  | [] => some []
  | [_] => none
  | st :: an :: r => match stp st with
    | none => none
    | some a => match rdA an with
      | none => none
      | some ns => match trW r with
        | none => none
        | some t => some ((a, ns) :: t)
def rdT (s : Cs) : Option Trace := match sp 32 s with
  | [] => none
  | w0 :: ws => match rdA w0 with
    | none => none
    | some a => match trW ws with
      | none => none
      | some t => some (a, t)
def turnS (t : Cs × List Cs) : Cs := t.1 ++ (q "> " ++ shA t.2)
def shT (t : Trace) : Cs := joinL (q " ") (shA t.1 :: t.2.map turnS)
theorem stp_some {w a : Cs} (h : stp w = some a) : w = a ++ q ">" ∧ Nm a := by
  unfold stp at h
  by_cases e : w.drop (w.length - 1) = q ">" ∧ nmB (w.take (w.length - 1)) = true
  · rw [if_pos e] at h
    injection h with h
    subst h
    refine ⟨?_, nmB_iff.mp e.2⟩
    rw [← e.1, List.take_append_drop]
  · rw [if_neg e] at h
    cases h
def TrOk (t : Trace) : Prop := ANs t.1 ∧ ∀ x ∈ t.2, Nm x.1 ∧ ANs x.2
theorem trW_sh : ∀ (ws : List Cs) (t : List (Cs × List Cs)), trW ws = some t → tailL [32] ws = tailL [32] (t.map turnS) ∧ (∀ x ∈ t, Nm x.1 ∧ ANs x.2) ∧ ws.length = 2 * t.length
  | [], t, h => by
    injection h with h
    subst h
    exact ⟨rfl, fun _ h => (nomatch h), rfl⟩
  | [_], t, h => by cases h
  | st :: an :: r, t, h => by
    unfold trW at h
    cases h1 : stp st with
    | none =>
      rw [h1] at h
      cases h
    | some a =>
      rw [h1] at h
      dsimp only at h
      cases h2 : rdA an with
      | none =>
        rw [h2] at h
        cases h
      | some ns =>
        rw [h2] at h
        dsimp only at h
        cases h3 : trW r with
        | none =>
          rw [h3] at h
          cases h
        | some t' =>
          rw [h3] at h
          injection h with h
          subst h
          obtain ⟨i1, i2, i3⟩ := trW_sh r t' h3
          obtain ⟨e1, n1⟩ := stp_some h1
          obtain ⟨e2, n2⟩ := rdA_sh h2
          refine ⟨?_, fun x hx => ?_, ?_⟩
          · have c1 : ∀ (x : Cs) (xs : List Cs), tailL [32] (x :: xs) = [32] ++ (x ++ tailL [32] xs) := fun x xs => by
              unfold tailL
              rw [List.map_cons, List.flatten_cons, List.append_assoc]
            rw [c1, c1, i1, List.map_cons, c1, e1]
            have q2 : q "> " = q ">" ++ [32] := by decide
            have t1 : turnS (a, ns) = a ++ (q ">" ++ [32] ++ an) := by
              unfold turnS
              dsimp only
              rw [e2, q2]
            rw [t1]
            simp only [List.append_assoc]
          · rcases List.mem_cons.mp hx with e | hx
            · rw [e]
              exact ⟨n1, n2⟩
            · exact i2 x hx
          · simp only [List.length_cons, i3]
            omega
theorem rdT_sh {s : Cs} {t : Trace} (h : rdT s = some t) : shT t = s ∧ TrOk t := by
  unfold rdT at h
  cases hs : sp 32 s with
  | nil => exact absurd hs (sp_ne 32 s)
  | cons w0 ws =>
    rw [hs] at h
    dsimp only at h
    cases h1 : rdA w0 with
    | none =>
      rw [h1] at h
      cases h
    | some a =>
      rw [h1] at h
      dsimp only at h
      cases h2 : trW ws with
      | none =>
        rw [h2] at h
        cases h
      | some t' =>
        rw [h2] at h
        injection h with h
        subst h
        obtain ⟨e1, n1⟩ := rdA_sh h1
        obtain ⟨e2, n2, _⟩ := trW_sh ws t' h2
        refine ⟨?_, n1, n2⟩
        have j := join_sp 32 s
        rw [hs, join_tail, e2] at j
        unfold shT
        have e : q " " = [32] := by decide
        rw [e, join_tail, e1]
        exact j
/-! ### addresses -/
abbrev Addr' := Cs × List Nat
def rdN (w : Cs) : Option Nat := match number w with
  | some (k, []) => some k
  | _ => none
def mapO {α β : Type} (f : α → Option β) : List α → Option (List β)
  | [] => some []
  | x :: r => match f x with
    | none => none
    | some y => match mapO f r with
      | none => none
      | some ys => some (y :: ys)
def rdX (s : Cs) : Option Addr' := match par [58] [] s with
  | none => none
  | some (nm, rest) => if nm = [] ∨ nmB nm = true then (match mapO rdN (if rest = [] then [] else sp 46 rest) with
    | none => none
    | some ks => some (nm, ks)) else none
def shX (x : Addr') : Cs := x.1 ++ (q ":" ++ joinL (q ".") (x.2.map numL))
theorem par_some (c : Nat) : ∀ (l acc p r : Cs), par [c] acc l = some (p, r) → acc ++ l = p ++ c :: r
  | [], acc, p, r, h => by cases h
  | x :: l, acc, p, r, h => by
    by_cases n : x = c
    · subst n
      rw [par_hit (show pre [x] (x :: l) = true from pre_self [x] l)] at h
      injection h with h
      injection h with e1 e2
      subst e1 e2
      rfl
    · rw [par_miss (pre_of_head [] l n)] at h
      have := par_some c l _ p r h
      rw [← this, List.append_assoc]
      rfl
theorem par_none (c : Nat) : ∀ (l acc : Cs), par [c] acc l = none → c ∉ l
  | [], acc, h => by simp
  | x :: l, acc, h => by
    by_cases n : x = c
    · subst n
      rw [par_hit (show pre [x] (x :: l) = true from pre_self [x] l)] at h
      cases h
    · rw [par_miss (pre_of_head [] l n)] at h
      have := par_none c l _ h
      intro z
      rcases List.mem_cons.mp z with z | z
      · exact n z.symm
      · exact this z
theorem rdN_some {w : Cs} {k : Nat} (h : rdN w = some k) : numL k = w ∧ k < 1000000000 := by
  unfold rdN at h
  split at h
  · rename_i k' e
    injection h with h
    subst h
    obtain ⟨e1, _, e3⟩ := number_some e
    exact ⟨by rw [e1, List.append_nil], e3⟩
  · cases h
theorem mapO_some {α β : Type} {f : α → Option β} : ∀ {l : List α} {ys : List β}, mapO f l = some ys → ∀ (g : β → α) (P : β → Prop), (∀ x y, f x = some y → g y = x ∧ P y) → ys.map g = l ∧ ∀ y ∈ ys, P y
  | [], ys, h, g, P, hg => by
    injection h with h
    subst h
    exact ⟨rfl, fun _ h => (nomatch h)⟩
  | x :: r, ys, h, g, P, hg => by
    unfold mapO at h
    cases h1 : f x with
    | none =>
      rw [h1] at h
      cases h
    | some y =>
      rw [h1] at h
      dsimp only at h
      cases h2 : mapO f r with
      | none =>
        rw [h2] at h
        cases h
      | some ys' =>
        rw [h2] at h
        injection h with h
        subst h
        obtain ⟨i1, i2⟩ := mapO_some h2 g P hg
        obtain ⟨j1, j2⟩ := hg x y h1
        exact ⟨by rw [List.map_cons, i1, j1], fun z hz => by
          rcases List.mem_cons.mp hz with e | hz
          · rw [e]
            exact j2
          · exact i2 z hz⟩
theorem shX_of {nm rest : Cs} {ks : List Nat} (h : mapO rdN (if rest = [] then [] else sp 46 rest) = some ks) : joinL (q ".") (ks.map numL) = rest ∧ ∀ k ∈ ks, k < 1000000000 := by
  obtain ⟨e1, e2⟩ := mapO_some h numL (fun k => k < 1000000000) fun x y h => rdN_some h
  refine ⟨?_, e2⟩
  rw [e1]
  have e : q "." = [46] := by decide
  rw [e]
  by_cases hr : rest = []
  · rw [if_pos hr, hr]
    rfl
  · rw [if_neg hr, join_sp]
theorem rdX_sh {s : Cs} {x : Addr'} (h : rdX s = some x) : shX x = s ∧ (x.1 = [] ∨ Nm x.1) ∧ ∀ k ∈ x.2, k < 1000000000 := by
  unfold rdX at h
  cases hp : par [58] [] s with
  | none =>
    rw [hp] at h
    cases h
  | some z =>
    obtain ⟨nm, rest⟩ := z
    rw [hp] at h
    dsimp only at h
    by_cases hn : nm = [] ∨ nmB nm = true
    · rw [if_pos hn] at h
      cases hm : mapO rdN (if rest = [] then [] else sp 46 rest) with
      | none =>
        rw [hm] at h
        cases h
      | some ks =>
        rw [hm] at h
        injection h with h
        subst h
        obtain ⟨e1, e2⟩ := shX_of (nm := nm) hm
        have e3 := par_some 58 s [] nm rest hp
        refine ⟨?_, hn.imp id nmB_iff.mp, e2⟩
        unfold shX
        dsimp only
        rw [e1]
        exact e3.symm
    · rw [if_neg hn] at h
      cases h
end M
end

section
set_option Elab.async false
set_option linter.all false
set_option maxRecDepth 100000
set_option maxHeartbeats 4000000
/-! Comprehensions with a test, by what they give. -/
namespace HL
open PySem PySem.Spec PyProof.Rows L2 He
section
variable {K : PySem.W.Frag} {a : Addr} {te : TE} {tt : TT} {i : Nat} {σ : L2.St} {H1 : Hp} {D : Addr} {Qd : Hp → Prop} {α : Type} {as : List α} {g : α → V} {f : α → Bool}
theorem filt_succ {l : List α} {k : Nat} {x : α} (h : l[k]? = some x) : ((l.take (k + 1)).filter f).map g = if f x = true then ((l.take k).filter f).map g ++ [g x] else ((l.take k).filter f).map g := by
  rw [take_succ' h, List.filter_append, List.map_append]
  by_cases hf : f x = true
  · rw [if_pos hf, List.filter_cons_of_pos hf]
    rfl
  · rw [if_neg hf, List.filter_cons_of_neg hf, List.filter_nil, List.map_nil, List.append_nil]
theorem turnF {k : Nat} {x : α} {H : Hp} (hD : H1 D = none) (hx : as[k]? = some x) (hsz : as.length ≤ sizeLine) (e : Same H1 H) (hl : H D = some (.lst (((as.take k).filter f).map g)))
    (ht : ∀ H R, Same H1 H → (∀ H', Same H H' → R (f x) H') → tt ((wipe σ [i]).set i (some (g x))) H R) (he : ∀ H Q, f x = true → Same H1 H → (∀ H', Same H H' → Q (g x) H') → te ((wipe σ [i]).set i (some (g x))) H Q) :
    wipe ((wipe σ [i]).set i (some (g x))) [i] = wipe σ [i] ∧ tt ((wipe σ [i]).set i (some (g x))) H fun b H3 => if b = true then te ((wipe σ [i]).set i (some (g x))) H3 fun y H4 => ∃ acc, H4 D = some (.lst acc) ∧ acc.length < sizeLine ∧
      (Same H1 (upd H4 D (.lst (acc ++ [y]))) ∧ upd H4 D (.lst (acc ++ [y])) D = some (.lst (((as.take (k + 1)).filter f).map g))) else (Same H1 H3 ∧ H3 D = some (.lst (((as.take (k + 1)).filter f).map g))) := by
  refine ⟨wipe1, ht H _ e fun H3 e3 => ?_⟩
  have hk := (List.getElem?_eq_some_iff.mp hx).1
  rw [filt_succ hx]
  by_cases hf : f x = true
  · rw [if_pos hf, if_pos hf]
    refine he H3 _ hf (e.trans e3) fun H4 e4 => ⟨_, e4 _ _ (e3 _ _ hl), ?_, fun b u z => ?_, by rw [upd_same]⟩
    · have h1 := (List.filter_sublist (p := f) (l := as.take k)).length_le
      rw [List.length_map]
      rw [List.length_take] at h1
      omega
    · rw [upd_ne (ne_of_none z hD)]
      exact e4 _ _ (e3 _ _ (e _ _ z))
  · rw [if_neg hf, if_neg hf]
    exact ⟨e.trans e3, e3 _ _ hl⟩
/-- [e for x in xs if t], a list, e the item itself -/
theorem lcLF (hD : H1 D = none) (hxs : SqL K H1 a (as.map g)) (hsz : as.length ≤ sizeLine)
    (ht : ∀ (k : Nat) x H R, as[k]? = some x → Same H1 H → (∀ H', Same H H' → R (f x) H') → tt ((wipe σ [i]).set i (some (g x))) H R)
    (he : ∀ (k : Nat) x H Q, as[k]? = some x → f x = true → Same H1 H → (∀ H', Same H H' → Q (g x) H') → te ((wipe σ [i]).set i (some (g x))) H Q) (hd : ∀ H, Same H1 H → H D = some (.lst ((as.filter f).map g)) → Qd H) :
    ∃ W : Nat → Nat → Hp → Prop, (∃ m, W 0 m (upd H1 D (.lst []))) ∧ ∀ j m H, W j m H →
      ((Itl K a).stop j H ∧ Qd H) ∨ ((Itl K a).go j H ∧ ∃ Nx : Hp → Prop, (∀ H', Nx H' → ∃ m', m' < m ∧ W (j + 1) m' H') ∧ ∀ x H', (Itl K a).yld j H x H' → gName i x (wipe σ [i]) H' fun σ2 H2 => wipe σ2 [i] = wipe σ [i] ∧ tt σ2 H2 fun b H3 =>
        if b = true then te σ2 H3 fun y H4 => ∃ acc, H4 D = some (.lst acc) ∧ acc.length < sizeLine ∧ Nx (upd H4 D (.lst (acc ++ [y]))) else Nx H3) := by
  refine lc_list (xs := as.map g) (fun k H => Same H1 H ∧ H D = some (.lst (((as.take k).filter f).map g))) ⟨same_new hD, by rw [upd_same] <;> rfl⟩ (fun k H _ ⟨e, _⟩ => e.seq hxs) (fun k v H hv ⟨e, hl⟩ => ?_) (fun H ⟨e, hl⟩ => hd H e (by rw [hl, List.length_map, List.take_length]))
  rw [List.getElem?_map] at hv
  cases hx : as[k]? with
  | none =>
    rw [hx] at hv
    cases hv
  | some x =>
    rw [hx] at hv
    have hv : some (g x) = some v := hv
    cases hv
    exact turnF hD hx hsz e hl (fun H R e h => ht k x H R hx e h) fun H Q h1 e h => he k x H Q hx h1 e h
/-- .. a tuple -/
theorem lcTF (hD : H1 D = none) (hxs : SqT K H1 a (as.map g)) (hsz : as.length ≤ sizeLine)
    (ht : ∀ (k : Nat) x H R, as[k]? = some x → Same H1 H → (∀ H', Same H H' → R (f x) H') → tt ((wipe σ [i]).set i (some (g x))) H R)
    (he : ∀ (k : Nat) x H Q, as[k]? = some x → f x = true → Same H1 H → (∀ H', Same H H' → Q (g x) H') → te ((wipe σ [i]).set i (some (g x))) H Q) (hd : ∀ H, Same H1 H → H D = some (.lst ((as.filter f).map g)) → Qd H) :
    ∃ W : Nat → Nat → Hp → Prop, (∃ m, W 0 m (upd H1 D (.lst []))) ∧ ∀ j m H, W j m H →
      ((Itt K a).stop j H ∧ Qd H) ∨ ((Itt K a).go j H ∧ ∃ Nx : Hp → Prop, (∀ H', Nx H' → ∃ m', m' < m ∧ W (j + 1) m' H') ∧ ∀ x H', (Itt K a).yld j H x H' → gName i x (wipe σ [i]) H' fun σ2 H2 => wipe σ2 [i] = wipe σ [i] ∧ tt σ2 H2 fun b H3 =>
        if b = true then te σ2 H3 fun y H4 => ∃ acc, H4 D = some (.lst acc) ∧ acc.length < sizeLine ∧ Nx (upd H4 D (.lst (acc ++ [y]))) else Nx H3) := by
  refine lc_tup (xs := as.map g) (fun k H => Same H1 H ∧ H D = some (.lst (((as.take k).filter f).map g))) ⟨same_new hD, by rw [upd_same] <;> rfl⟩ (fun k H _ ⟨e, _⟩ => tseq e hxs) (fun k v H hv ⟨e, hl⟩ => ?_) (fun H ⟨e, hl⟩ => hd H e (by rw [hl, List.length_map, List.take_length]))
  rw [List.getElem?_map] at hv
  cases hx : as[k]? with
  | none =>
    rw [hx] at hv
    cases hv
  | some x =>
    rw [hx] at hv
    have hv : some (g x) = some v := hv
    cases hv
    exact turnF hD hx hsz e hl (fun H R e h => ht k x H R hx e h) fun H Q h1 e h => he k x H Q hx h1 e h
/-- .. a text, sign by sign -/
theorem lcSF {x : Str} {f : Nat → Bool} (hD : H1 D = none) (hsz : x.cps.size ≤ sizeLine)
    (ht : ∀ (k : Nat) c H R, x.cps[k]? = some c → Same H1 H → (∀ H', Same H H' → R (f c) H') → tt ((wipe σ [i]).set i (some (.str ⟨#[c]⟩))) H R)
    (he : ∀ (k : Nat) c H Q, x.cps[k]? = some c → f c = true → Same H1 H → (∀ H', Same H H' → Q (.str ⟨#[c]⟩) H') → te ((wipe σ [i]).set i (some (.str ⟨#[c]⟩))) H Q) (hd : ∀ H, Same H1 H → H D = some (.lst ((x.cps.toList.filter f).map fun c => V.str ⟨#[c]⟩)) → Qd H) :
    ∃ W : Nat → Nat → Hp → Prop, (∃ m, W 0 m (upd H1 D (.lst []))) ∧ ∀ j m H, W j m H →
      ((Its x).stop j H ∧ Qd H) ∨ ((Its x).go j H ∧ ∃ Nx : Hp → Prop, (∀ H', Nx H' → ∃ m', m' < m ∧ W (j + 1) m' H') ∧ ∀ v H', (Its x).yld j H v H' → gName i v (wipe σ [i]) H' fun σ2 H2 => wipe σ2 [i] = wipe σ [i] ∧ tt σ2 H2 fun b H3 =>
        if b = true then te σ2 H3 fun y H4 => ∃ acc, H4 D = some (.lst acc) ∧ acc.length < sizeLine ∧ Nx (upd H4 D (.lst (acc ++ [y]))) else Nx H3) := by
  have hlen : x.cps.toList.length = x.cps.size := by simp
  refine ⟨fun k m H => m = x.cps.size - k ∧ k ≤ x.cps.size ∧ Same H1 H ∧ H D = some (.lst (((x.cps.toList.take k).filter f).map fun c => V.str ⟨#[c]⟩)), ⟨_, rfl, Nat.zero_le _, same_new hD, by rw [upd_same] <;> rfl⟩, ?_⟩
  rintro k m H ⟨rfl, hk, e, hl⟩
  by_cases hlt : k < x.cps.size
  · refine .inr ⟨hlt, fun H' => Same H1 H' ∧ H' D = some (.lst (((x.cps.toList.take (k + 1)).filter f).map fun c => V.str ⟨#[c]⟩)), fun H' h' => ⟨x.cps.size - (k + 1), by omega, rfl, hlt, h'⟩, fun v H' y => ?_⟩
    obtain ⟨e0, c, hc, ev⟩ := y
    subst e0 ev
    have hc' : x.cps.toList[k]? = some c := by rw [Array.getElem?_toList]; exact hc
    exact turnF (as := x.cps.toList) (g := fun c => V.str ⟨#[c]⟩) hD hc' (by rw [hlen]; exact hsz) e hl (fun H R e h => ht k c H R hc e h) fun H Q h1 e h => he k c H Q hc h1 e h
  · have ek : k = x.cps.size := by omega
    subst ek
    exact .inl ⟨Nat.le_refl _, hd H e (by rw [hl, ← hlen, List.take_length])⟩
end
end HL
end

section
set_option Elab.async false
set_option linter.all false
set_option maxRecDepth 100000
set_option maxHeartbeats 4000000
/-! k92: rows of names, answers. -/
namespace K92
open PySem PySem.Spec PyProof.Rows L2 He HL
theorem isEmpty_filt {α : Type} (p : α → Bool) : ∀ l : List α, (l.filter fun x => !p x).isEmpty = l.all p
  | [] => rfl
  | x :: l => by
    cases h : p x with
    | true =>
      rw [List.filter_cons_of_neg (by simp [h]), isEmpty_filt p l, List.all_cons, h]
      rfl
    | false =>
      rw [List.filter_cons_of_pos (by simp [h]), List.all_cons, h]
      rfl
section
variable {w : World} {K : PySem.W.Frag} {mg : Str → Option Value} {base : Heap}
abbrev sV (ns : List (List Nat)) : List V := ns.map fun n => V.str (S n)
def sD (ns : List (List Nat)) : List PyData := ns.map fun n => PyData.str (S n)
theorem sV_str (ns : List (List Nat)) : sV ns = (ns.map S).map V.str := by rw [List.map_map]; rfl
theorem map_S_inj : ∀ {a b : List (List Nat)}, a.map S = b.map S → a = b
  | [], [], _ => rfl
  | x :: a, y :: b, h => by
    injection h with h1 h2
    rw [S_inj h1, map_S_inj h2]
theorem strL_dp {H : Hp} : ∀ ys : List Str, DpAll K H (ys.map V.str) (ys.map PyData.str)
  | [] => .nil
  | y :: ys => .cons (.str _) (strL_dp ys)
theorem strL_eqv : ∀ xs ys : List Str, PyData.eqvAll (xs.map PyData.str) (ys.map PyData.str) = decide (xs = ys)
  | [], [] => rfl
  | [], y :: ys => by simp [PyData.eqvAll]
  | x :: xs, [] => by simp [PyData.eqvAll]
  | x :: xs, y :: ys => by
    have ih := strL_eqv xs ys
    simp only [List.map_cons, PyData.eqvAll, ih, PyData.eqv]
    by_cases h : x = y
    · subst h
      simp
    · simp [h]
theorem strL_lay : ∀ ys : List Str, (∀ y ∈ ys, PyData.strOk y = true) → PyData.canLayAll0 (ys.map PyData.str) = true
  | [], _ => by simp [PyData.canLayAll0]
  | y :: ys, h => by
    simp only [List.map_cons, PyData.canLayAll0, PyData.canLay0, h y List.mem_cons_self, strL_lay ys fun z hz => h z (List.mem_cons_of_mem _ hz), Bool.and_true]
theorem strL_depth : ∀ ys : List Str, PyData.depthAll (ys.map PyData.str) = 0
  | [] => by simp [PyData.depthAll]
  | y :: ys => by simp [PyData.depthAll, PyData.depth, strL_depth ys]
theorem eqv_names {K : PySem.W.Frag} {H : Hp} {l p : Addr} {ns : List (List Nat)} {ys : List Str} {units : Nat} {Q : VK} (h1 : H l = some (.lst (sV ns))) (h2 : H p = some (.lst (ys.map V.str))) (hok : ∀ n ∈ ns, PyData.strOk (S n) = true) (hy : ∀ k, k ∈ ys ↔ k ∈ ns.map S) (nd : ys.Nodup) (so : sortedS ys = true) (hu : units + 10 < cLine)
    (h : Q (.bl (decide (N.Ord (ns.map S)))) H) : XP.rEqE K units (.ref l) (.ref p) H Q := by
  have ok1 : ∀ y ∈ ns.map S, PyData.strOk y = true := fun y hy => by
    obtain ⟨n, hn, rfl⟩ := List.mem_map.mp hy
    exact hok n hn
  refine ⟨.list ((ns.map S).map PyData.str), .list (ys.map PyData.str), .lst (sql (by rw [h1, sV_str])) (strL_dp _), .lst (sql h2) (strL_dp _), ?_, ?_, ?_, ?_⟩
  · simp only [PyData.canLay0]
    exact strL_lay _ ok1
  · simp only [PyData.canLay0]
    exact strL_lay _ fun y z => ok1 y ((hy y).mp z)
  · simp only [PyData.depth, strL_depth]
    omega
  · have e : PyData.eqv (.list ((ns.map S).map PyData.str)) (.list (ys.map PyData.str)) = decide (N.Ord (ns.map S)) := by
      simp only [PyData.eqv, strL_eqv]
      exact decide_eq_decide.mpr (N.ord_iff nd hy so)
    rw [e]
    exact h
theorem ok_nm {n : List Nat} (h : M.nmB n = true) : PyData.strOk (S n) = true := nm_ok (M.nmB_iff.mp h)
abbrev n_are_names : List Str := ["thing", "name"]
theorem sc_are_names : FnScope n_are_names ["thing"] (defScope s_are_names) := ⟨rfl, rfl, rfl, by decide +kernel, rfl, by decide +kernel, by decide +kernel⟩
theorem bi_are_names : ∀ (kV doc pm : Value) (an : Option Addr) (cdv ct : Value) (us : List Value), us.length = 1 → bindArgs (PySem.W.fnOf d_are_names.name d_are_names.qual d_are_names.params d_are_names.body d_are_names.scope .none kV doc pm an cdv ct) ⟨us, []⟩ = pure ([("thing" : Str)].zip us) := fun kV doc pm an cdv ct us hu => by
  match us, hu with
  | [u0], _ => rfl
def spAre : Sp := fun vs H Q _ => ∃ t ns, vs = [.ref t] ∧ H t = some (.tup (sV ns)) ∧ ns.length ≤ 10000 ∧ (∀ n ∈ ns, n.length ≤ 10000) ∧ (ns.all M.nmB = true → ns.length < 64) ∧ ∀ H', Same H H' → Q (.bl (decide (M.ANs ns))) H'
theorem o_are_names (W : Wl K mg) : OkD w K mg base CX0 2 d_are_names ["thing"] spAre := by
  have O_is_name := o_is_name (w := w) (base := base) W
  refine HL.ok_of0 W.D_are_names sc_are_names (fun vs H Q E ⟨_, _, h, _⟩ => by rw [h]; rfl) bi_are_names fun cdv A outer s H vs Q E hr h => ?_
  have nd := sc_are_names.nd
  refine ⟨_, (pss_cons (ps_if (PW.pt (pw_or (pt_not (pt_val (pe_callB call_isi (by rfl) W.f_isinstance (by decide +kernel) (pa_cons (pv 0) (pa_cons (pe_bltn (v := .ty "tuple") (by rfl) W.f_tuple (by decide +kernel) rfl) pa_nil))))) (pw_or1 (pt_not (pt_val (pe_callB (cr_all rfl) (by rfl) W.f_all (by decide +kernel) (pa_cons (pe_lc (own := [("name", 1)]) (g := gName 1) (tt := tYes) (by rfl) nd (pi_tup (pv 0)) (blkOk_by (own := [("name", 1)]) (N := n_are_names) (sc := defScope s_are_names) (by decide +kernel)) (fun _ _ _ _ _ => pg_name (i := 1) nd rfl (Or.inl rfl)) (fun _ _ _ _ _ => pts_nil) (fun _ _ _ _ _ => (pe_cal O_is_name (hr.mono (by omega)) W.g_is_name pass0 (pa_cons (pv 1) pa_nil)))) pa_nil))))))) (pss_one (ps_ret pe_bl)) pss_nil)
    (pss_one (ps_ret (pe_cmpR XP.op_eqE (pe_callTy call_list_of (by rfl) W.f_list (by decide +kernel) (pa_cons (pv 0) pa_nil)) (XS.pe_sortSet rfl (by rfl) W.f_sorted (by rfl) W.f_set (pv 0)) (nomark _))))), ?_⟩
  obtain ⟨t, ns, rfl, ht, hl, hn, h64, hq⟩ := h
  refine ⟨_, rfl, _, _, _, _, true, rfl, .ty _, ty_tup ht, kit_ty (by decide +kernel), _, rfl, iteF ?_⟩
  refine ⟨_, rfl, _, rfl, ⟨_, sqt ht⟩, fun D hD => HL.lcT (out := ns.map fun n => V.bl (M.nmB n)) hD (sqt ht) (by simp) (by simp; exact small (by omega)) (fun k x y H1 Q1 hx ho e hl hq => ?_) fun H1 e1 hl1 => ?_⟩
  · rw [List.getElem?_map] at hx ho
    cases hk : ns[k]? with
    | none =>
      rw [hk] at hx
      cases hx
    | some n =>
      rw [hk] at hx ho
      have hx : some (V.str (S n)) = some x := hx
      have ho : some (V.bl (M.nmB n)) = some y := ho
      cases hx
      cases ho
      have hm := List.mem_of_getElem? hk
      exact ⟨_, rfl, n, rfl, by have := hn n hm; omega, fun H' e' => hq H' e'⟩
  · refine ⟨_, ns.map M.nmB, rfl, .inl (.inl (by rw [hl1, List.map_map] <;> rfl)), ?_⟩
    rw [all_id]
    refine ⟨_, rfl, ?_⟩
    by_cases ha : ns.all M.nmB = true
    · rw [ha]
      refine iteF ?_
      refine ⟨_, rfl, t, sV ns, rfl, .inr (sqt (e1 _ _ ht)), fun l hl2 => ?_⟩
      have s2 := e1.trans (same_new (o := .lst (sV ns)) hl2)
      have hl3 : upd H1 l (.lst (sV ns)) l = some (.lst (sV ns)) := upd_same
      refine ⟨_, rfl, t, ns.map S, rfl, by rw [← sV_str]; exact sqt (s2 _ _ ht), by simpa using h64 ha, fun ys p nd hy so hp => ?_⟩
      have s3 := s2.trans (same_new (o := .lst (ys.map V.str)) hp)
      refine eqv_names (same_new hp _ _ hl3) upd_same (fun n hn => ok_nm (List.all_eq_true.mp ha n hn)) hy nd so ?_ ?_
      · exact Nat.lt_of_le_of_lt (Nat.add_le_add_left (by decide) _) hr.units
      · have e : decide (M.ANs ns) = decide (N.Ord (ns.map S)) := decide_eq_decide.mpr ⟨fun z => z.2, fun z => ⟨ha, z⟩⟩
        rw [← e]
        exact hq _ s3
    · have hf : ns.all M.nmB = false := by simpa using ha
      rw [hf]
      refine iteT ?_
      have e : decide (M.ANs ns) = false := decide_eq_false fun z => ha z.1
      rw [e] at hq
      exact hq _ e1
abbrev n_law_is_name : List Str := ["_law_thing", "_law_letters", "_law_sign"]
theorem sc_law_is_name : FnScope n_law_is_name ["_law_thing"] (defScope s_law_is_name) := ⟨rfl, rfl, rfl, by decide +kernel, rfl, by decide +kernel, by decide +kernel⟩
theorem bi_law_is_name : ∀ (kV doc pm : Value) (an : Option Addr) (cdv ct : Value) (us : List Value), us.length = 1 → bindArgs (PySem.W.fnOf d_law_is_name.name d_law_is_name.qual d_law_is_name.params d_law_is_name.body d_law_is_name.scope .none kV doc pm an cdv ct) ⟨us, []⟩ = pure ([("_law_thing" : Str)].zip us) := fun kV doc pm an cdv ct us hu => by
  match us, hu with
  | [u0], _ => rfl
def spLIs : Sp := fun vs H Q _ => ∃ n, vs = [.str (S n)] ∧ n.length ≤ 10000 ∧ ∀ H', Same H H' → Q (.bl (M.nmB n)) H'
theorem o_lis_name (W : Wl K mg) : OkD w K mg base CX0 1 d_law_is_name ["_law_thing"] spLIs := by
  refine HL.ok_of0 W.D_law_is_name sc_law_is_name (fun vs H Q E ⟨_, h, _⟩ => by rw [h]; rfl) bi_law_is_name fun cdv A outer s H vs Q E hr h => ?_
  have nd := sc_law_is_name.nd
  refine ⟨_, (pss_cons (ps_set (i := 1) nd rfl (Or.inr rfl) pe_str)
    (pss_one (ps_ret (pe_and (pe_callB call_isi (by rfl) W.f_isinstance (by decide +kernel) (pa_cons (pv 0) (pa_cons (pe_bltn (v := .ty "str") (by rfl) W.f_str (by decide +kernel) rfl) pa_nil))) (pe_and (pe_chain op_lt op_lt pe_int (pe_callB call_len_str (by rfl) W.f_len (by decide +kernel) (pa_cons (pv 0) pa_nil)) pe_int) (pe_one (pe_cmpR XP.op_eqNil (pe_lc (own := [("_law_sign", 2)]) (g := gName 2) (by rfl) nd (pi_str (pv 0)) (blkOk_by (own := [("_law_sign", 2)]) (N := n_law_is_name) (sc := defScope s_law_is_name) (by decide +kernel)) (fun _ _ _ _ _ => pg_name (i := 2) nd rfl (Or.inl rfl)) (fun _ _ _ _ _ => pts_one (pt_cmpR op_notIn_sign (pv 2) (pv 1) (by rfl))) (fun _ _ _ _ _ => (pv 2))) (pe_lst pa_nil) (nomark _)))))))), ?_⟩
  obtain ⟨n, rfl, hn, hq⟩ := h
  have nl : (S n).length ≤ sizeLine := by rw [S_len]; exact small (by omega)
  have b1 : decide ((0 : Int) < ((S n).length : Nat)) = decide (0 < n.length) := by
    rw [S_len]
    exact decide_eq_decide.mpr (by omega)
  have b2 : decide ((((S n).length : Nat) : Int) < 9) = decide (n.length ≤ 8) := by
    rw [S_len]
    exact decide_eq_decide.mpr (by omega)
  dsimp only [gName]
  refine ⟨_, rfl, _, _, _, _, true, rfl, .ty _, .base (.str _), kit_ty (by decide +kernel), _, rfl, iteT ?_⟩
  have e : M.nmB n = (decide (0 < n.length) && (decide (n.length ≤ 8) && n.all M.isLet)) := by
    unfold M.nmB
    rw [← Bool.and_assoc]
    congr 1
    rw [← Bool.decide_and]
  rw [e] at hq
  refine ⟨_, rfl, _, rfl, nl, _, _, rfl, rfl, _, rfl, ?_⟩
  rw [b1]
  cases h1 : decide (0 < n.length) with
  | false =>
    rw [h1] at hq
    exact iteF ⟨_, rfl, iteF (hq _ (Same.refl _))⟩
  | true =>
    rw [h1] at hq
    refine iteT ⟨_, _, rfl, rfl, _, rfl, ?_⟩
    rw [b2]
    cases h2 : decide (n.length ≤ 8) with
    | false =>
      rw [h2] at hq
      exact iteF (hq _ (Same.refl _))
    | true =>
      rw [h2] at hq
      refine iteT ⟨_, rfl, _, rfl, fun D hD => HL.lcSF (f := fun c => !M.isLet c) hD (by simpa [S] using small (by omega)) (fun k c H1 R hc e h => ?_) (fun k c H1 Q1 hc h1 e h => ?_) fun H1 e1 hl1 => ?_⟩
      · refine ⟨_, rfl, _, rfl, _, _, rfl, rfl, _, rfl, ?_⟩
        rw [isLet_in]
        exact h _ (Same.refl _)
      · exact ⟨_, rfl, h _ (Same.refl _)⟩
      · refine ⟨by decide, fun l hl => ⟨hr.units0, D, l, _, rfl, rfl, .inl ⟨sql (same_new hl _ _ hl1), sql upd_same⟩, ?_⟩⟩
        have z : (((S n).cps.toList.filter fun c => !M.isLet c).map fun c => V.str ⟨#[c]⟩).isEmpty = n.all M.isLet := by
          rw [List.isEmpty_map]
          have : (S n).cps.toList = n := rfl
          rw [this, isEmpty_filt]
        rw [z]
        exact hq _ (e1.trans (same_new hl))
abbrev n_law_are_names : List Str := ["_law_thing", "_law_part"]
theorem sc_law_are_names : FnScope n_law_are_names ["_law_thing"] (defScope s_law_are_names) := ⟨rfl, rfl, rfl, by decide +kernel, rfl, by decide +kernel, by decide +kernel⟩
theorem bi_law_are_names : ∀ (kV doc pm : Value) (an : Option Addr) (cdv ct : Value) (us : List Value), us.length = 1 → bindArgs (PySem.W.fnOf d_law_are_names.name d_law_are_names.qual d_law_are_names.params d_law_are_names.body d_law_are_names.scope .none kV doc pm an cdv ct) ⟨us, []⟩ = pure ([("_law_thing" : Str)].zip us) := fun kV doc pm an cdv ct us hu => by
  match us, hu with
  | [u0], _ => rfl
theorem o_lare_names (W : Wl K mg) : OkD w K mg base CX0 2 d_law_are_names ["_law_thing"] spAre := by
  have O__law_is_name := o_lis_name (w := w) (base := base) W
  refine HL.ok_of0 W.D_law_are_names sc_law_are_names (fun vs H Q E ⟨_, _, h, _⟩ => by rw [h]; rfl) bi_law_are_names fun cdv A outer s H vs Q E hr h => ?_
  have nd := sc_law_are_names.nd
  refine ⟨_, (pss_cons (ps_if (PW.pt (pw_or (pt_not (pt_val (pe_callB call_isi (by rfl) W.f_isinstance (by decide +kernel) (pa_cons (pv 0) (pa_cons (pe_bltn (v := .ty "tuple") (by rfl) W.f_tuple (by decide +kernel) rfl) pa_nil))))) (pw_or1 (pt_cmpR XP.op_neNil (pe_lc (own := [("_law_part", 1)]) (g := gName 1) (by rfl) nd (pi_tup (pv 0)) (blkOk_by (own := [("_law_part", 1)]) (N := n_law_are_names) (sc := defScope s_law_are_names) (by decide +kernel)) (fun _ _ _ _ _ => pg_name (i := 1) nd rfl (Or.inl rfl)) (fun _ _ _ _ _ => pts_one (pt_not (pt_val (pe_cal O__law_is_name (hr.mono (by omega)) W.g__law_is_name pass0 (pa_cons (pv 1) pa_nil))))) (fun _ _ _ _ _ => (pv 1))) (pe_lst pa_nil) (nomark _))))) (pss_one (ps_ret pe_bl)) pss_nil)
    (pss_one (ps_ret (pe_cmpR XP.op_eqE (pe_callTy call_list_of (by rfl) W.f_list (by decide +kernel) (pa_cons (pv 0) pa_nil)) (XS.pe_sortSet rfl (by rfl) W.f_sorted (by rfl) W.f_set (pv 0)) (nomark _))))), ?_⟩
  obtain ⟨t, ns, rfl, ht, hl, hn, h64, hq⟩ := h
  refine ⟨_, rfl, _, _, _, _, true, rfl, .ty _, ty_tup ht, kit_ty (by decide +kernel), _, rfl, iteF ?_⟩
  refine ⟨_, rfl, _, rfl, ⟨_, sqt ht⟩, fun D hD => HL.lcTF (as := ns) (g := fun n => V.str (S n)) (f := fun n => !M.nmB n) hD (sqt ht) (small (by omega)) (fun k n H1 R hk e h => ?_) (fun k n H1 Q1 hk h1 e h => ?_) fun H1 e1 hl1 => ?_⟩
  · exact ⟨_, rfl, n, rfl, hn n (List.mem_of_getElem? hk), fun H' e' => ⟨_, rfl, h H' e'⟩⟩
  · exact ⟨_, rfl, h _ (Same.refl _)⟩
  · refine ⟨by decide, fun l hl2 => ⟨hr.units0, D, l, _, rfl, rfl, .inl ⟨sql (same_new hl2 _ _ hl1), sql upd_same⟩, ?_⟩⟩
    have z : ((ns.filter fun n => !M.nmB n).map fun n => V.str (S n)).isEmpty = ns.all M.nmB := by
      rw [List.isEmpty_map, isEmpty_filt]
    rw [z]
    have e2 := e1.trans (same_new (o := .lst []) hl2)
    generalize upd H1 l (.lst []) = H2 at e2 ⊢
    refine ⟨_, rfl, ?_⟩
    by_cases ha : ns.all M.nmB = true
    · rw [ha]
      refine iteF ?_
      refine ⟨_, rfl, t, sV ns, rfl, .inr (sqt (e2 _ _ ht)), fun l hl2 => ?_⟩
      have s2 := e2.trans (same_new (o := .lst (sV ns)) hl2)
      have hl3 : upd H2 l (.lst (sV ns)) l = some (.lst (sV ns)) := upd_same
      refine ⟨_, rfl, t, ns.map S, rfl, by rw [← sV_str]; exact sqt (s2 _ _ ht), by simpa using h64 ha, fun ys p nd hy so hp => ?_⟩
      have s3 := s2.trans (same_new (o := .lst (ys.map V.str)) hp)
      refine eqv_names (same_new hp _ _ hl3) upd_same (fun n hn => ok_nm (List.all_eq_true.mp ha n hn)) hy nd so ?_ ?_
      · exact Nat.lt_of_le_of_lt (Nat.add_le_add_left (by decide) _) hr.units
      · have e : decide (M.ANs ns) = decide (N.Ord (ns.map S)) := decide_eq_decide.mpr ⟨fun z => z.2, fun z => ⟨ha, z⟩⟩
        rw [← e]
        exact hq _ s3
    · have hf : ns.all M.nmB = false := by simpa using ha
      rw [hf]
      refine iteT ?_
      have e : decide (M.ANs ns) = false := decide_eq_false fun z => ha z.1
      rw [e] at hq
      exact hq _ e2
end
end K92
end

section
set_option Elab.async false
set_option linter.all false
set_option maxRecDepth 100000
set_option maxHeartbeats 4000000
/-! k92: answers, shown and read. -/
namespace K92
open PySem PySem.Spec PyProof.Rows L2 He HL
theorem split_one {c : Nat} {s : String} (h : M.q s = [c]) (hc : c < 256) (l : List Nat) : Txt.split (S l) (Str.ofString s) = (M.sp c l).map S := by
  have e : Str.ofString s = S [c] := by
    rw [ofq]
    exact congrArg S h
  rw [e]
  have z := SX.split_S (a := l) (b := [c]) (by simp) (by simpa using hc)
  exact z.trans (by rw [M.spl_eq])
theorem len_one {c : Nat} {s : String} (h : M.q s = [c]) : ((Str.ofString s).length == 0) = false := by
  have e : Str.ofString s = S [c] := by
    rw [ofq]
    exact congrArg S h
  rw [e, S_len]
  rfl
theorem sp_each {c : Nat} {l p : List Nat} (h : p ∈ M.sp c l) : p.length ≤ l.length := by
  have z := len_j (b := [c]) h
  rw [M.join_sp] at z
  exact z
theorem sp_count {c d : Nat} {l p : List Nat} (h : p ∈ M.sp c l) : p.count d ≤ l.count d := by
  have key : ∀ (ys : List (List Nat)), p ∈ ys → p.count d ≤ (TL.joinL [c] ys).count d := by
    intro ys
    induction ys with
    | nil => intro h; cases h
    | cons x ys ih =>
      intro h
      cases ys with
      | nil =>
        rcases List.mem_cons.mp h with rfl | h
        · exact Nat.le_refl _
        · cases h
      | cons y r =>
        rw [M.join_two, List.count_append, List.count_append]
        rcases List.mem_cons.mp h with rfl | h
        · omega
        · have := ih h
          omega
  have z := key _ h
  rw [M.join_sp] at z
  exact z
section
variable {w : World} {K : PySem.W.Frag} {mg : Str → Option Value} {base : Heap}
theorem join_ok {c : Nat} {s : String} (h : M.q s = [c]) {ys : List (List Nat)} (hl : (TL.joinL [c] ys).length ≤ 1000000) : ((ys.map S).map (·.length)).sum + (ys.map S).length * (Str.ofString s).length ≤ 16777216 := by
  have e : Str.ofString s = S [c] := by
    rw [ofq]
    exact congrArg S h
  have z := joinL_len [c] ys
  rw [SX.lens, e, S_len, List.length_map]
  simp only [List.length_singleton] at z ⊢
  omega
theorem join_one {c : Nat} {s : String} (h : M.q s = [c]) (ys : List (List Nat)) : Txt.join (Str.ofString s) (ys.map S) = S (TL.joinL [c] ys) := by
  have e : Str.ofString s = S [c] := by
    rw [ofq]
    exact congrArg S h
  rw [e]
  exact SX.join_S _ _
/-- what is told: ('told', v), or ('none', None) -/
def Due {α : Type} (At : Hp → α → V → Prop) (H : Hp) (u : Addr) : Option α → Prop
  | none => H u = some (.tup [.str (S (M.q "none")), .non])
  | some c => ∃ v, H u = some (.tup [.str (S (M.q "told")), v]) ∧ At H c v
def AAt (H : Hp) (ns : List (List Nat)) (v : V) : Prop := ∃ t, v = .ref t ∧ H t = some (.tup (sV ns))
theorem AAt.keep {H H' : Hp} {ns : List (List Nat)} {v : V} (h : AAt H ns v) (e : TupK H H') : AAt H' ns v := let ⟨t, r, h⟩ := h; ⟨t, r, e _ _ h⟩
theorem due_none {α : Type} {At : Hp → α → V → Prop} {H : Hp} {p : Addr} : Due At (upd H p (.tup [.str (Str.ofString "none"), .non])) p none := by
  unfold Due
  rw [upd_same, sq "none"]
theorem due_some {α : Type} {At : Hp → α → V → Prop} {H : Hp} {p : Addr} {v : V} {c : α} (h : At (upd H p (.tup [.str (Str.ofString "told"), v])) c v) : Due At (upd H p (.tup [.str (Str.ofString "told"), v])) p (some c) := by
  unfold Due
  exact ⟨v, by rw [upd_same, sq "told"], h⟩
abbrev n_show_answers : List Str := ["answers"]
theorem sc_show_answers : FnScope n_show_answers ["answers"] (defScope s_show_answers) := ⟨rfl, rfl, rfl, by decide +kernel, rfl, by decide +kernel, by decide +kernel⟩
theorem bi_show_answers : ∀ (kV doc pm : Value) (an : Option Addr) (cdv ct : Value) (us : List Value), us.length = 1 → bindArgs (PySem.W.fnOf d_show_answers.name d_show_answers.qual d_show_answers.params d_show_answers.body d_show_answers.scope .none kV doc pm an cdv ct) ⟨us, []⟩ = pure ([("answers" : Str)].zip us) := fun kV doc pm an cdv ct us hu => by
  match us, hu with
  | [u0], _ => rfl
def spShA : Sp := fun vs H Q _ => ∃ t ns, vs = [.ref t] ∧ H t = some (.tup (sV ns)) ∧ (M.shA ns).length ≤ 100000 ∧ ∀ H', Same H H' → Q (.str (S (M.shA ns))) H'
theorem o_show_answers (W : Wl K mg) : OkD w K mg base CX0 1 d_show_answers ["answers"] spShA := by
  refine HL.ok_of0 W.D_show_answers sc_show_answers (fun vs H Q E ⟨_, _, h, _⟩ => by rw [h]; rfl) bi_show_answers fun cdv A outer s H vs Q E hr h => ?_
  have nd := sc_show_answers.nd
  refine ⟨_, (pss_one (ps_ret (pe_ifExp (pt_cmpR XP.op_neNil (pv 0) (pe_tup pa_nil) (nomark _)) (pe_join pe_str (pv 0)) pe_str))), ?_⟩
  obtain ⟨t, ns, rfl, ht, hl, hq⟩ := h
  refine ⟨_, rfl, by decide, fun p hp => ⟨hr.units0, t, p, _, rfl, rfl, .inr ⟨sqt (same_new hp _ _ ht), sqt upd_same⟩, _, rfl, ?_⟩⟩
  have s1 := same_new (o := .tup []) hp
  have ht1 := s1 _ _ ht
  cases ns with
  | nil =>
    refine iteF ?_
    have z := hq _ s1
    rw [show M.shA [] = M.q "-" from rfl, ← sq "-"] at z
    exact z
  | cons n ns =>
    refine iteT ⟨⟨_, rfl⟩, _, rfl, _, t, (n :: ns).map S, rfl, rfl, .inr (by rw [← sV_str]; exact sqt ht1), ?_, ?_⟩
    · exact join_ok (c := 43) (by decide) (by have : M.shA (n :: ns) = TL.joinL [43] (n :: ns) := rfl; rw [← this]; omega)
    · rw [join_one (c := 43) (by decide)]
      exact hq _ s1
abbrev n_law_answers_text : List Str := ["_law_answers"]
theorem sc_law_answers_text : FnScope n_law_answers_text ["_law_answers"] (defScope s_law_answers_text) := ⟨rfl, rfl, rfl, by decide +kernel, rfl, by decide +kernel, by decide +kernel⟩
theorem bi_law_answers_text : ∀ (kV doc pm : Value) (an : Option Addr) (cdv ct : Value) (us : List Value), us.length = 1 → bindArgs (PySem.W.fnOf d_law_answers_text.name d_law_answers_text.qual d_law_answers_text.params d_law_answers_text.body d_law_answers_text.scope .none kV doc pm an cdv ct) ⟨us, []⟩ = pure ([("_law_answers" : Str)].zip us) := fun kV doc pm an cdv ct us hu => by
  match us, hu with
  | [u0], _ => rfl
theorem o_latext (W : Wl K mg) : OkD w K mg base CX0 1 d_law_answers_text ["_law_answers"] spShA := by
  refine HL.ok_of0 W.D_law_answers_text sc_law_answers_text (fun vs H Q E ⟨_, _, h, _⟩ => by rw [h]; rfl) bi_law_answers_text fun cdv A outer s H vs Q E hr h => ?_
  have nd := sc_law_answers_text.nd
  refine ⟨_, (pss_one (ps_ret (pe_ifExp (pt_cmpR XP.op_neNil (pv 0) (pe_tup pa_nil) (nomark _)) (pe_join pe_str (pv 0)) pe_str))), ?_⟩
  obtain ⟨t, ns, rfl, ht, hl, hq⟩ := h
  refine ⟨_, rfl, by decide, fun p hp => ⟨hr.units0, t, p, _, rfl, rfl, .inr ⟨sqt (same_new hp _ _ ht), sqt upd_same⟩, _, rfl, ?_⟩⟩
  have s1 := same_new (o := .tup []) hp
  have ht1 := s1 _ _ ht
  cases ns with
  | nil =>
    refine iteF ?_
    have z := hq _ s1
    rw [show M.shA [] = M.q "-" from rfl, ← sq "-"] at z
    exact z
  | cons n ns =>
    refine iteT ⟨⟨_, rfl⟩, _, rfl, _, t, (n :: ns).map S, rfl, rfl, .inr (by rw [← sV_str]; exact sqt ht1), ?_, ?_⟩
    · exact join_ok (c := 43) (by decide) (by have : M.shA (n :: ns) = TL.joinL [43] (n :: ns) := rfl; rw [← this]; omega)
    · rw [join_one (c := 43) (by decide)]
      exact hq _ s1
abbrev n_read_answers : List Str := ["text", "found"]
theorem sc_read_answers : FnScope n_read_answers ["text"] (defScope s_read_answers) := ⟨rfl, rfl, rfl, by decide +kernel, rfl, by decide +kernel, by decide +kernel⟩
theorem bi_read_answers : ∀ (kV doc pm : Value) (an : Option Addr) (cdv ct : Value) (us : List Value), us.length = 1 → bindArgs (PySem.W.fnOf d_read_answers.name d_read_answers.qual d_read_answers.params d_read_answers.body d_read_answers.scope .none kV doc pm an cdv ct) ⟨us, []⟩ = pure ([("text" : Str)].zip us) := fun kV doc pm an cdv ct us hu => by
  match us, hu with
  | [u0], _ => rfl
abbrev nsOf (s : List Nat) : List (List Nat) := if s = M.q "-" then [] else M.sp 43 s
theorem nsOf_ok {s : List Nat} (h1 : s.length ≤ 10000) (h2 : s.count 43 < 63) : (nsOf s).length ≤ 10000 ∧ (∀ n ∈ nsOf s, n.length ≤ 10000) ∧ ((nsOf s).all M.nmB = true → (nsOf s).length < 64) := by
  unfold nsOf
  by_cases h : s = M.q "-"
  · rw [if_pos h]
    exact ⟨by simp, fun _ z => (nomatch z), fun _ => by simp⟩
  · rw [if_neg h]
    have hl := M.sp_len 43 s
    exact ⟨by omega, fun n hn => by have := sp_each hn; omega, fun _ => by omega⟩
def spRdA (K : PySem.W.Frag) : Sp := fun vs H Q E => ∃ v, vs = [v] ∧ ((∃ s, v = .str (S s) ∧ s.length ≤ 10000 ∧ s.count 43 < 63 ∧ (M.rdA s = none → ∀ H', Same H H' → E (.ref (CN K)) none H') ∧
  (∀ ns, M.rdA s = some ns → ∀ u H', Same H H' → AAt H' ns u → Q u H')) ∨ (NoStr K H v ∧ E (.ref (CN K)) none H))
theorem o_read_answers (W : Wl K mg) : OkD w K mg base (CXN w) 3 d_read_answers ["text"] (spRdA K) := by
  refine HL.ok_of W.D_read_answers sc_read_answers (fun vs H Q E ⟨_, h, _⟩ => by rw [h]; rfl) bi_read_answers fun cdv A outer s H vs Q E hr h => ?_
  have tk := takes_of (X := cxOf (CXN w) P0 w K mg base n_read_answers d_read_answers.qual d_read_answers.scope (fAd K d_read_answers.at_) cdv A outer s H E) rfl rfl rfl rfl
  have nd := sc_read_answers.nd
  have O_need := o_need (w := w) (base := base) W
  have O_need_text := o_need_text (w := w) (base := base) W
  have O_are_names := o_are_names (w := w) (base := base) W
  refine ⟨_, (pss_cons (ps_expr (pe_cal O_need_text (hr.mono (by omega)) W.g_need_text (passes_call tk (fun _ _ _ _ h => h)) (pa_cons (pv 0) pa_nil)))
    (pss_cons (ps_set (i := 1) nd rfl (Or.inl rfl) (pe_ifExp (pt_cmpR op_eq (pv 0) pe_str (nomark _)) (pe_tup pa_nil) (pe_callTy call_tuple_of (by rfl) W.f_tuple (by decide +kernel) (pa_cons (pe_split (pv 0) pe_str) pa_nil))))
    (pss_cons (ps_expr (pe_cal O_need (hr.mono (by omega)) W.g_need (passes_call tk (fun _ _ _ _ h => h)) (pa_cons (pe_cal O_are_names (hr.mono (by omega)) W.g_are_names pass0 (pa_cons (pv 1) pa_nil)) pa_nil)))
    (pss_one (ps_ret (pv 1)))))), ?_⟩
  obtain ⟨v, rfl, ⟨s, rfl, hs, hc, hF, hQ⟩ | ⟨hno, hE⟩⟩ := h
  · refine ⟨_, rfl, _, rfl, .inl ⟨_, rfl, ?_⟩⟩
    dsimp only
    refine sasg_cont (R := fun v1 H2 => ∃ t, v1 = .ref t ∧ Same H H2 ∧ H2 t = some (.tup (sV (nsOf s)))) ?_ ?_
    · intro Q' hQ'
      refine ⟨_, rfl, rfl, ?_⟩
      rw [sq "-", dec_S]
      refine ⟨_, rfl, ?_⟩
      by_cases hd : s = M.q "-"
      · rw [decide_eq_true hd]
        refine iteT ⟨by decide, fun t ht => hQ' _ _ ⟨t, rfl, same_new ht, by rw [upd_same, show nsOf s = [] from if_pos hd] <;> rfl⟩⟩
      · rw [decide_eq_false hd]
        refine iteF ⟨_, rfl, ⟨_, rfl⟩, _, _, rfl, rfl, len_one (c := 43) (by decide), ?_, fun l hl => ?_⟩
        · rw [S_len]
          exact small (by omega)
        · rw [split_one (c := 43) (by decide) (by decide)]
          have e : ((M.sp 43 s).map S).map V.str = sV (nsOf s) := by rw [← sV_str, show nsOf s = M.sp 43 s from if_neg hd]
          rw [e]
          exact ⟨l, _, rfl, .inl ⟨sql upd_same, fun t ht => hQ' _ _ ⟨t, rfl, HL.Same.new (same_new hl) ht, upd_same⟩⟩⟩
    · rintro v1 H2 ⟨t, rfl, s2, ht⟩
      obtain ⟨n1, n2, n3⟩ := nsOf_ok hs hc
      have hr2 : M.rdA s = if M.ANs (nsOf s) then some (nsOf s) else none := rfl
      refine ⟨_, rfl, t, nsOf s, rfl, ht, n1, n2, n3, fun H3 e3 => ⟨_, rfl, fun hk => ?_, fun hk => ?_⟩⟩
      · exact ⟨_, rfl, hQ (nsOf s) (by rw [hr2, if_pos (of_decide_eq_true hk)]) _ _ (s2.trans e3) ⟨t, rfl, e3 _ _ ht⟩⟩
      · exact hF (by rw [hr2, if_neg (of_decide_eq_false hk)]) _ (s2.trans e3)
  · exact ⟨_, rfl, _, rfl, .inr ⟨hno, hE⟩⟩
abbrev n_law_answers_read : List Str := ["_law_text_here", "_law_names_here"]
theorem sc_law_answers_read : FnScope n_law_answers_read ["_law_text_here"] (defScope s_law_answers_read) := ⟨rfl, rfl, rfl, by decide +kernel, rfl, by decide +kernel, by decide +kernel⟩
theorem bi_law_answers_read : ∀ (kV doc pm : Value) (an : Option Addr) (cdv ct : Value) (us : List Value), us.length = 1 → bindArgs (PySem.W.fnOf d_law_answers_read.name d_law_answers_read.qual d_law_answers_read.params d_law_answers_read.body d_law_answers_read.scope .none kV doc pm an cdv ct) ⟨us, []⟩ = pure ([("_law_text_here" : Str)].zip us) := fun kV doc pm an cdv ct us hu => by
  match us, hu with
  | [u0], _ => rfl
def spLRdA : Sp := fun vs H Q _ => ∃ s, vs = [.str (S s)] ∧ s.length ≤ 10000 ∧ s.count 43 < 63 ∧ ∀ u H', Same H H' → Due AAt H' u (M.rdA s) → Q (.ref u) H'
theorem o_laread (W : Wl K mg) : OkD w K mg base CX0 3 d_law_answers_read ["_law_text_here"] spLRdA := by
  have O__law_are_names := o_lare_names (w := w) (base := base) W
  refine HL.ok_of0 W.D_law_answers_read sc_law_answers_read (fun vs H Q E ⟨_, h, _⟩ => by rw [h]; rfl) bi_law_answers_read fun cdv A outer s H vs Q E hr h => ?_
  have nd := sc_law_answers_read.nd
  refine ⟨_, (pss_cons (ps_set (i := 1) nd rfl (Or.inl rfl) (pe_ifExp (pt_cmpR op_eq (pv 0) pe_str (nomark _)) (pe_tup pa_nil) (pe_callTy call_tuple_of (by rfl) W.f_tuple (by decide +kernel) (pa_cons (pe_split (pv 0) pe_str) pa_nil))))
    (pss_one (ps_ret (pe_ifExp (pt_val (pe_cal O__law_are_names (hr.mono (by omega)) W.g__law_are_names pass0 (pa_cons (pv 1) pa_nil))) (pe_tup (pa_cons pe_str (pa_cons (pv 1) pa_nil))) (pe_tup (pa_cons pe_str (pa_cons pe_non pa_nil))))))), ?_⟩
  obtain ⟨s, rfl, hs, hc, hQ⟩ := h
  have hr2 : M.rdA s = if M.ANs (nsOf s) then some (nsOf s) else none := rfl
  refine sasg_cont (R := fun v1 H2 => ∃ t, v1 = .ref t ∧ Same H H2 ∧ H2 t = some (.tup (sV (nsOf s)))) ?_ ?_
  · intro Q' hQ'
    refine ⟨_, rfl, rfl, ?_⟩
    rw [sq "-", dec_S]
    refine ⟨_, rfl, ?_⟩
    by_cases hd : s = M.q "-"
    · rw [decide_eq_true hd]
      refine iteT ⟨by decide, fun t ht => hQ' _ _ ⟨t, rfl, same_new ht, by rw [upd_same, show nsOf s = [] from if_pos hd] <;> rfl⟩⟩
    · rw [decide_eq_false hd]
      refine iteF ⟨_, rfl, ⟨_, rfl⟩, _, _, rfl, rfl, len_one (c := 43) (by decide), ?_, fun l hl => ?_⟩
      · rw [S_len]
        exact small (by omega)
      · rw [split_one (c := 43) (by decide) (by decide)]
        have e : ((M.sp 43 s).map S).map V.str = sV (nsOf s) := by rw [← sV_str, show nsOf s = M.sp 43 s from if_neg hd]
        rw [e]
        exact ⟨l, _, rfl, .inl ⟨sql upd_same, fun t ht => hQ' _ _ ⟨t, rfl, HL.Same.new (same_new hl) ht, upd_same⟩⟩⟩
  · rintro v1 H2 ⟨t, rfl, s2, ht⟩
    obtain ⟨n1, n2, n3⟩ := nsOf_ok hs hc
    refine ⟨_, rfl, t, nsOf s, rfl, ht, n1, n2, n3, fun H3 e3 => ⟨_, rfl, ?_⟩⟩
    by_cases hk : M.ANs (nsOf s)
    · rw [decide_eq_true hk]
      refine iteT ⟨_, rfl, by show 2 ≤ sizeLine; decide, fun p hp => hQ _ _ ((s2.trans e3).trans (same_new hp)) ?_⟩
      rw [hr2, if_pos hk]
      exact due_some ⟨t, rfl, same_new hp _ _ (e3 _ _ ht)⟩
    · rw [decide_eq_false hk]
      refine iteF ⟨by show 2 ≤ sizeLine; decide, fun p hp => hQ _ _ ((s2.trans e3).trans (same_new hp)) ?_⟩
      rw [hr2, if_neg hk]
      exact due_none
end
end K92
end

section
set_option Elab.async false
set_option linter.all false
set_option maxRecDepth 100000
set_option maxHeartbeats 4000000
/-! k92: facts, shown and read. -/
namespace K92
open PySem PySem.Spec PyProof.Rows L2 He HL
section
variable {w : World} {K : PySem.W.Frag} {mg : Str → Option Value} {base : Heap}
def FAt (H : Hp) : M.Fact → V → Prop
  | .alw c, v => ∃ a u, v = .ref a ∧ H a = some (.tup [.str (S (M.q "always")), u]) ∧ CAt H c u
  | .mk x y c, v => ∃ a u, v = .ref a ∧ H a = some (.tup [.str (S (M.q "makes")), .str (S x), .str (S y), u]) ∧ CAt H c u
theorem FAt.keep {H H' : Hp} {f : M.Fact} {v : V} (h : FAt H f v) (e : TupK H H') : FAt H' f v := by
  cases f with
  | alw c => obtain ⟨a, u, r, h1, h2⟩ := h; exact ⟨a, u, r, e _ _ h1, h2.keep e⟩
  | mk x y c => obtain ⟨a, u, r, h1, h2⟩ := h; exact ⟨a, u, r, e _ _ h1, h2.keep e⟩
theorem cat_q2 (s : String) (b : List Nat) : Str.ofString s ++ S b = S (M.q s ++ b) := cat_q s b
theorem alS_sh (c : M.Cond) : (M.Fact.alw c).sh = M.q "always " ++ c.sh := by
  show M.alS c.sh = _
  unfold M.alS
  exact (M.q_split "always" " " "always " (by decide) _).symm
theorem mkS_join (a b r : List Nat) : TL.joinL [32] [M.q "makes", a, b, r] = M.mkS a b r := rfl
abbrev n_show_fact : List Str := ["fact"]
theorem sc_show_fact : FnScope n_show_fact ["fact"] (defScope s_show_fact) := ⟨rfl, rfl, rfl, by decide +kernel, rfl, by decide +kernel, by decide +kernel⟩
theorem bi_show_fact : ∀ (kV doc pm : Value) (an : Option Addr) (cdv ct : Value) (us : List Value), us.length = 1 → bindArgs (PySem.W.fnOf d_show_fact.name d_show_fact.qual d_show_fact.params d_show_fact.body d_show_fact.scope .none kV doc pm an cdv ct) ⟨us, []⟩ = pure ([("fact" : Str)].zip us) := fun kV doc pm an cdv ct us hu => by
  match us, hu with
  | [u0], _ => rfl
def spShF (n : Nat) : Sp := fun vs H Q _ => ∃ v f, vs = [v] ∧ FAt H f v ∧ M.om f.sh < n ∧ f.sh.length ≤ 100000 ∧ ∀ H', Same H H' → Q (.str (S f.sh)) H'
theorem sh_alw {c : M.Cond} : M.om c.sh ≤ M.om (M.Fact.alw c).sh ∧ c.sh.length ≤ (M.Fact.alw c).sh.length := M.om_alS c.sh
theorem sh_mk {a b : List Nat} {c : M.Cond} : M.om c.sh ≤ M.om (M.Fact.mk a b c).sh ∧ c.sh.length ≤ (M.Fact.mk a b c).sh.length := M.om_mkS a b c.sh
theorem o_show_fact (W : Wl K mg) (n : Nat) (hn : 0 < n) : OkD w K mg base CX0 (n + 2) d_show_fact ["fact"] (spShF n) := by
  have O_show_condition := o_show_cond (w := w) (base := base) W n (n + 1) (fun _ => by omega) (fun _ => by omega)
  refine HL.ok_of0 W.D_show_fact sc_show_fact (fun vs H Q E ⟨_, _, h, _⟩ => by rw [h]; rfl) bi_show_fact fun cdv A outer s H vs Q E hr h => ?_
  have nd := sc_show_fact.nd
  refine ⟨_, (pss_cons (ps_if (pt_cmpR op_eq (pe_ix ix_tup (pv 0) pe_int (fun _ _ => rfl)) pe_str (nomark _)) (pss_one (ps_ret (pe_op op_add_str pe_str (pe_cal O_show_condition (hr.mono (by omega)) W.g_show_condition pass0 (pa_cons (pe_ix ix_tup (pv 0) pe_int (fun _ _ => rfl)) pa_nil))))) pss_nil)
    (pss_one (ps_ret (pe_join pe_str (pe_lst (pa_cons pe_str (pa_cons (pe_ix ix_tup (pv 0) pe_int (fun _ _ => rfl)) (pa_cons (pe_ix ix_tup (pv 0) pe_int (fun _ _ => rfl)) (pa_cons (pe_cal O_show_condition (hr.mono (by omega)) W.g_show_condition pass0 (pa_cons (pe_ix ix_tup (pv 0) pe_int (fun _ _ => rfl)) pa_nil)) pa_nil))))))))), ?_⟩
  obtain ⟨v, f, rfl, hf, hom, hl, hq⟩ := h
  cases f with
  | alw c =>
    obtain ⟨a, u, rfl, ha, hc⟩ := hf
    have h2 := sh_alw (c := c)
    refine ⟨_, rfl, a, _, _, _, rfl, rfl, sqt ha, at0, rfl, _, rfl, iteE true (by rw [sq "always"]; exact decide_eq_true rfl) (iteT ?_)⟩
    refine ⟨_, rfl, a, _, _, _, rfl, rfl, sqt ha, at1, u, c, rfl, hc, by omega, by omega, fun H1 e1 => ⟨_, _, rfl, rfl, ?_, ?_⟩⟩
    · rw [ofq, S_len, S_len]
      refine small ?_
      have : ("always ".toList.map Char.toNat).length = 7 := by decide
      omega
    · rw [cat_q2, ← alS_sh]
      exact hq _ e1
  | mk x y c =>
    obtain ⟨a, u, rfl, ha, hc⟩ := hf
    have h2 := sh_mk (a := x) (b := y) (c := c)
    refine ⟨_, rfl, a, _, _, _, rfl, rfl, sqt ha, at0, rfl, _, rfl, iteE false (by rw [sq "always", dec_S]; decide) (iteF ?_)⟩
    refine ⟨⟨_, rfl⟩, _, rfl, a, _, _, _, rfl, rfl, sqt ha, at1, _, rfl, a, _, _, _, rfl, rfl, sqt ha, at2, _, rfl, a, _, _, _, rfl, rfl, sqt ha, at3, u, c, rfl, hc, by omega, by omega, fun H1 e1 => ⟨by show 4 ≤ sizeLine; decide, fun l hl2 => ?_⟩⟩
    refine ⟨_, l, [M.q "makes", x, y, c.sh].map S, rfl, rfl, .inl (sql ?_), ?_, ?_⟩
    · rw [upd_same, sq "makes"]
      rfl
    · refine join_ok (c := 32) (by decide) ?_
      rw [mkS_join]
      have : (M.Fact.mk x y c).sh = M.mkS x y c.sh := rfl
      rw [← this]
      omega
    · rw [join_one (c := 32) (by decide), mkS_join]
      exact hq _ (HL.Same.new e1 hl2)
abbrev n_Reader_fact_here : List Str := ["self", "word", "step", "ask"]
theorem sc_Reader_fact_here : FnScope n_Reader_fact_here ["self"] (defScope s_Reader_fact_here) := ⟨rfl, rfl, rfl, by decide +kernel, rfl, by decide +kernel, by decide +kernel⟩
theorem bi_Reader_fact_here : ∀ (kV doc pm : Value) (an : Option Addr) (cdv ct : Value) (us : List Value), us.length = 1 → bindArgs (PySem.W.fnOf d_Reader_fact_here.name d_Reader_fact_here.qual d_Reader_fact_here.params d_Reader_fact_here.body d_Reader_fact_here.scope .none kV doc pm an cdv ct) ⟨us, []⟩ = pure ([("self" : Str)].zip us) := fun kV doc pm an cdv ct us hu => by
  match us, hu with
  | [u0], _ => rfl
def spFactH (K : PySem.W.Frag) (n : Nat) : Sp := fun vs H Q E => ∃ p s r, vs = [.ref p] ∧ RdR K H p s r ∧ s.length ≤ 1000000 ∧ M.om r < n ∧ LamX.Tabs (TK K) H ∧
  (M.fact n r = none → ∀ H', Kp p H H' → LamX.Tabs (TK K) H' → E (.ref (CN K)) none H') ∧
  (∀ c r', M.fact n r = some (c, r') → ∀ v H', Kp p H H' → LamX.Tabs (TK K) H' → RdR K H' p s r' → FAt H' c v → Q v H')
theorem o_fact_here (W : Wl K mg) (B : Tb K mg base) (n : Nat) (hn : 0 < n) : OkD w K mg base (CXN w) (n + 6) d_Reader_fact_here ["self"] (spFactH K n) := by
  have O_condition_here := o_cond (w := w) W B n (n + 5) (fun _ => by omega) (fun z => by omega)
  refine HL.ok_of W.D_Reader_fact_here sc_Reader_fact_here (fun vs H Q E ⟨_, _, _, h, _⟩ => by rw [h]; rfl) bi_Reader_fact_here fun cdv A outer s H vs Q E hr h => ?_
  have tk := takes_of (X := cxOf (CXN w) P0 w K mg base n_Reader_fact_here d_Reader_fact_here.qual d_Reader_fact_here.scope (fAd K d_Reader_fact_here.at_) cdv A outer s H E) rfl rfl rfl rfl
  have nd := sc_Reader_fact_here.nd
  have O_needs := o_needsR (w := w) (base := base) W
  have O_need := o_need (w := w) (base := base) W
  have O_word_here := o_wordR (w := w) (base := base) W
  refine ⟨_, (pss_cons (ps_set (i := 1) nd rfl (Or.inl rfl) (pe_cam0 O_word_here W.k_Reader W.m_Reader_word_here (hr.mono (by omega)) (passes_call tk (fun _ _ _ _ h => h)) (pv 0)))
    (pss_cons (ps_expr (pe_cam O_needs W.k_Reader W.m_Reader_needs (hr.mono (by omega)) (passes_call tk (fun _ _ _ _ h => h)) (pv 0) (pa_cons pe_str pa_nil)))
    (pss_cons (ps_if (pt_cmpR op_eq (pv 1) pe_str (nomark _)) (pss_one (ps_ret (pe_tup (pa_cons pe_str (pa_cons (pe_cam0 O_condition_here W.k_Reader W.m_Reader_condition_here (hr.mono (by omega)) (passes_call tk (fun _ _ _ _ h => h)) (pv 0)) pa_nil))))) pss_nil)
    (pss_cons (ps_expr (pe_cal O_need (hr.mono (by omega)) W.g_need (passes_call tk (fun _ _ _ _ h => h)) (pa_cons (pe_cmpR op_eq (pv 1) pe_str (nomark _)) pa_nil)))
    (pss_cons (ps_set (i := 2) nd rfl (Or.inl rfl) (pe_cam0 O_word_here W.k_Reader W.m_Reader_word_here (hr.mono (by omega)) (passes_call tk (fun _ _ _ _ h => h)) (pv 0)))
    (pss_cons (ps_expr (pe_cam O_needs W.k_Reader W.m_Reader_needs (hr.mono (by omega)) (passes_call tk (fun _ _ _ _ h => h)) (pv 0) (pa_cons pe_str pa_nil)))
    (pss_cons (ps_set (i := 3) nd rfl (Or.inl rfl) (pe_cam0 O_word_here W.k_Reader W.m_Reader_word_here (hr.mono (by omega)) (passes_call tk (fun _ _ _ _ h => h)) (pv 0)))
    (pss_cons (ps_expr (pe_cam O_needs W.k_Reader W.m_Reader_needs (hr.mono (by omega)) (passes_call tk (fun _ _ _ _ h => h)) (pv 0) (pa_cons pe_str pa_nil)))
    (pss_one (ps_ret (pe_tup (pa_cons pe_str (pa_cons (pv 2) (pa_cons (pv 3) (pa_cons (pe_cam0 O_condition_here W.k_Reader W.m_Reader_condition_here (hr.mono (by omega)) (passes_call tk (fun _ _ _ _ h => h)) (pv 0)) pa_nil))))))))))))))), ?_⟩
  obtain ⟨p, s, r, rfl, hR, hs, hom, hT, hF, hQ⟩ := h
  obtain ⟨i0, ⟨dx, hp⟩, _⟩ := id hR
  refine ⟨_, rfl, p, dx, _, rfl, hp, rfl, p, s, r, rfl, hR, hs, fun h1 H1 e1 => ?_, fun x r1 h1 H1 e1 hR1 => ?_⟩
  · exact hF (by unfold M.fact; rw [h1]) _ (kpB e1) (tabB hT e1 hR)
  have hT1 := tabB hT e1 hR
  have k1 := kpB e1
  obtain ⟨i1, ⟨dx1, hp1⟩, _⟩ := id hR1
  dsimp only [gName]
  refine ⟨_, rfl, p, dx1, _, rfl, hp1, rfl, p, s, r1, M.q " ", congrArg (fun z => [V.ref p, z]) (sq " "), hR1, hs, by decide, fun h2 => ?_, fun r2 h2 H2 e2 hR2 => ?_⟩
  · exact hF (by unfold M.fact; simp only [h1, h2]) _ k1 hT1
  have hT2 := tabB hT1 e2 hR1
  have k2 := k1.trans (kpB e2)
  obtain ⟨i2, ⟨dx2, hp2⟩, _⟩ := id hR2
  have om2 : M.om r2 ≤ M.om r := by
    have a1 := (M.word_some h1).1
    have a2 := M.takes_some.mp h2
    rw [a1, a2]
    simp only [M.om_app]
    omega
  refine ⟨_, rfl, rfl, ?_⟩
  rw [sq "always", dec_S]
  refine ⟨_, rfl, ?_⟩
  by_cases ha : x = M.q "always"
  · rw [decide_eq_true ha]
    have fe : M.fact n r = (match M.cond n r2 with
        | none => none
        | some (c, r) => some (M.Fact.alw c, r)) := by
      unfold M.fact
      simp only [h1, h2, if_pos ha] <;> rfl
    refine iteT ⟨_, rfl, p, dx2, _, rfl, hp2, rfl, p, s, r2, rfl, hR2, hs, by omega, hT2, fun h3 H3 k3 hT3 => ?_, fun c r3 h3 u H3 k3 hT3 hR3 hAt => ⟨by show 2 ≤ sizeLine; decide, fun t ht => ?_⟩⟩
    · exact hF (by rw [fe, h3]) _ (k2.trans k3) hT3
    · refine hQ (.alw c) r3 (by rw [fe, h3]) _ _ ((k2.trans k3).new ht) (hT3.ext (same_new ht)) (hR3.keep fun o h _ => same_new ht _ _ h) ⟨t, u, rfl, by rw [upd_same], hAt.keep (.of (same_new ht))⟩
  rw [decide_eq_false ha]
  refine iteF ⟨_, rfl, rfl, ?_⟩
  rw [sq "makes", dec_S]
  refine ⟨_, rfl, fun hm => ?_, fun hm => ?_⟩
  rotate_left
  · have hm : ¬ x = M.q "makes" := of_decide_eq_false hm
    exact hF (by unfold M.fact; simp only [h1, h2, if_neg ha, if_neg hm]) _ k2 hT2
  have hm : x = M.q "makes" := of_decide_eq_true hm
  have fe0 : M.fact n r = (match M.word r2 with
        | none => none
        | some (a, r3) => match M.takes (M.q " ") r3 with
          | none => none
          | some r4 => match M.word r4 with
            | none => none
            | some (b, r5) => match M.takes (M.q " ") r5 with
              | none => none
              | some r6 => match M.cond n r6 with
                | none => none
                | some (c, r) => some (M.Fact.mk a b c, r)) := by
    unfold M.fact
    simp only [h1, h2, if_neg ha, if_pos hm] <;> rfl
  rw [fe0] at hF
  have hQ : ∀ c r', _ = some (c, r') → ∀ v H', Kp p H H' → LamX.Tabs (TK K) H' → RdR K H' p s r' → FAt H' c v → Q v H' := fun c r' z => hQ c r' (fe0.trans z)
  refine ⟨_, rfl, p, dx2, _, rfl, hp2, rfl, p, s, r2, rfl, hR2, hs, fun h3 H3 e3 => ?_, fun a r3 h3 H3 e3 hR3 => ?_⟩
  · exact hF (by rw [h3]) _ (k2.trans (kpB e3)) (tabB hT2 e3 hR2)
  have hT3 := tabB hT2 e3 hR2
  have k3 := k2.trans (kpB e3)
  obtain ⟨i3, ⟨dx3, hp3⟩, _⟩ := id hR3
  simp only [h3] at hF hQ
  dsimp only [gName]
  refine ⟨_, rfl, p, dx3, _, rfl, hp3, rfl, p, s, r3, M.q " ", congrArg (fun z => [V.ref p, z]) (sq " "), hR3, hs, by decide, fun h4 => ?_, fun r4 h4 H4 e4 hR4 => ?_⟩
  · exact hF (by rw [h4]) _ k3 hT3
  have hT4 := tabB hT3 e4 hR3
  have k4 := k3.trans (kpB e4)
  obtain ⟨i4, ⟨dx4, hp4⟩, _⟩ := id hR4
  simp only [h4] at hF hQ
  refine ⟨_, rfl, p, dx4, _, rfl, hp4, rfl, p, s, r4, rfl, hR4, hs, fun h5 H5 e5 => ?_, fun b r5 h5 H5 e5 hR5 => ?_⟩
  · exact hF (by rw [h5]) _ (k4.trans (kpB e5)) (tabB hT4 e5 hR4)
  have hT5 := tabB hT4 e5 hR4
  have k5 := k4.trans (kpB e5)
  obtain ⟨i5, ⟨dx5, hp5⟩, _⟩ := id hR5
  simp only [h5] at hF hQ
  dsimp only [gName]
  refine ⟨_, rfl, p, dx5, _, rfl, hp5, rfl, p, s, r5, M.q " ", congrArg (fun z => [V.ref p, z]) (sq " "), hR5, hs, by decide, fun h6 => ?_, fun r6 h6 H6 e6 hR6 => ?_⟩
  · exact hF (by rw [h6]) _ k5 hT5
  have hT6 := tabB hT5 e6 hR5
  have k6 := k5.trans (kpB e6)
  obtain ⟨i6, ⟨dx6, hp6⟩, _⟩ := id hR6
  simp only [h6] at hF hQ
  have om6 : M.om r6 ≤ M.om r2 := by
    rw [(M.word_some h3).1, M.takes_some.mp h4, (M.word_some h5).1, M.takes_some.mp h6]
    simp only [M.om_app]
    omega
  refine ⟨_, rfl, _, rfl, _, rfl, p, dx6, _, rfl, hp6, rfl, p, s, r6, rfl, hR6, hs, by omega, hT6, fun h7 H7 k7 hT7 => ?_, fun c r7 h7 u H7 k7 hT7 hR7 hAt => ⟨by show 4 ≤ sizeLine; decide, fun t ht => ?_⟩⟩
  · exact hF (by rw [h7]) _ (k6.trans k7) hT7
  · refine hQ (.mk a b c) r7 (by rw [h7]) _ _ ((k6.trans k7).new ht) (hT7.ext (same_new ht)) (hR7.keep fun o h _ => same_new ht _ _ h) ⟨t, u, rfl, by rw [upd_same], hAt.keep (.of (same_new ht))⟩
/-! ### a new reader -/
theorem reader_ext {H H2 H3 : Hp} {p dx : Addr} (h1 : H p = none) (h2 : H dx = none) (h3 : dx ≠ p) {C : Addr} (e1 : SameB p (upd (upd H dx (.own p)) p (.ins C dx [])) H2) (e2 : Kp p H2 H3) : LamX.ExtN H H3 := fun b o z n => by
  have nb : b ≠ p := ne_of_none z h1
  have nd : b ≠ dx := ne_of_none z h2
  exact e2 _ _ (e1 _ _ (by rw [upd_ne nb, upd_ne nd]; exact z) nb) ⟨nb, n⟩
theorem tab_new2 {T : List (Addr × Str)} {H : Hp} {p dx : Addr} (t : LamX.Tabs T H) (h1 : H p = none) (h2 : H dx = none) (h3 : dx ≠ p) {C : Addr} : LamX.Tabs T (upd (upd H dx (.own p)) p (.ins C dx [])) :=
  (t.ext (same_new h2)).ext (same_new (by rw [upd_ne h3.symm]; exact h1))
theorem tabI {T : List (Addr × Str)} {p : Addr} {H H' : Hp} {C dx : Addr} {fs : List (Str × V)} (t : LamX.Tabs T H) (e : SameB p H H') (h : H p = some (.ins C dx fs)) : LamX.Tabs T H' := fun x hx => by
  obtain ⟨ps, h1, h2, h3⟩ := t x hx
  refine ⟨ps, e _ _ h1 (fun z => by rw [z, h] at h1; cases h1), h2, fun pos cv hc => ?_⟩
  obtain ⟨c, e1, e2⟩ := h3 pos cv hc
  exact ⟨c, e1, e _ _ e2 (fun z => by rw [z, h] at e2; exact codeO_ins (Option.some.inj e2).symm)⟩
abbrev n_read_fact : List Str := ["text", "found"]
theorem sc_read_fact : FnScope n_read_fact ["text"] (defScope s_read_fact) := ⟨rfl, rfl, rfl, by decide +kernel, rfl, by decide +kernel, by decide +kernel⟩
theorem bi_read_fact : ∀ (kV doc pm : Value) (an : Option Addr) (cdv ct : Value) (us : List Value), us.length = 1 → bindArgs (PySem.W.fnOf d_read_fact.name d_read_fact.qual d_read_fact.params d_read_fact.body d_read_fact.scope .none kV doc pm an cdv ct) ⟨us, []⟩ = pure ([("text" : Str)].zip us) := fun kV doc pm an cdv ct us hu => by
  match us, hu with
  | [u0], _ => rfl
def spRdF (K : PySem.W.Frag) (n : Nat) : Sp := fun vs H Q E => ∃ v, vs = [v] ∧ LamX.Tabs (TK K) H ∧
  ((∃ s, v = .str (S s) ∧ s.length ≤ 10000 ∧ M.om s < n ∧ (M.readF n s = none → ∀ H', LamX.ExtN H H' → LamX.Tabs (TK K) H' → E (.ref (CN K)) none H') ∧
    (∀ c, M.readF n s = some c → ∀ u H', LamX.ExtN H H' → LamX.Tabs (TK K) H' → FAt H' c u → Q u H')) ∨ (NoStr K H v ∧ E (.ref (CN K)) none H))
theorem fact_sh {n : Nat} {s r : List Nat} {f : M.Fact} (h : M.fact n s = some (f, r)) : s = f.sh ++ r := by
  rcases M.fact_head h with ⟨c, s2, rfl, rfl⟩ | ⟨a, b, c, s2, rfl, na, nb, rfl⟩
  · rw [M.fact_alw] at h
    cases hc : M.cond n s2 with
    | none =>
      rw [hc] at h
      cases h
    | some z =>
      obtain ⟨c', r'⟩ := z
      rw [hc] at h
      injection h with h
      injection h with h1 h2
      injection h1 with h1
      subst h1 h2
      have := (M.cond_sound n s2 _ _ hc).1
      show M.alS s2 = M.alS c'.sh ++ r'
      rw [this]
      simp only [M.alS, List.append_assoc]
  · rw [M.fact_mk na nb] at h
    cases hc : M.cond n s2 with
    | none =>
      rw [hc] at h
      cases h
    | some z =>
      obtain ⟨c', r'⟩ := z
      rw [hc] at h
      injection h with h
      injection h with h1 h2
      injection h1 with _ _ h1
      subst h1 h2
      have := (M.cond_sound n s2 _ _ hc).1
      show M.mkS a b s2 = M.mkS a b c'.sh ++ r'
      rw [this]
      simp only [M.mkS, List.append_assoc]
theorem o_read_fact (W : Wl K mg) (B : Tb K mg base) (n : Nat) (hn : 0 < n) : OkD w K mg base (CXN w) (n + 7) d_read_fact ["text"] (spRdF K n) := by
  refine HL.ok_of W.D_read_fact sc_read_fact (fun vs H Q E ⟨_, h, _⟩ => by rw [h]; rfl) bi_read_fact fun cdv A outer s H vs Q E hr h => ?_
  have tk := takes_of (X := cxOf (CXN w) P0 w K mg base n_read_fact d_read_fact.qual d_read_fact.scope (fAd K d_read_fact.at_) cdv A outer s H E) rfl rfl rfl rfl
  have nd := sc_read_fact.nd
  have O_need := o_need (w := w) (base := base) W
  have O_need_text := o_need_text (w := w) (base := base) W
  have O_Reader_init := o_init (w := w) (base := base) W
  have O_fact_here := o_fact_here (w := w) W B n hn
  have O_show_fact := o_show_fact (w := w) (base := base) W n hn
  refine ⟨_, (pss_cons (ps_expr (pe_cal O_need_text (hr.mono (by omega)) W.g_need_text (passes_call tk (fun _ _ _ _ h => h)) (pa_cons (pv 0) pa_nil)))
    (pss_cons (ps_set (i := 1) nd rfl (Or.inl rfl) (pe_cam0 O_fact_here W.k_Reader W.m_Reader_fact_here (hr.mono (by omega)) (passes_call tk (fun _ _ _ _ h => h)) (pe_cak O_Reader_init W.mk_Reader (hr.mono (by omega)) W.g_Reader pass0 (pa_cons (pv 0) pa_nil))))
    (pss_cons (ps_expr (pe_cal O_need (hr.mono (by omega)) W.g_need (passes_call tk (fun _ _ _ _ h => h)) (pa_cons (pe_cmpR op_eq (pe_cal O_show_fact (hr.mono (by omega)) W.g_show_fact pass0 (pa_cons (pv 1) pa_nil)) (pv 0) (nomark _)) pa_nil)))
    (pss_one (ps_ret (pv 1)))))), ?_⟩
  obtain ⟨v, rfl, hT, ⟨s, rfl, hs, hom, hF, hQ⟩ | ⟨hno, hE⟩⟩ := h
  · refine ⟨_, rfl, _, rfl, .inl ⟨_, rfl, ?_⟩⟩
    refine ⟨_, rfl, fun p dx h1 h2 h3 => ⟨p, dx, s, rfl, upd_same, fun H1 e1 hR => ⟨rfl, ?_⟩⟩⟩
    have hT1 := tabI (tab_new2 (C := ga K "Reader") hT h1 h2 h3) e1 upd_same
    have hRR : RdR K H1 p s s := ⟨0, hR, rfl⟩
    obtain ⟨dx1, hp1⟩ := id hR
    refine ⟨p, dx1, _, rfl, hp1, rfl, p, s, s, rfl, hRR, by omega, hom, hT1, fun hc H2 k2 hT2 => ?_, fun c r hc u H2 k2 hT2 hR2 hAt => ?_⟩
    · refine hF ?_ H2 (reader_ext h1 h2 h3 e1 k2) hT2
      unfold M.readF
      rw [hc]
    · have e5 := fact_sh hc
      have hl : c.sh.length ≤ 10000 := by
        have := congrArg List.length e5
        rw [List.length_append] at this
        omega
      have ho : M.om c.sh < n := by
        have := congrArg M.om e5
        rw [M.om_app] at this
        omega
      refine ⟨_, rfl, u, c, rfl, hAt, ho, by omega, fun H3 e3 => ?_⟩
      refine ⟨_, rfl, rfl, ?_⟩
      rw [dec_S]
      have ext3 : LamX.ExtN H H3 := (reader_ext h1 h2 h3 e1 k2).trans (.of e3)
      have hrc : M.readF n s = if c.sh = s then some c else none := by
        unfold M.readF
        rw [hc]
      refine ⟨_, rfl, fun hk => ?_, fun hk => ?_⟩
      · refine ⟨_, rfl, hQ c (by rw [hrc, if_pos (of_decide_eq_true hk)]) u H3 ext3 (hT2.ext e3) (hAt.keep (.of e3))⟩
      · exact hF (by rw [hrc, if_neg (of_decide_eq_false hk)]) H3 ext3 (hT2.ext e3)
  · exact ⟨_, rfl, _, rfl, .inr ⟨hno, hE⟩⟩
end
end K92
end

section
set_option Elab.async false
set_option linter.all false
set_option maxRecDepth 100000
set_option maxHeartbeats 4000000
/-! k92: the law's facts. -/
namespace K92
open PySem PySem.Spec PyProof.Rows L2 He HL
section
variable {w : World} {K : PySem.W.Frag} {mg : Str → Option Value} {base : Heap}
abbrev n_law_fact_text : List Str := ["_law_fact"]
theorem sc_law_fact_text : FnScope n_law_fact_text ["_law_fact"] (defScope s_law_fact_text) := ⟨rfl, rfl, rfl, by decide +kernel, rfl, by decide +kernel, by decide +kernel⟩
theorem bi_law_fact_text : ∀ (kV doc pm : Value) (an : Option Addr) (cdv ct : Value) (us : List Value), us.length = 1 → bindArgs (PySem.W.fnOf d_law_fact_text.name d_law_fact_text.qual d_law_fact_text.params d_law_fact_text.body d_law_fact_text.scope .none kV doc pm an cdv ct) ⟨us, []⟩ = pure ([("_law_fact" : Str)].zip us) := fun kV doc pm an cdv ct us hu => by
  match us, hu with
  | [u0], _ => rfl
theorem o_lftext (W : Wl K mg) (n : Nat) (hn : 0 < n) : OkD w K mg base CX0 (n + 2) d_law_fact_text ["_law_fact"] (spShF n) := by
  have O__law_condition_text := o_ctext (w := w) (base := base) W n (n + 1) (fun _ => by omega) (fun _ => by omega)
  refine HL.ok_of0 W.D_law_fact_text sc_law_fact_text (fun vs H Q E ⟨_, _, h, _⟩ => by rw [h]; rfl) bi_law_fact_text fun cdv A outer s H vs Q E hr h => ?_
  have nd := sc_law_fact_text.nd
  refine ⟨_, (pss_one (ps_ret (pe_join pe_str (pe_op op_cat (pe_callTy call_list_of (by rfl) W.f_list (by decide +kernel) (pa_cons (pe_slice sl_tup (pv 0) po_none (po_some (pe_un un_neg pe_int))) pa_nil)) (pe_lst (pa_cons (pe_cal O__law_condition_text (hr.mono (by omega)) W.g__law_condition_text pass0 (pa_cons (pe_ix ix_tup (pv 0) (pe_un un_neg pe_int) (fun _ _ => rfl)) pa_nil)) pa_nil)))))), ?_⟩
  obtain ⟨v, f, rfl, hf, hom, hl, hq⟩ := h
  cases f with
  | alw c =>
    obtain ⟨a, u, rfl, ha, hc⟩ := hf
    have h2 := sh_alw (c := c)
    refine ⟨⟨_, rfl⟩, _, rfl, 1, rfl, -1, rfl, a, _, rfl, sqt ha, by show ¬ (HT.sIx 2 0 none = 0 ∧ HT.sIx 2 2 (some (-1)) = 2); decide, fun p hp => ⟨p, [.str (S (M.q "always"))], rfl, .inr (sqt upd_same), fun l hl2 => ?_⟩⟩
    have s2 := (same_new (o := .tup [V.str (S (M.q "always"))]) hp).trans (same_new (o := .lst [V.str (S (M.q "always"))]) hl2)
    have hl3 : upd (upd H p (.tup [V.str (S (M.q "always"))])) l (.lst [V.str (S (M.q "always"))]) l = some (.lst [V.str (S (M.q "always"))]) := upd_same
    refine ⟨_, rfl, 1, rfl, a, _, -1, u, rfl, rfl, sqt (s2 _ _ ha), rfl, u, c, rfl, hc.keep (.of s2), by omega, by omega, fun H1 e1 => ⟨by show 1 ≤ sizeLine; decide, fun k hk => ?_⟩⟩
    refine ⟨l, k, _, _, rfl, rfl, same_new hk _ _ (e1 _ _ hl3), upd_same, by show 2 ≤ sizeLine; decide, fun m hm => ?_⟩
    refine ⟨_, m, [M.q "always", c.sh].map S, rfl, rfl, .inl (sql upd_same), ?_, ?_⟩
    · refine join_ok (c := 32) (by decide) ?_
      have : TL.joinL [32] [M.q "always", c.sh] = (M.Fact.alw c).sh := rfl
      rw [this]
      omega
    · rw [join_one (c := 32) (by decide)]
      exact hq _ (HL.Same.new (HL.Same.new (s2.trans e1) hk) hm)
  | mk x y c =>
    obtain ⟨a, u, rfl, ha, hc⟩ := hf
    have h2 := sh_mk (a := x) (b := y) (c := c)
    refine ⟨⟨_, rfl⟩, _, rfl, 1, rfl, -1, rfl, a, _, rfl, sqt ha, by show ¬ (HT.sIx 4 0 none = 0 ∧ HT.sIx 4 4 (some (-1)) = 4); decide, fun p hp => ⟨p, [.str (S (M.q "makes")), .str (S x), .str (S y)], rfl, .inr (sqt upd_same), fun l hl2 => ?_⟩⟩
    have s2 := (same_new (o := .tup [V.str (S (M.q "makes")), .str (S x), .str (S y)]) hp).trans (same_new (o := .lst [V.str (S (M.q "makes")), .str (S x), .str (S y)]) hl2)
    have hl3 : upd (upd H p (.tup [V.str (S (M.q "makes")), .str (S x), .str (S y)])) l (.lst [V.str (S (M.q "makes")), .str (S x), .str (S y)]) l = some (.lst [V.str (S (M.q "makes")), .str (S x), .str (S y)]) := upd_same
    refine ⟨_, rfl, 1, rfl, a, _, -1, u, rfl, rfl, sqt (s2 _ _ ha), rfl, u, c, rfl, hc.keep (.of s2), by omega, by omega, fun H1 e1 => ⟨by show 1 ≤ sizeLine; decide, fun k hk => ?_⟩⟩
    refine ⟨l, k, _, _, rfl, rfl, same_new hk _ _ (e1 _ _ hl3), upd_same, by show 4 ≤ sizeLine; decide, fun m hm => ?_⟩
    refine ⟨_, m, [M.q "makes", x, y, c.sh].map S, rfl, rfl, .inl (sql upd_same), ?_, ?_⟩
    · refine join_ok (c := 32) (by decide) ?_
      have : TL.joinL [32] [M.q "makes", x, y, c.sh] = (M.Fact.mk x y c).sh := rfl
      rw [this]
      omega
    · rw [join_one (c := 32) (by decide)]
      exact hq _ (HL.Same.new (HL.Same.new (s2.trans e1) hk) hm)
theorem ntold : decide (V.str (S (M.q "none")) = V.str (Str.ofString "told")) = false := by
  rw [sq "told", dec_S]
  decide
theorem ytold : decide (V.str (S (M.q "told")) = V.str (Str.ofString "told")) = true := by
  rw [sq "told", dec_S]
  decide
abbrev n_law_fact_read : List Str := ["_law_text_here", "_law_found", "_law_words"]
theorem sc_law_fact_read : FnScope n_law_fact_read ["_law_text_here"] (defScope s_law_fact_read) := ⟨rfl, rfl, rfl, by decide +kernel, rfl, by decide +kernel, by decide +kernel⟩
theorem bi_law_fact_read : ∀ (kV doc pm : Value) (an : Option Addr) (cdv ct : Value) (us : List Value), us.length = 1 → bindArgs (PySem.W.fnOf d_law_fact_read.name d_law_fact_read.qual d_law_fact_read.params d_law_fact_read.body d_law_fact_read.scope .none kV doc pm an cdv ct) ⟨us, []⟩ = pure ([("_law_text_here" : Str)].zip us) := fun kV doc pm an cdv ct us hu => by
  match us, hu with
  | [u0], _ => rfl
def spLRdF (n : Nat) : Sp := fun vs H Q _ => ∃ s, vs = [.str (S s)] ∧ s.length ≤ 10000 ∧ M.om s < n ∧ ∀ u H', Same H H' → Due FAt H' u (M.lawF n s.length s) → Q (.ref u) H'
theorem o_lfread (W : Wl K mg) (n : Nat) (hn : 0 < n) : OkD w K mg base CX0 (n + 5) d_law_fact_read ["_law_text_here"] (spLRdF n) := by
  have O__law_is_name := o_lis_name (w := w) (base := base) W
  have O__law_whole := o_whole (w := w) (base := base) W
  have O__law_condition_at := o_lcond (w := w) (base := base) W n (n + 3) (fun _ => by omega) (fun _ => by omega)
  refine HL.ok_of0 W.D_law_fact_read sc_law_fact_read (fun vs H Q E ⟨_, h, _⟩ => by rw [h]; rfl) bi_law_fact_read fun cdv A outer s H vs Q E hr h => ?_
  have nd := sc_law_fact_read.nd
  refine ⟨_, (pss_cons (ps_if (pt_cmpR op_eq (pe_slice sl_str (pv 0) po_none (po_some pe_int)) pe_str (nomark _)) (pss_cons (ps_set (i := 1) nd rfl (Or.inl rfl) (pe_cal O__law_whole (hr.mono (by omega)) W.g__law_whole pass0 (pa_cons (pv 0) (pa_cons (pe_cal O__law_condition_at (hr.mono (by omega)) W.g__law_condition_at pass0 (pa_cons (pv 0) (pa_cons pe_int pa_nil))) pa_nil))))
      (pss_one (ps_ret (pe_ifExp (pt_cmpR op_eq (pe_ix ix_tup (pv 1) pe_int (fun _ _ => rfl)) pe_str (nomark _)) (pe_tup (pa_cons pe_str (pa_cons (pe_tup (pa_cons pe_str (pa_cons (pe_ix ix_tup (pv 1) pe_int (fun _ _ => rfl)) pa_nil))) pa_nil))) (pv 1))))) pss_nil)
    (pss_cons (ps_set (i := 2) nd rfl (Or.inl rfl) (pe_split (pv 0) pe_str))
    (pss_cons (ps_if (PW.pt (pw_or (pt_cmpR op_lt (pe_callB call_len_seq (by rfl) W.f_len (by decide +kernel) (pa_cons (pv 2) pa_nil)) pe_int (nomark _)) (pw_or (pt_cmpR op_ne (pe_ix ix_list (pv 2) pe_int (fun _ _ => rfl)) pe_str (nomark _)) (pw_or (pt_not (pt_val (pe_cal O__law_is_name (hr.mono (by omega)) W.g__law_is_name pass0 (pa_cons (pe_ix ix_list (pv 2) pe_int (fun _ _ => rfl)) pa_nil)))) (pw_or1 (pt_not (pt_val (pe_cal O__law_is_name (hr.mono (by omega)) W.g__law_is_name pass0 (pa_cons (pe_ix ix_list (pv 2) pe_int (fun _ _ => rfl)) pa_nil))))))))) (pss_one (ps_ret (pe_tup (pa_cons pe_str (pa_cons pe_non pa_nil))))) pss_nil)
    (pss_cons (ps_set (i := 1) nd rfl (Or.inl rfl) (pe_cal O__law_whole (hr.mono (by omega)) W.g__law_whole pass0 (pa_cons (pv 0) (pa_cons (pe_cal O__law_condition_at (hr.mono (by omega)) W.g__law_condition_at pass0 (pa_cons (pv 0) (pa_cons (pe_op op_add (pe_op op_add pe_int (pe_callB call_len_str (by rfl) W.f_len (by decide +kernel) (pa_cons (pe_ix ix_list (pv 2) pe_int (fun _ _ => rfl)) pa_nil))) (pe_callB call_len_str (by rfl) W.f_len (by decide +kernel) (pa_cons (pe_ix ix_list (pv 2) pe_int (fun _ _ => rfl)) pa_nil))) pa_nil))) pa_nil))))
    (pss_one (ps_ret (pe_ifExp (pt_cmpR op_eq (pe_ix ix_tup (pv 1) pe_int (fun _ _ => rfl)) pe_str (nomark _)) (pe_tup (pa_cons pe_str (pa_cons (pe_tup (pa_cons pe_str (pa_cons (pe_ix ix_list (pv 2) pe_int (fun _ _ => rfl)) (pa_cons (pe_ix ix_list (pv 2) pe_int (fun _ _ => rfl)) (pa_cons (pe_ix ix_tup (pv 1) pe_int (fun _ _ => rfl)) pa_nil))))) pa_nil))) (pv 1)))))))), ?_⟩
  obtain ⟨s, rfl, hs, hom, hq⟩ := h
  have sl : (S s).length ≤ sizeLine := by rw [S_len]; exact small (by omega)
  have hd7 : cutS (S s) none (some (7 : Int)) = S (s.take 7) := cut_j s 7
  -- what is whole
  have whole : ∀ (r : List Nat) (i : Nat) (H1 : Hp) (Q2 : VK), Ps s i r → (∀ p H', Same H1 H' → Due CAt H' p (M.lawC n s.length r) → Q2 (.ref p) H') → spLC n [.str (S s), .int (i : Nat)] H1 (fun x H2 => spWhole [.str (S s), x] H2 Q2 L2.E0) L2.E0 := fun r i H1 Q2 hP hQ2 => by
    have hom2 : M.om r ≤ M.om s := Ps.om ⟨Nat.zero_le _, rfl⟩ hP (Nat.zero_le _)
    refine ⟨s, i, r, rfl, hP, by omega, by omega, fun hc H2 e2 => ?_, fun c r2 hc u v j H2 e2 _ hP2 hu hAt => ?_⟩
    · refine ⟨s, .non, rfl, by omega, .inl ⟨rfl, fun p hp => hQ2 p _ (HL.Same.new e2 hp) ?_⟩⟩
      unfold M.lawC
      rw [hc]
      exact due_none
    · refine ⟨s, .ref u, rfl, by omega, .inr ⟨u, v, j, r2, rfl, hu, hP2, fun hn p hp => hQ2 p _ (HL.Same.new e2 hp) ?_, fun hn p hp => hQ2 p _ (HL.Same.new e2 hp) ?_⟩⟩
      · unfold M.lawC
        rw [hc]
        dsimp only
        rw [if_pos hn]
        exact due_some (hAt.keep (.of (same_new hp)))
      · unfold M.lawC
        rw [hc]
        dsimp only
        rw [if_neg hn]
        exact due_none
  refine ⟨_, rfl, 7, rfl, _, rfl, sl, ?_⟩
  rw [hd7]
  refine ⟨rfl, _, rfl, ?_⟩
  rw [sq "always ", dec_S]
  by_cases h7 : s.take 7 = M.q "always "
  · rw [decide_eq_true h7]
    refine iteT ⟨_, rfl, _, rfl, ?_⟩
    have hP : Ps s 7 (s.drop 7) := by
      refine ⟨?_, rfl⟩
      have := congrArg List.length h7
      rw [List.length_take, show (M.q "always ").length = 7 by decide] at this
      omega
    have lf : ∀ x, M.lawC n s.length (s.drop 7) = x → M.lawF n s.length s = x.map M.Fact.alw := fun x hx => by
      unfold M.lawF
      rw [if_pos h7, hx]
      cases x <;> rfl
    dsimp only [tCons, tC, tNil, List.append_nil]
    refine whole (s.drop 7) 7 H _ hP fun p H1 e1 hd => ?_
    dsimp only [gName]
    cases hc : M.lawC n s.length (s.drop 7) with
    | none =>
      rw [hc] at hd
      refine ⟨_, rfl, p, _, _, _, rfl, rfl, sqt hd, at0, rfl, _, rfl, iteE false ntold (iteF ⟨_, rfl, hq _ _ e1 ?_⟩)⟩
      rw [lf _ hc]
      exact hd
    | some c =>
      rw [hc] at hd
      obtain ⟨v, hu, hAt⟩ := hd
      refine ⟨_, rfl, p, _, _, _, rfl, rfl, sqt hu, at0, rfl, _, rfl, iteE true ytold (iteT ⟨_, rfl, p, _, _, _, rfl, rfl, sqt hu, at1, by show 2 ≤ sizeLine; decide, fun t1 h1 => ⟨by show 2 ≤ sizeLine; decide, fun t2 h2 => hq _ _ (HL.Same.new (HL.Same.new e1 h1) h2) ?_⟩⟩)⟩
      rw [lf _ hc]
      exact due_some ⟨t1, v, rfl, same_new h2 _ _ (by rw [upd_same, sq "always"]), (hAt.keep (.of (same_new h1))).keep (.of (same_new h2))⟩
  rw [decide_eq_false h7]
  refine iteF ?_
  delta tNext
  dsimp only
  refine ⟨_, rfl, ⟨_, rfl⟩, _, _, rfl, rfl, len_one (c := 32) (by decide), by rw [S_len]; exact small (by omega), fun l hl => ?_⟩
  rw [split_one (c := 32) (by decide) (by decide), ← sV_str]
  have s1 := same_new (o := .lst (sV (M.sp 32 s))) hl
  have hl1 : upd H l (.lst (sV (M.sp 32 s))) l = some (.lst (sV (M.sp 32 s))) := upd_same
  generalize upd H l (.lst (sV (M.sp 32 s))) = H1 at s1 hl1 ⊢
  have none_out : ∀ H2, Same H H2 → M.lawF n s.length s = none → ∀ p, H2 p = none → Q (.ref p) (upd H2 p (.tup [.str (Str.ofString "none"), .non])) := fun H2 e2 hn p hp => hq _ _ (HL.Same.new e2 hp) (by rw [hn]; exact due_none)
  dsimp only [gName]
  refine ⟨_, rfl, l, _, rfl, .inl (sql hl1), _, _, rfl, rfl, _, rfl, ?_⟩
  by_cases h4 : (M.sp 32 s).length < 4
  · refine iteE true (decide_eq_true (by simp; omega)) (iteT ⟨by show 2 ≤ sizeLine; decide, none_out H1 s1 (M.lawF_short h7 h4)⟩)
  refine iteE false (decide_eq_false (by simp; omega)) (iteF ?_)
  obtain ⟨w0, w1, w2, w3, ws, hw⟩ : ∃ w0 w1 w2 w3 ws, M.sp 32 s = w0 :: w1 :: w2 :: w3 :: ws := by
    match h : M.sp 32 s with
    | [] => rw [h] at h4; simp at h4
    | [_] => rw [h] at h4; simp at h4
    | [_, _] => rw [h] at h4; simp at h4
    | [_, _, _] => rw [h] at h4; simp at h4
    | w0 :: w1 :: w2 :: w3 :: ws => exact ⟨_, _, _, _, _, rfl⟩
  have lw := M.lawF_words (n := n) (m := s.length) h7 hw
  have es := M.sp_four hw
  rw [hw] at hl1
  have wl : ∀ x ∈ M.sp 32 s, x.length ≤ 10000 := fun x hx => by have := sp_each hx; omega
  have w1l := wl w1 (by rw [hw]; simp)
  have w2l := wl w2 (by rw [hw]; simp)
  refine ⟨_, rfl, l, _, _, _, rfl, rfl, sql hl1, at0, rfl, _, rfl, ?_⟩
  rw [sq "makes", dec_S]
  by_cases h0 : w0 = M.q "makes"
  rotate_left
  · refine iteE true (by rw [decide_eq_false h0] <;> rfl) (iteT ⟨by show 2 ≤ sizeLine; decide, none_out H1 s1 (by rw [lw, if_neg (fun z => h0 z.1)])⟩)
  refine iteE false (by rw [decide_eq_true h0] <;> rfl) (iteF ?_)
  refine ⟨_, rfl, l, _, _, _, rfl, rfl, sql hl1, at1, w1, rfl, w1l, fun H2 e2 => ⟨_, rfl, ?_⟩⟩
  by_cases h1 : M.nmB w1 = true
  rotate_left
  · refine iteE true (by simp [h1]) (iteT ⟨by show 2 ≤ sizeLine; decide, none_out H2 (s1.trans e2) (by rw [lw, if_neg (fun z => h1 z.2.1)])⟩)
  refine iteE false (by simp [h1]) (iteF ?_)
  have hl2 := e2 _ _ hl1
  refine ⟨_, rfl, l, _, _, _, rfl, rfl, sql hl2, at2, w2, rfl, w2l, fun H3 e3 => ⟨_, rfl, ?_⟩⟩
  have hl3 := e3 _ _ hl2
  have s3 := (s1.trans e2).trans e3
  by_cases h2 : M.nmB w2 = true
  rotate_left
  · refine iteE true (by simp [h2]) (iteT ⟨by show 2 ≤ sizeLine; decide, none_out H3 s3 (by rw [lw, if_neg (fun z => h2 z.2.2)])⟩)
  refine iteE false (by simp [h2]) (iteF ?_)
  rw [if_pos ⟨h0, h1, h2⟩] at lw
  have w1s : (S w1).length ≤ sizeLine := by rw [S_len]; exact small (by omega)
  have w2s : (S w2).length ≤ sizeLine := by rw [S_len]; exact small (by omega)
  dsimp only
  refine ⟨_, rfl, _, rfl, _, rfl, l, _, _, _, rfl, rfl, sql hl3, at1, _, rfl, w1s, _, _, rfl, rfl, _, rfl, l, _, _, _, rfl, rfl, sql hl3, at2, _, rfl, w2s, _, _, rfl, rfl, ?_⟩
  have hP : Ps s (8 + w1.length + w2.length) (s.drop (8 + w1.length + w2.length)) := by
    refine ⟨?_, rfl⟩
    have e := congrArg List.length es
    simp only [List.length_append, List.length_cons] at e
    have : w0.length = 5 := by rw [h0]; decide
    omega
  have ei : (8 + ((S w1).length : Int)) + ((S w2).length : Int) = ((8 + w1.length + w2.length : Nat) : Int) := by
    rw [S_len, S_len]
    omega
  dsimp only [tCons, tC, tNil, List.append_nil]
  rw [ei]
  refine whole _ _ H3 _ hP fun p H4 e4 hd => ?_
  have hl4 := e4 _ _ hl3
  dsimp only [gName]
  cases hc : M.lawC n s.length (s.drop (8 + w1.length + w2.length)) with
  | none =>
    rw [hc] at hd lw
    refine ⟨_, rfl, p, _, _, _, rfl, rfl, sqt hd, at0, rfl, _, rfl, iteE false ntold (iteF ⟨_, rfl, hq _ _ (s3.trans e4) ?_⟩)⟩
    rw [lw]
    exact hd
  | some c =>
    rw [hc] at hd lw
    obtain ⟨v, hu, hAt⟩ := hd
    refine ⟨_, rfl, p, _, _, _, rfl, rfl, sqt hu, at0, rfl, _, rfl, iteE true ytold (iteT ?_)⟩
    refine ⟨_, rfl, l, _, _, _, rfl, rfl, sql hl4, at1, _, rfl, l, _, _, _, rfl, rfl, sql hl4, at2, _, rfl, p, _, _, _, rfl, rfl, sqt hu, at1, by show 4 ≤ sizeLine; decide, fun t1 h1 => ⟨by show 2 ≤ sizeLine; decide, fun t2 h2 => hq _ _ (HL.Same.new (HL.Same.new (s3.trans e4) h1) h2) ?_⟩⟩
    rw [lw]
    exact due_some ⟨t1, v, rfl, same_new h2 _ _ upd_same, (hAt.keep (.of (same_new h1))).keep (.of (same_new h2))⟩
end
end K92
end

section
set_option Elab.async false
set_option linter.all false
set_option maxRecDepth 100000
set_option maxHeartbeats 4000000
/-! k92: traces word by word. -/
namespace M
open L2 TL
theorem trW_cons (st an : Cs) (r : List Cs) : trW (st :: an :: r) = (stp st).bind fun a => (rdA an).bind fun ns => (trW r).map fun t => (a, ns) :: t := by
  conv => lhs; unfold trW
  cases stp st with
  | none => rfl
  | some a =>
    cases rdA an with
    | none => rfl
    | some ns =>
      cases trW r with
      | none => rfl
      | some t => rfl
theorem trW_app : ∀ (l r : List Cs), l.length % 2 = 0 → trW (l ++ r) = (trW l).bind fun a => (trW r).map fun b => a ++ b
  | [], r, _ => by
    show trW r = (trW r).map fun b => [] ++ b
    cases trW r <;> rfl
  | [x], r, h => by simp at h
  | st :: an :: l, r, h => by
    have ih := trW_app l r (by simp only [List.length_cons] at h; omega)
    show trW (st :: an :: (l ++ r)) = _
    rw [trW_cons, trW_cons, ih]
    cases stp st with
    | none => rfl
    | some a =>
      cases rdA an with
      | none => rfl
      | some ns =>
        cases trW l with
        | none => rfl
        | some t =>
          cases trW r with
          | none => rfl
          | some t' => rfl
theorem trW_odd : ∀ (l : List Cs), l.length % 2 = 1 → trW l = none
  | [], h => by simp at h
  | [x], _ => rfl
  | st :: an :: l, h => by
    have ih := trW_odd l (by simp only [List.length_cons] at h; omega)
    rw [trW_cons, ih]
    cases stp st with
    | none => rfl
    | some a => cases rdA an <;> rfl
theorem trW_fail {l r : List Cs} {st an : Cs} (hl : l.length % 2 = 0) (h : stp st = none ∨ rdA an = none) : trW (l ++ st :: an :: r) = none := by
  rw [trW_app l _ hl, trW_cons]
  cases trW l with
  | none => rfl
  | some t =>
    rcases h with h | h
    · rw [h]
      rfl
    · rw [h]
      cases stp st <;> rfl
theorem trW_snoc {l : List Cs} {st an a : Cs} {ns : List Cs} {t : List (Cs × List Cs)} (h : trW l = some t) (h1 : stp st = some a) (h2 : rdA an = some ns) (hl : l.length % 2 = 0) : trW (l ++ [st, an]) = some (t ++ [(a, ns)]) := by
  rw [trW_app l _ hl, h, trW_cons, h1, h2]
  rfl
theorem rdT_cons {s w0 : Cs} {ws : List Cs} (h : sp 32 s = w0 :: ws) : rdT s = (rdA w0).bind fun a => (trW ws).map fun t => (a, t) := by
  unfold rdT
  rw [h]
  dsimp only
  cases rdA w0 with
  | none => rfl
  | some a => cases trW ws <;> rfl
/-! ### the law's way: every second word -/
open XP (alt)
theorem alt_cons2 {α : Type} (x y : α) (r : List α) : alt (x :: y :: r) = x :: alt r := rfl
theorem trW_alt : ∀ (ws : List Cs), ws.length % 2 = 0 → trW ws = (mapO stp (alt ws)).bind fun as => (mapO rdA (alt (ws.drop 1))).map fun bs => as.zip bs
  | [], _ => rfl
  | [x], h => by simp at h
  | st :: an :: r, h => by
    have ih := trW_alt r (by simp only [List.length_cons] at h; omega)
    rw [trW_cons, ih, alt_cons2]
    have e : alt ((st :: an :: r).drop 1) = an :: alt (r.drop 1) := by
      cases r with
      | nil => rfl
      | cons x r => rfl
    rw [e]
    have m : ∀ {α β : Type} (f : α → Option β) (x : α) (l : List α), mapO f (x :: l) = (f x).bind fun y => (mapO f l).map fun ys => y :: ys := fun f x l => by
      conv => lhs; unfold mapO
      cases f x with
      | none => rfl
      | some y => cases mapO f l <;> rfl
    rw [m, m]
    cases stp st with
    | none => rfl
    | some a =>
      cases rdA an with
      | none =>
        cases mapO stp (alt r) <;> rfl
      | some ns =>
        cases mapO stp (alt r) with
        | none => rfl
        | some as =>
          cases mapO rdA (alt (r.drop 1)) with
          | none => rfl
          | some bs => rfl
theorem mapO_none {α β : Type} {f : α → Option β} : ∀ {l : List α} {x : α}, x ∈ l → f x = none → mapO f l = none
  | [], x, h, _ => by cases h
  | y :: l, x, h, hf => by
    unfold mapO
    rcases List.mem_cons.mp h with rfl | h
    · rw [hf]
    · rw [mapO_none h hf]
      cases f y <;> rfl
theorem mapO_all {α β : Type} {f : α → Option β} : ∀ {l : List α}, (∀ x ∈ l, f x ≠ none) → ∃ ys, mapO f l = some ys
  | [], _ => ⟨[], rfl⟩
  | y :: l, h => by
    obtain ⟨ys, e⟩ := mapO_all (l := l) fun x hx => h x (List.mem_cons_of_mem _ hx)
    unfold mapO
    cases hy : f y with
    | none => exact absurd hy (h y List.mem_cons_self)
    | some z =>
      rw [e]
      exact ⟨z :: ys, rfl⟩
theorem mapO_get {α β : Type} {f : α → Option β} : ∀ {l : List α} {ys : List β} {k : Nat} {x : α}, mapO f l = some ys → l[k]? = some x → ∃ y, ys[k]? = some y ∧ f x = some y
  | [], ys, k, x, h, hx => by simp at hx
  | z :: l, ys, k, x, h, hx => by
    unfold mapO at h
    cases hz : f z with
    | none =>
      rw [hz] at h
      cases h
    | some y =>
      rw [hz] at h
      dsimp only at h
      cases hm : mapO f l with
      | none =>
        rw [hm] at h
        cases h
      | some ys' =>
        rw [hm] at h
        injection h with h
        subst h
        cases k with
        | zero =>
          have : z = x := by simpa using hx
          subst this
          exact ⟨y, rfl, hz⟩
        | succ k =>
          obtain ⟨y', e1, e2⟩ := mapO_get (k := k) hm (by simpa using hx)
          exact ⟨y', by simpa using e1, e2⟩
theorem mapO_len {α β : Type} {f : α → Option β} : ∀ {l : List α} {ys : List β}, mapO f l = some ys → ys.length = l.length
  | [], ys, h => by
    injection h with h
    subst h
    rfl
  | z :: l, ys, h => by
    unfold mapO at h
    cases hz : f z with
    | none =>
      rw [hz] at h
      cases h
    | some y =>
      rw [hz] at h
      dsimp only at h
      cases hm : mapO f l with
      | none =>
        rw [hm] at h
        cases h
      | some ys' =>
        rw [hm] at h
        injection h with h
        subst h
        rw [List.length_cons, List.length_cons, mapO_len hm]
theorem alt_len2 {α : Type} : ∀ l : List α, (alt l).length = (l.length + 1) / 2
  | [] => by simp [alt]
  | [_] => by simp [alt]
  | x :: y :: r => by
    have := alt_len2 r
    rw [alt_cons2, List.length_cons, this]
    simp only [List.length_cons]
    omega
theorem alt_mem {α : Type} : ∀ {l : List α} {x : α}, x ∈ alt l → x ∈ l
  | [], x, h => by cases h
  | [_], x, h => h
  | a :: b :: r, x, h => by
    rcases List.mem_cons.mp h with rfl | h
    · exact List.mem_cons_self
    · exact List.mem_cons_of_mem _ (List.mem_cons_of_mem _ (alt_mem h))
theorem join_nil : ∀ l : List Cs, joinL [] l = l.flatten
  | [] => rfl
  | [x] => by simp [joinL]
  | x :: y :: r => by
    rw [join_two, join_nil (y :: r)]
    rfl
theorem shT_eq (t : Trace) : shT t = shA t.1 ++ joinL [] (t.2.map fun x => q " " ++ turnS x) := by
  unfold shT
  rw [join_tail, join_nil]
  unfold tailL
  rw [List.map_map]
  rfl
theorem turn_mem {t : Trace} {x : Cs × List Cs} (h : x ∈ t.2) : turnS x ∈ shA t.1 :: t.2.map turnS := List.mem_cons_of_mem _ (List.mem_map.mpr ⟨x, h, rfl⟩)
theorem rdN_eq (w : Cs) : rdN w = if ((0 < w.length ∧ w.length ≤ 9) ∧ w.all isDig = true) ∧ (w = q "0" ∨ w.head? ≠ some 48) then some (PySem.NumText.digitsVal w) else none := by
  by_cases ha : w.all isDig = true
  · obtain ⟨e1, e2⟩ := span_app (p := isDig) (a := w) (r := []) (List.all_eq_true.mp ha) (fun _ h => by simp at h)
    rw [List.append_nil] at e1 e2
    unfold rdN number
    rw [e1, e2]
    by_cases h : (0 < w.length ∧ w.length ≤ 9) ∧ (w = q "0" ∨ w.head? ≠ some 48)
    · rw [if_pos h, if_pos ⟨⟨h.1, ha⟩, h.2⟩]
    · rw [if_neg h, if_neg (fun z => h ⟨z.1.1, z.2⟩)]
  · rw [if_neg (fun z => ha z.1.2)]
    unfold rdN
    split
    · rename_i k e
      obtain ⟨e1, _, _⟩ := number_some e
      exfalso
      apply ha
      unfold number at e
      split at e
      · injection e with e
        injection e with _ e
        rw [← List.takeWhile_append_dropWhile (p := isDig) (l := w), e, List.append_nil]
        exact List.all_eq_true.mpr (span_all w)
      · cases e
    · rfl
end M
end

section
set_option Elab.async false
set_option linter.all false
set_option maxRecDepth 100000
set_option maxHeartbeats 4000000
/-! Comprehensions over anything, the items told by a relation that tuples alone bear. -/
namespace HL
open PySem PySem.Spec PyProof.Rows L2 He
section
variable {α : Type} {R : V → α → Hp → Prop} {J : It} {g : TG} {ws : List Nat} {te : TE} {σ : L2.St} {H1 : Hp} {D : Addr} {Qd : Hp → Prop} {P : Nat → V → Hp → Prop}
theorem lcJ (cs : List α) (hD : H1 D = none) (hsz : cs.length ≤ sizeLine) (hstop : ∀ H, Same H1 H → J.stop cs.length H) (hgo : ∀ k H, k < cs.length → Same H1 H → J.go k H)
    (hy : ∀ k H x H', k < cs.length → Same H1 H → J.yld k H x H' → Same H H' ∧ P k x H') (hR : ∀ v c H H', R v c H → TupK H H' → R v c H')
    (hs : ∀ (k : Nat) x c H (Q : VK) (B : Hp → Prop), cs[k]? = some c → Same H1 H → P k x H → (∀ y H', Same H H' → R y c H' → Q y H') → g x (wipe σ ws) H fun σ2 H2 => wipe σ2 ws = wipe σ ws ∧ tYes σ2 H2 fun b H3 => if b = true then te σ2 H3 Q else B H3)
    (hd : ∀ H us, Same H1 H → H D = some (.lst us) → All2 (fun v c => R v c H) us cs → Qd H) :
    ∃ W : Nat → Nat → Hp → Prop, (∃ m, W 0 m (upd H1 D (.lst []))) ∧ ∀ j m H, W j m H →
      (J.stop j H ∧ Qd H) ∨ (J.go j H ∧ ∃ Nx : Hp → Prop, (∀ H', Nx H' → ∃ m', m' < m ∧ W (j + 1) m' H') ∧ ∀ x H', J.yld j H x H' → g x (wipe σ ws) H' fun σ2 H2 => wipe σ2 ws = wipe σ ws ∧ tYes σ2 H2 fun b H3 =>
        if b = true then te σ2 H3 fun y H4 => ∃ acc, H4 D = some (.lst acc) ∧ acc.length < sizeLine ∧ Nx (upd H4 D (.lst (acc ++ [y]))) else Nx H3) := by
  refine ⟨fun k m H => m = cs.length - k ∧ k ≤ cs.length ∧ Same H1 H ∧ ∃ us, H D = some (.lst us) ∧ All2 (fun v c => R v c H) us (cs.take k), ⟨_, rfl, Nat.zero_le _, same_new hD, [], upd_same, trivial⟩, ?_⟩
  rintro k m H ⟨rfl, hk, e, us, hl, hA⟩
  by_cases hlt : k < cs.length
  · refine .inr ⟨hgo k H hlt e, fun H' => Same H1 H' ∧ ∃ us, H' D = some (.lst us) ∧ All2 (fun v c => R v c H') us (cs.take (k + 1)), fun H' h' => ⟨cs.length - (k + 1), by omega, rfl, hlt, h'⟩, fun x H' y => ?_⟩
    obtain ⟨e1, hP⟩ := hy k H x H' hlt e y
    have hc : cs[k]? = some cs[k] := List.getElem?_eq_getElem hlt
    refine hs k x cs[k] H' _ _ hc (e.trans e1) hP fun y' H4 e4 r => ⟨us, e4 _ _ (e1 _ _ hl), ?_, ?_, us ++ [y'], upd_same, ?_⟩
    · have := hA.length
      rw [List.length_take] at this
      omega
    · exact fun b u z => by
        rw [upd_ne (ne_of_none z hD)]
        exact e4 _ _ (e1 _ _ (e _ _ z))
    · rw [take_succ' hc]
      have hl4 := e4 _ _ (e1 _ _ hl)
      have tk : TupK H4 (upd H4 D (.lst (us ++ [y']))) := (TupK.refl H4).mut hl4 (fun xs q => nomatch q)
      exact All2.snoc (R := fun v c => R v c (upd H4 D (.lst (us ++ [y'])))) (hR _ _ _ _ r tk) (hA.imp fun v c z => hR _ _ _ _ z ((TupK.of (e1.trans e4)).trans tk))
  · have ek : k = cs.length := by omega
    subst ek
    exact .inl ⟨hstop H e, hd H us e hl (by rw [List.take_length] at hA; exact hA)⟩
end
/-! ### what is walked -/
section
variable {K : PySem.W.Frag} {a : Addr} {xs : List V} {H1 : Hp}
theorem itl_stop {n : Nat} (h : SqL K H1 a xs) (hn : n = xs.length) : ∀ H, Same H1 H → (Itl K a).stop n H := fun H e => ⟨xs, e.seq h, by omega⟩
theorem itl_go {n : Nat} (h : SqL K H1 a xs) (hn : n = xs.length) : ∀ k H, k < n → Same H1 H → (Itl K a).go k H := fun k H hk e => ⟨xs, xs[k]'(by omega), e.seq h, List.getElem?_eq_getElem (by omega)⟩
theorem itl_yld {n : Nat} (h : SqL K H1 a xs) : ∀ k H x H', k < n → Same H1 H → (Itl K a).yld k H x H' → Same H H' ∧ xs[k]? = some x := fun k H x H' _ e ⟨h1, h2⟩ => ⟨h1 ▸ Same.refl _, h2 xs (e.seq h)⟩
theorem itt_stop {n : Nat} (h : SqT K H1 a xs) (hn : n = xs.length) : ∀ H, Same H1 H → (Itt K a).stop n H := fun H e => ⟨xs, tseq e h, by omega⟩
theorem itt_go {n : Nat} (h : SqT K H1 a xs) (hn : n = xs.length) : ∀ k H, k < n → Same H1 H → (Itt K a).go k H := fun k H hk e => ⟨xs, xs[k]'(by omega), tseq e h, List.getElem?_eq_getElem (by omega)⟩
theorem itt_yld {n : Nat} (h : SqT K H1 a xs) : ∀ k H x H', k < n → Same H1 H → (Itt K a).yld k H x H' → Same H H' ∧ xs[k]? = some x := fun k H x H' _ e ⟨h1, h2⟩ => ⟨h1 ▸ Same.refl _, h2 xs (tseq e h)⟩
theorem itz_stop {n : Nat} {b : Addr} {ys : List V} (h : SqL K H1 a xs) (h2 : SqL K H1 b ys) (hn : xs.length ≤ n ∨ ys.length ≤ n) : ∀ H, Same H1 H → (Itz K a b).stop n H := fun H e => ⟨xs, ys, e.seq h, e.seq h2, hn⟩
theorem itz_go {n : Nat} {b : Addr} {ys : List V} (h : SqL K H1 a xs) (h2 : SqL K H1 b ys) (hn : n ≤ xs.length ∧ n ≤ ys.length) : ∀ k H, k < n → Same H1 H → (Itz K a b).go k H := fun k H hk e => ⟨xs, ys, xs[k]'(by omega), ys[k]'(by omega), e.seq h, e.seq h2, List.getElem?_eq_getElem (by omega), List.getElem?_eq_getElem (by omega)⟩
theorem itz_yld {n : Nat} {b : Addr} {ys : List V} (h : SqL K H1 a xs) (h2 : SqL K H1 b ys) : ∀ k H x H', k < n → Same H1 H → (Itz K a b).yld k H x H' → Same H H' ∧ ∃ T u v, x = .ref T ∧ H' T = some (.tup [u, v]) ∧ xs[k]? = some u ∧ ys[k]? = some v := fun k H x H' _ e ⟨T, u, v, r, hT, hH, q1, q2⟩ => by
  subst hH
  exact ⟨same_new hT, T, u, v, r, upd_same, q1 xs (e.seq h), q2 ys (e.seq h2)⟩
/-- for i, j in ..: a pair -/
theorem pair_in {te : TE} {σ : L2.St} {H : Hp} {B : Hp → Prop} {Q : VK} {i j : Nat} {T : Addr} {x y : V} (hT : H T = some (.tup [x, y])) (h : te (((wipe σ [i, j]).set i (some x)).set j (some y)) H Q) :
    gTup K 2 (gCons (gName i) (gCons (gName j) gNil)) (.ref T) (wipe σ [i, j]) H fun σ2 H2 => wipe σ2 [i, j] = wipe σ [i, j] ∧ tYes σ2 H2 fun b H3 => if b = true then te σ2 H3 Q else B H3 := by
  refine ⟨T, [x, y], rfl, .inl (.inl hT), rfl, _, _, rfl, _, _, rfl, rfl, ?_, yes_in h⟩
  show ((((((σ.set j none).set i none).set i (some x)).set j (some y)).set j none)).set i none = (σ.set j none).set i none
  refine List.ext_getElem? fun k => ?_
  simp only [List.getElem?_set, List.length_set]
  by_cases h1 : i = k <;> by_cases h2 : j = k <;> simp [h1, h2]
theorem name_in {te : TE} {σ : L2.St} {H : Hp} {B : Hp → Prop} {Q : VK} {i : Nat} {x : V} (h : te ((wipe σ [i]).set i (some x)) H Q) :
    gName i x (wipe σ [i]) H fun σ2 H2 => wipe σ2 [i] = wipe σ [i] ∧ tYes σ2 H2 fun b H3 => if b = true then te σ2 H3 Q else B H3 := ⟨wipe1, yes_in h⟩
end
end HL
end

section
set_option Elab.async false
set_option linter.all false
set_option maxRecDepth 100000
set_option maxHeartbeats 4000000
/-! k92: traces, shown. -/
namespace K92
open PySem PySem.Spec PyProof.Rows L2 He HL
theorem all2_eq {α β : Type} {f : α → β} : ∀ {us : List β} {xs : List α}, All2 (fun v x => v = f x) us xs → us = xs.map f
  | [], [], _ => rfl
  | u :: us, x :: xs, h => by rw [List.map_cons, h.1, all2_eq h.2]
  | [], _ :: _, h => h.elim
  | _ :: _, [], h => h.elim
section
variable {w : World} {K : PySem.W.Frag} {mg : Str → Option Value} {base : Heap}
def UAt (H : Hp) (x : List Nat × List (List Nat)) (v : V) : Prop := ∃ u t, v = .ref u ∧ H u = some (.tup [.str (S x.1), .ref t]) ∧ H t = some (.tup (sV x.2))
theorem UAt.keep {H H' : Hp} {x : List Nat × List (List Nat)} {v : V} (h : UAt H x v) (e : TupK H H') : UAt H' x v := let ⟨u, t, r, h1, h2⟩ := h; ⟨u, t, r, e _ _ h1, e _ _ h2⟩
def RAt (H : Hp) (t : M.Trace) (v : V) : Prop := ∃ p t0 l us, v = .ref p ∧ H p = some (.tup [.ref t0, .ref l]) ∧ H t0 = some (.tup (sV t.1)) ∧ H l = some (.lst us) ∧ All2 (fun v x => UAt H x v) us t.2
theorem extT {H H' : Hp} (e : LamX.ExtN H H') : TupK H H' := fun b xs h => e b _ h (fun _ z => nomatch z)
theorem RAt.keep {H H' : Hp} {t : M.Trace} {v : V} (h : RAt H t v) (e : LamX.ExtN H H') : RAt H' t v := let ⟨p, t0, l, us, r, h1, h2, h3, h4⟩ := h; ⟨p, t0, l, us, r, extT e _ _ h1, extT e _ _ h2, e _ _ h3 nofun, h4.imp fun _ _ z => z.keep (extT e)⟩
theorem q_cat2 (a : List Nat) (s : String) : S a ++ Str.ofString s = S (a ++ M.q s) := q_cat a s
abbrev n_show_trace : List Str := ["trace", "turns", "step", "answers"]
theorem sc_show_trace : FnScope n_show_trace ["trace"] (defScope s_show_trace) := ⟨rfl, rfl, rfl, by decide +kernel, rfl, by decide +kernel, by decide +kernel⟩
theorem bi_show_trace : ∀ (kV doc pm : Value) (an : Option Addr) (cdv ct : Value) (us : List Value), us.length = 1 → bindArgs (PySem.W.fnOf d_show_trace.name d_show_trace.qual d_show_trace.params d_show_trace.body d_show_trace.scope .none kV doc pm an cdv ct) ⟨us, []⟩ = pure ([("trace" : Str)].zip us) := fun kV doc pm an cdv ct us hu => by
  match us, hu with
  | [u0], _ => rfl
def spShT : Sp := fun vs H Q _ => ∃ v t, vs = [v] ∧ RAt H t v ∧ (M.shT t).length ≤ 50000 ∧ ∀ H', Same H H' → Q (.str (S (M.shT t))) H'
theorem shA_le {t : M.Trace} (hl : (M.shT t).length ≤ 50000) : (M.shA t.1).length ≤ 50000 := by
  have := len_j (b := M.q " ") (ys := M.shA t.1 :: t.2.map M.turnS) (y := M.shA t.1) List.mem_cons_self
  have e : M.shT t = TL.joinL (M.q " ") (M.shA t.1 :: t.2.map M.turnS) := rfl
  rw [← e] at this
  omega
theorem turn_le {t : M.Trace} {x : List Nat × List (List Nat)} (hl : (M.shT t).length ≤ 50000) (hx : x ∈ t.2) : (M.turnS x).length ≤ 50000 ∧ (M.shA x.2).length ≤ 50000 ∧ x.1.length ≤ 50000 := by
  have := len_j (b := M.q " ") (M.turn_mem hx)
  have e : M.shT t = TL.joinL (M.q " ") (M.shA t.1 :: t.2.map M.turnS) := rfl
  rw [← e] at this
  have e2 : (M.turnS x).length = x.1.length + (2 + (M.shA x.2).length) := by
    unfold M.turnS
    rw [List.length_append, List.length_append, show (M.q "> ").length = 2 by decide]
  omega
theorem many_le {t : M.Trace} (hl : (M.shT t).length ≤ 50000) : t.2.length ≤ 50001 := by
  have z := joinL_len (M.q " ") (M.shA t.1 :: t.2.map M.turnS)
  have e : M.shT t = TL.joinL (M.q " ") (M.shA t.1 :: t.2.map M.turnS) := rfl
  rw [← e, show (M.q " ").length = 1 by decide] at z
  simp only [List.length_cons, List.length_map, List.map_cons, List.sum_cons] at z
  omega
theorem o_show_trace (W : Wl K mg) : OkD w K mg base CX0 2 d_show_trace ["trace"] spShT := by
  have O_show_answers := o_show_answers (w := w) (base := base) W
  refine HL.ok_of0 W.D_show_trace sc_show_trace (fun vs H Q E ⟨_, _, h, _⟩ => by rw [h]; rfl) bi_show_trace fun cdv A outer s H vs Q E hr h => ?_
  have nd := sc_show_trace.nd
  refine ⟨_, (pss_cons (ps_setLc (i := 1) (own := [("step", 2), ("answers", 3)]) (g := (gTup _ 2 (gCons (gName 2) (gCons (gName 3) gNil)))) (tt := tYes) rfl nd rfl rfl (sw_true rfl rfl rfl (by decide +kernel)) (pi_list (pe_ix ix_tup (pv 0) pe_int (fun _ _ => rfl))) (blkOk_by (own := [("step", 2), ("answers", 3)]) (N := n_show_trace) (sc := defScope s_show_trace) (by decide +kernel)) (fun _ _ _ _ _ => pg_tup (by rfl) (pgs_cons (pg_name (i := 2) nd rfl (Or.inl rfl)) (pgs_cons (pg_name (i := 3) nd rfl (Or.inl rfl)) pgs_nil))) (fun _ _ _ _ _ => pts_nil) (fun _ _ _ _ _ => (pe_op op_add_str (pe_op op_add_str (pv 2) pe_str) (pe_cal O_show_answers (hr.mono (by omega)) W.g_show_answers pass0 (pa_cons (pv 3) pa_nil)))))
    (pss_one (ps_ret (pe_join pe_str (pe_lst (pa_cons (pe_cal O_show_answers (hr.mono (by omega)) W.g_show_answers pass0 (pa_cons (pe_ix ix_tup (pv 0) pe_int (fun _ _ => rfl)) pa_nil)) (StX.pa_star (pv 1) pa_nil))))))), ?_⟩
  obtain ⟨v, t, rfl, ⟨p, t0, l, us, rfl, hp, ht0, hl, hA⟩, hlen, hq⟩ := h
  refine ⟨_, rfl, p, _, _, _, rfl, rfl, sqt hp, at1, l, rfl, ⟨_, sql hl⟩, fun D hD => ?_⟩
  refine lcJ (R := fun v x H => v = V.str (S (M.turnS x))) t.2 hD (small (by have := many_le hlen; omega)) (itl_stop (sql hl) hA.length.symm) (itl_go (sql hl) hA.length.symm) (itl_yld (sql hl)) (fun _ _ _ _ z _ => z) (fun k x c H1 Q1 B hc e hx hq1 => ?_) fun H1 vs e1 hD1 hvs => ?_
  · obtain ⟨v, hv, u, t, rfl, hu, ht⟩ := hA.getR hc
    rw [hx] at hv
    cases hv
    obtain ⟨b1, b2, b3⟩ := turn_le hlen (List.mem_of_getElem? hc)
    refine pair_in (e _ _ hu) ⟨_, rfl, _, _, rfl, rfl, ?_, _, rfl, t, c.2, rfl, e _ _ ht, by omega, fun H2 e2 => ⟨_, _, rfl, rfl, ?_, ?_⟩⟩
    · rw [ofq, S_len, S_len]
      refine small ?_
      show c.1.length + (M.q "> ").length ≤ _
      rw [show (M.q "> ").length = 2 by decide]
      omega
    · rw [q_cat2, S_len, S_len, List.length_append, show (M.q "> ").length = 2 by decide]
      exact small (by omega)
    · rw [q_cat2, S_cat, List.append_assoc]
      exact hq1 _ _ e2 rfl
  · have hvs := all2_eq hvs
    subst hvs
    dsimp only [gName]
    refine ⟨⟨_, rfl⟩, _, rfl, p, _, _, _, rfl, rfl, sqt (e1 _ _ hp), at0, t0, t.1, rfl, e1 _ _ ht0, by have := shA_le hlen; omega, fun H2 e2 => ?_⟩
    refine ⟨_, rfl, D, _, rfl, .inr (sql (e2 _ _ hD1)), ?_, fun m hm => ?_⟩
    · have := many_le hlen
      show (V.str (S (M.shA t.1)) :: (t.2.map (fun x => V.str (S (M.turnS x))) ++ [])).length ≤ sizeLine
      rw [List.append_nil, List.length_cons, List.length_map]
      exact small (by omega)
    · have e5 : (V.str (S (M.shA t.1)) :: (t.2.map (fun x => V.str (S (M.turnS x))) ++ [])) = ((M.shA t.1 :: t.2.map M.turnS).map S).map V.str := by
        rw [List.append_nil, List.map_cons, List.map_cons, List.map_map, List.map_map]
        rfl
      refine ⟨_, m, (M.shA t.1 :: t.2.map M.turnS).map S, rfl, rfl, .inl (sql (by rw [upd_same, ← e5])), ?_, ?_⟩
      · refine join_ok (c := 32) (by decide) ?_
        have : TL.joinL [32] (M.shA t.1 :: t.2.map M.turnS) = M.shT t := rfl
        rw [this]
        omega
      · rw [join_one (c := 32) (by decide)]
        exact hq _ (HL.Same.new (e1.trans e2) hm)
abbrev n_law_trace_text : List Str := ["_law_trace", "_law_turns", "_law_step", "_law_answers"]
theorem sc_law_trace_text : FnScope n_law_trace_text ["_law_trace"] (defScope s_law_trace_text) := ⟨rfl, rfl, rfl, by decide +kernel, rfl, by decide +kernel, by decide +kernel⟩
theorem bi_law_trace_text : ∀ (kV doc pm : Value) (an : Option Addr) (cdv ct : Value) (us : List Value), us.length = 1 → bindArgs (PySem.W.fnOf d_law_trace_text.name d_law_trace_text.qual d_law_trace_text.params d_law_trace_text.body d_law_trace_text.scope .none kV doc pm an cdv ct) ⟨us, []⟩ = pure ([("_law_trace" : Str)].zip us) := fun kV doc pm an cdv ct us hu => by
  match us, hu with
  | [u0], _ => rfl
theorem o_lttext (W : Wl K mg) : OkD w K mg base CX0 2 d_law_trace_text ["_law_trace"] spShT := by
  have O__law_answers_text := o_latext (w := w) (base := base) W
  refine HL.ok_of0 W.D_law_trace_text sc_law_trace_text (fun vs H Q E ⟨_, _, h, _⟩ => by rw [h]; rfl) bi_law_trace_text fun cdv A outer s H vs Q E hr h => ?_
  have nd := sc_law_trace_text.nd
  refine ⟨_, (pss_cons (ps_setLc (i := 1) (own := [("_law_step", 2), ("_law_answers", 3)]) (g := (gTup _ 2 (gCons (gName 2) (gCons (gName 3) gNil)))) (tt := tYes) rfl nd rfl rfl (sw_true rfl rfl rfl (by decide +kernel)) (pi_list (pe_ix ix_tup (pv 0) pe_int (fun _ _ => rfl))) (blkOk_by (own := [("_law_step", 2), ("_law_answers", 3)]) (N := n_law_trace_text) (sc := defScope s_law_trace_text) (by decide +kernel)) (fun _ _ _ _ _ => pg_tup (by rfl) (pgs_cons (pg_name (i := 2) nd rfl (Or.inl rfl)) (pgs_cons (pg_name (i := 3) nd rfl (Or.inl rfl)) pgs_nil))) (fun _ _ _ _ _ => pts_nil) (fun _ _ _ _ _ => (pe_op op_add_str (pe_op op_add_str (pe_op op_add_str pe_str (pv 2)) pe_str) (pe_cal O__law_answers_text (hr.mono (by omega)) W.g__law_answers_text pass0 (pa_cons (pv 3) pa_nil)))))
    (pss_one (ps_ret (pe_op op_add_str (pe_cal O__law_answers_text (hr.mono (by omega)) W.g__law_answers_text pass0 (pa_cons (pe_ix ix_tup (pv 0) pe_int (fun _ _ => rfl)) pa_nil)) (pe_join pe_str (pv 1)))))), ?_⟩
  obtain ⟨v, t, rfl, ⟨p, t0, l, us, rfl, hp, ht0, hl, hA⟩, hlen, hq⟩ := h
  refine ⟨_, rfl, p, _, _, _, rfl, rfl, sqt hp, at1, l, rfl, ⟨_, sql hl⟩, fun D hD => ?_⟩
  refine lcJ (R := fun v x H => v = V.str (S (M.q " " ++ M.turnS x))) t.2 hD (small (by have := many_le hlen; omega)) (itl_stop (sql hl) hA.length.symm) (itl_go (sql hl) hA.length.symm) (itl_yld (sql hl)) (fun _ _ _ _ z _ => z) (fun k x c H1 Q1 B hc e hx hq1 => ?_) fun H1 vs e1 hD1 hvs => ?_
  · obtain ⟨v, hv, u, t, rfl, hu, ht⟩ := hA.getR hc
    rw [hx] at hv
    cases hv
    obtain ⟨b1, b2, b3⟩ := turn_le hlen (List.mem_of_getElem? hc)
    have l1 : (M.q " ").length = 1 := by decide
    have l2 : (M.q "> ").length = 2 := by decide
    refine pair_in (e _ _ hu) ⟨_, rfl, _, _, rfl, rfl, ?_, _, _, rfl, rfl, ?_, _, rfl, t, c.2, rfl, e _ _ ht, by omega, fun H2 e2 => ⟨_, _, rfl, rfl, ?_, ?_⟩⟩
    · rw [oq, S_len, S_len, l1]
      exact small (by omega)
    · rw [cat_q2, oq, S_len, S_len, List.length_append, l1, l2]
      exact small (by omega)
    · rw [cat_q2, q_cat2, S_len, S_len, List.length_append, List.length_append, l1, l2]
      exact small (by omega)
    · rw [cat_q2, q_cat2, S_cat]
      have e5 : M.q " " ++ c.1 ++ M.q "> " ++ M.shA c.2 = M.q " " ++ M.turnS c := by
        unfold M.turnS
        simp only [List.append_assoc]
      rw [e5]
      exact hq1 _ _ e2 rfl
  · have hvs := all2_eq hvs
    subst hvs
    dsimp only [gName]
    have hlen2 := hlen
    rw [M.shT_eq, List.length_append] at hlen2
    refine ⟨_, rfl, p, _, _, _, rfl, rfl, sqt (e1 _ _ hp), at0, t0, t.1, rfl, e1 _ _ ht0, by omega, fun H2 e2 => ?_⟩
    have e5 : t.2.map (fun x => V.str (S (M.q " " ++ M.turnS x))) = ((t.2.map fun x => M.q " " ++ M.turnS x).map S).map V.str := by
      rw [List.map_map, List.map_map]
      rfl
    have e0 : Str.ofString "" = S [] := by
      rw [ofq]
      rfl
    rw [e5] at hD1
    refine ⟨⟨_, rfl⟩, _, rfl, _, D, (t.2.map fun x => M.q " " ++ M.turnS x).map S, rfl, rfl, .inl (sql (e2 _ _ hD1)), ?_, _, _, rfl, rfl, ?_, ?_⟩
    · have z := joinL_len [] (t.2.map fun x => M.q " " ++ M.turnS x)
      rw [SX.lens, e0, S_len]
      simp only [List.length_nil, Nat.mul_zero, Nat.add_zero] at z ⊢
      omega
    · rw [e0, SX.join_S, S_len, S_len]
      exact small (by omega)
    · rw [e0, SX.join_S, S_cat, ← M.shT_eq]
      exact hq _ (e1.trans e2)
end
end K92
end

section
set_option Elab.async false
set_option linter.all false
set_option maxRecDepth 100000
set_option maxHeartbeats 4000000
/-! k92: traces, read. -/
namespace K92
open PySem PySem.Spec PyProof.Rows L2 He HL
theorem cut_last (s : List Nat) : cutS (S s) (some (-1)) none = S (s.drop (s.length - 1)) := by
  unfold cutS
  rw [show (S s).length = s.length from S_len s, HT.sIx_none]
  have e : HT.sIx s.length 0 (some (-1)) = s.length - 1 := by
    show (if (-1 : Int) < 0 then ((-1 : Int) + (s.length : Int)).toNat else min (-1 : Int).toNat s.length) = _
    rw [if_pos (by decide)]
    omega
  rw [e]
  show S ((s.drop _).take _) = _
  congr 1
  exact List.take_of_length_le (by rw [List.length_drop]; omega)
theorem cut_but (s : List Nat) : cutS (S s) none (some (-1)) = S (s.take (s.length - 1)) := by
  unfold cutS
  rw [show (S s).length = s.length from S_len s, HT.sIx_none]
  have e : HT.sIx s.length s.length (some (-1)) = s.length - 1 := by
    show (if (-1 : Int) < 0 then ((-1 : Int) + (s.length : Int)).toNat else min (-1 : Int).toNat s.length) = _
    rw [if_pos (by decide)]
    omega
  rw [e]
  show S ((s.drop 0).take _) = _
  rw [List.drop_zero, Nat.sub_zero]
theorem fm2 (n : Nat) : ((n : Nat) : Int).fmod 2 = ((n % 2 : Nat) : Int) := by
  rw [Int.fmod_eq_emod_of_nonneg _ (by decide)]
  omega
theorem fitsL {z : Int} (h1 : 0 ≤ z) (h2 : z ≤ 2000000) : Builtin.Range.rangeFitsLong z = true := by
  unfold Builtin.Range.rangeFitsLong
  rw [Bool.and_eq_true, decide_eq_true_iff, decide_eq_true_iff]
  omega
theorem rgc2 {n k : Nat} (hn : n = 2 * k + 1) (hs : n ≤ 1000000) : RgC 1 (n : Int) 2 k := by
  have e : Builtin.Range.rangeSize 1 (n : Int) 2 = (k : Int) := by
    unfold Builtin.Range.rangeSize
    rw [if_pos (by decide)]
    by_cases h : (1 : Int) < (n : Int)
    · rw [if_pos h]
      omega
    · rw [if_neg h]
      omega
  refine ⟨by decide, by decide, ?_, e⟩
  unfold Builtin.Range.small
  rw [e, if_pos (show (2 : Int) > 0 by decide), fitsL (z := 1) (by decide) (by decide), fitsL (z := (n : Int)) (by omega) (by omega), fitsL (z := 2) (by decide) (by decide), fitsL (z := (k : Int)) (by omega) (by omega), fitsL (z := (n : Int) + (2 - 1)) (by omega) (by omega), Bool.or_true]
  rfl
section
variable {w : World} {K : PySem.W.Frag} {mg : Str → Option Value} {base : Heap}
abbrev n_read_trace : List Str := ["text", "words", "turns", "at", "found"]
theorem sc_read_trace : FnScope n_read_trace ["text"] (defScope s_read_trace) := ⟨rfl, rfl, rfl, by decide +kernel, rfl, by decide +kernel, by decide +kernel⟩
theorem bi_read_trace : ∀ (kV doc pm : Value) (an : Option Addr) (cdv ct : Value) (us : List Value), us.length = 1 → bindArgs (PySem.W.fnOf d_read_trace.name d_read_trace.qual d_read_trace.params d_read_trace.body d_read_trace.scope .none kV doc pm an cdv ct) ⟨us, []⟩ = pure ([("text" : Str)].zip us) := fun kV doc pm an cdv ct us hu => by
  match us, hu with
  | [u0], _ => rfl
def spRdT (K : PySem.W.Frag) : Sp := fun vs H Q E => ∃ v, vs = [v] ∧ ((∃ s, v = .str (S s) ∧ s.length ≤ 10000 ∧ s.count 43 < 63 ∧ (M.rdT s = none → ∀ H', Same H H' → E (.ref (CN K)) none H') ∧
  (∀ t, M.rdT s = some t → ∀ p t0 l us H', Same H H' → H l = none → H' p = some (.tup [.ref t0, .ref l]) → H' t0 = some (.tup (sV t.1)) → H' l = some (.lst us) → All2 (fun v x => UAt H' x v) us t.2 → Q (.ref p) H')) ∨ (NoStr K H v ∧ E (.ref (CN K)) none H))
theorem o_read_trace (W : Wl K mg) : OkD w K mg base (CXN w) 4 d_read_trace ["text"] (spRdT K) := by
  refine HL.ok_of W.D_read_trace sc_read_trace (fun vs H Q E ⟨_, h, _⟩ => by rw [h]; rfl) bi_read_trace fun cdv A outer s H vs Q E hr h => ?_
  have tk := takes_of (X := cxOf (CXN w) P0 w K mg base n_read_trace d_read_trace.qual d_read_trace.scope (fAd K d_read_trace.at_) cdv A outer s H E) rfl rfl rfl rfl
  have nd := sc_read_trace.nd
  have O_need := o_need (w := w) (base := base) W
  have O_need_text := o_need_text (w := w) (base := base) W
  have O_is_name := o_is_name (w := w) (base := base) W
  have O_read_answers := o_read_answers (w := w) (base := base) W
  have O_show_trace := o_show_trace (w := w) (base := base) W
  refine ⟨_, (pss_cons (ps_expr (pe_cal O_need_text (hr.mono (by omega)) W.g_need_text (passes_call tk (fun _ _ _ _ h => h)) (pa_cons (pv 0) pa_nil)))
    (pss_cons (ps_set (i := 1) nd rfl (Or.inl rfl) (pe_split (pv 0) pe_str))
    (pss_cons (ps_expr (pe_cal O_need (hr.mono (by omega)) W.g_need (passes_call tk (fun _ _ _ _ h => h)) (pa_cons (pe_cmpR op_eq (pe_op op_modN (pe_callTy call_int1 (by rfl) W.f_int (by decide +kernel) (pa_cons (pe_callB call_len_seq (by rfl) W.f_len (by decide +kernel) (pa_cons (pv 1) pa_nil)) pa_nil)) pe_int) pe_int (nomark _)) pa_nil)))
    (pss_cons (ps_set (i := 2) nd rfl (Or.inl rfl) (pe_lst pa_nil))
    (pss_cons (ps_for (passes_of rfl) rfl (pi_range3 (by rfl) W.f_range (pa_cons pe_int (pa_cons (pe_callB call_len_seq (by rfl) W.f_len (by decide +kernel) (pa_cons (pv 1) pa_nil)) (pa_cons pe_int pa_nil)))) (pg_name (i := 3) nd rfl (Or.inl rfl)) (pss_cons (ps_expr (pe_cal O_need (hr.mono (by omega)) W.g_need (passes_call tk (fun _ _ _ _ h => h)) (pa_cons (pe_and (pe_cmpR op_eq (pe_slice sl_str (pe_ix ix_list (pv 1) (pv 3) (fun _ _ => rfl)) (po_some (pe_un un_neg pe_int)) po_none) pe_str (nomark _)) (pe_one (pe_cal O_is_name (hr.mono (by omega)) W.g_is_name pass0 (pa_cons (pe_slice sl_str (pe_ix ix_list (pv 1) (pv 3) (fun _ _ => rfl)) po_none (po_some (pe_un un_neg pe_int))) pa_nil)))) pa_nil)))
      (pss_one (ps_expr (pe_bm PySem.F.plainAttrs_list PySem.F.slot_list_append PySem.F.type_list_append mt_append (pv 2) (pa_cons (pe_tup (pa_cons (pe_slice sl_str (pe_ix ix_list (pv 1) (pv 3) (fun _ _ => rfl)) po_none (po_some (pe_un un_neg pe_int))) (pa_cons (pe_cal O_read_answers (hr.mono (by omega)) W.g_read_answers (passes_call tk (fun _ _ _ _ h => h)) (pa_cons (pe_ix ix_list (pv 1) (pe_op op_add (pv 3) pe_int) (fun _ _ => rfl)) pa_nil)) pa_nil))) pa_nil))))))
    (pss_cons (ps_set (i := 4) nd rfl (Or.inl rfl) (pe_tup (pa_cons (pe_cal O_read_answers (hr.mono (by omega)) W.g_read_answers (passes_call tk (fun _ _ _ _ h => h)) (pa_cons (pe_ix ix_list (pv 1) pe_int (fun _ _ => rfl)) pa_nil)) (pa_cons (pv 2) pa_nil))))
    (pss_cons (ps_expr (pe_cal O_need (hr.mono (by omega)) W.g_need (passes_call tk (fun _ _ _ _ h => h)) (pa_cons (pe_cmpR op_eq (pe_cal O_show_trace (hr.mono (by omega)) W.g_show_trace pass0 (pa_cons (pv 4) pa_nil)) (pv 0) (nomark _)) pa_nil)))
    (pss_one (ps_ret (pv 4)))))))))), ?_⟩
  obtain ⟨v, rfl, ⟨s, rfl, hs, hc, hF, hQ⟩ | ⟨hno, hE⟩⟩ := h
  rotate_left
  · exact ⟨_, rfl, _, rfl, .inr ⟨hno, hE⟩⟩
  refine ⟨_, rfl, _, rfl, .inl ⟨_, rfl, ?_⟩⟩
  dsimp only
  refine ⟨_, rfl, ⟨_, rfl⟩, _, _, rfl, rfl, len_one (c := 32) (by decide), by rw [S_len]; exact small (by omega), fun l hl => ?_⟩
  rw [split_one (c := 32) (by decide) (by decide), ← sV_str]
  have s1 := same_new (o := .lst (sV (M.sp 32 s))) hl
  have hl1 : upd H l (.lst (sV (M.sp 32 s))) l = some (.lst (sV (M.sp 32 s))) := upd_same
  generalize upd H l (.lst (sV (M.sp 32 s))) = H1 at s1 hl1 ⊢
  dsimp only [gName]
  obtain ⟨w0, ws, hw⟩ := List.exists_cons_of_ne_nil (M.sp_ne 32 s)
  have rd := M.rdT_cons hw
  have wl : ∀ x ∈ M.sp 32 s, x.length ≤ 10000 ∧ x.count 43 < 63 := fun x hx => by
    have a1 := sp_each hx
    have a2 := sp_count (d := 43) hx
    omega
  have hlen : (M.sp 32 s).length ≤ 10001 := by
    have := M.sp_len 32 s
    have := List.count_le_length (a := 32) (l := s)
    omega
  rw [hw] at hl1 wl hlen
  simp only [List.length_cons] at hlen
  have ll : ((sV (w0 :: ws)).length : Int) = ((ws.length + 1 : Nat) : Int) := by simp
  have key : ∀ z : Int, z = ((ws.length + 1 : Nat) : Int) → (V.int (z.fmod 2) = V.int 1 ↔ ws.length % 2 = 0) := fun z hz => by
    rw [hz, fm2]
    exact ⟨fun z => by injection z with z; omega, fun z => by rw [show (ws.length + 1) % 2 = 1 by omega]; rfl⟩
  refine ⟨_, rfl, l, _, rfl, .inl (sql hl1), .inl ⟨_, rfl, _, _, rfl, rfl, by show (2 : Int) ≠ 0; decide, rfl, _, rfl, fun hk => ?_, fun hk => ?_⟩⟩
  rotate_left
  · have hk : ¬ ws.length % 2 = 0 := fun z => of_decide_eq_false hk ((key _ ll).mpr z)
    refine hF ?_ _ s1
    rw [rd, M.trW_odd ws (by omega)]
    cases M.rdA w0 <;> rfl
  have hev : ws.length % 2 = 0 := (key _ ll).mp (of_decide_eq_true hk)
  obtain ⟨m, hm⟩ : ∃ m, ws.length = 2 * m := ⟨ws.length / 2, by omega⟩
  refine ⟨by decide, fun L hL => ?_⟩
  have hLH : H L = none := s1.free hL
  have nLl : L ≠ l := (ne_of_none hl1 hL).symm
  dsimp only [gName]
  refine ⟨_, rfl, l, _, rfl, .inl (sql (same_new hL _ _ hl1)), 1, _, 2, m, rfl, by rw [ll]; exact rgc2 (by omega) (by omega), ?_⟩
  refine for_rangeC (lo := 1) (c := 2) (n := m) (fun i σ Hi => ∃ x3, σ = [some (.str (S s)), some (.ref l), some (.ref L), x3, none] ∧ Same H Hi ∧ Hi l = some (.lst (sV (w0 :: ws))) ∧ ∃ us ts, Hi L = some (.lst us) ∧ us.length = i ∧ M.trW (ws.take (2 * i)) = some ts ∧ All2 (fun v x => UAt Hi x v) us ts)
    ⟨none, rfl, HL.Same.new s1 hL, same_new hL _ _ hl1, [], [], upd_same, rfl, rfl, trivial⟩ ?_ ?_
  · rintro i σ Hi hi ⟨x3, rfl, si, hli, us, ts, hLi, hul, hts, hA⟩
    obtain ⟨st, hst⟩ : ∃ st, ws[2 * i]? = some st := ⟨_, List.getElem?_eq_getElem (by omega)⟩
    obtain ⟨an, han⟩ : ∃ an, ws[2 * i + 1]? = some an := ⟨_, List.getElem?_eq_getElem (by omega)⟩
    have ix1 : atI (sV (w0 :: ws)) (1 + (i : Int) * 2) = some (.str (S st)) := by
      rw [show 1 + (i : Int) * 2 = ((2 * i + 1 : Nat) : Int) by omega]
      exact atI_nat (by simp [hst])
    have ix2 : atI (sV (w0 :: ws)) (1 + (i : Int) * 2 + 1) = some (.str (S an)) := by
      rw [show 1 + (i : Int) * 2 + 1 = ((2 * i + 2 : Nat) : Int) by omega]
      exact atI_nat (by simp [han])
    have m1 := wl st (List.mem_cons_of_mem _ (List.mem_of_getElem? hst))
    have m2 := wl an (List.mem_cons_of_mem _ (List.mem_of_getElem? han))
    have stl : (S st).length ≤ sizeLine := by rw [S_len]; exact small (by omega)
    have cut : ws = ws.take (2 * i) ++ st :: an :: ws.drop (2 * i + 2) := by
      conv => lhs; rw [← List.take_append_drop (2 * i) ws]
      congr 1
      rw [List.drop_eq_getElem_cons (show 2 * i < ws.length by omega), List.drop_eq_getElem_cons (show 2 * i + 1 < ws.length by omega)]
      rw [List.getElem?_eq_getElem (by omega)] at hst han
      injection hst with hst
      injection han with han
      rw [hst, han]
    have lt2 : (ws.take (2 * i)).length % 2 = 0 := by
      rw [List.length_take]
      omega
    have fail : ∀ H', Same H H' → (M.stp st = none ∨ M.rdA an = none) → E (.ref (CN K)) none H' := fun H' e' h => hF (by
      rw [rd, cut, M.trW_fail lt2 h]
      cases M.rdA w0 <;> rfl) H' e'
    dsimp only [gName]
    refine ⟨_, rfl, _, rfl, l, _, _, _, rfl, rfl, sql hli, ix1, 1, rfl, -1, rfl, _, rfl, stl, ?_⟩
    rw [cut_last]
    refine ⟨rfl, _, rfl, ?_⟩
    rw [sq ">", dec_S]
    by_cases hg : st.drop (st.length - 1) = M.q ">"
    rotate_left
    · refine iteE false (decide_eq_false hg) (iteF ⟨_, rfl, nofun, fun _ => fail _ si (.inl ?_)⟩)
      unfold M.stp
      rw [if_neg (fun z => hg z.1)]
    refine iteE true (decide_eq_true hg) (iteT ?_)
    refine ⟨_, rfl, _, rfl, l, _, _, _, rfl, rfl, sql hli, ix1, 1, rfl, -1, rfl, _, rfl, stl, ?_⟩
    rw [cut_but]
    refine ⟨_, rfl, by rw [List.length_take]; omega, fun H2 e2 => ⟨_, rfl, fun hk => ?_, fun hk => ?_⟩⟩
    rotate_left
    · refine fail _ (si.trans e2) (.inl ?_)
      unfold M.stp
      rw [if_neg (fun z => by
        have z2 : M.nmB _ = true := z.2
        unfold M.nmB at z2
        rw [hk] at z2
        cases z2)]
    have hstp : M.stp st = some (st.take (st.length - 1)) := by
      unfold M.stp
      rw [if_pos ⟨hg, hk⟩]
    have hli2 := e2 _ _ hli
    dsimp only
    refine ⟨_, rfl, .inl ⟨rfl, _, sql (e2 _ _ hLi)⟩, _, rfl, _, rfl, l, _, _, _, rfl, rfl, sql hli2, ix1, 1, rfl, -1, rfl, _, rfl, stl, ?_⟩
    rw [cut_but]
    refine ⟨_, rfl, _, rfl, _, _, rfl, rfl, l, _, _, _, rfl, rfl, sql hli2, ix2, _, rfl, .inl ⟨an, rfl, m2.1, m2.2, fun hn H' e' => fail _ ((si.trans e2).trans e') (.inr hn), fun ns hns u H3 e3 hAt => ⟨by show 2 ≤ sizeLine; decide, fun T hT => ?_⟩⟩⟩
    obtain ⟨ta, rfl, hta⟩ := hAt
    have e4 := same_new (o := .tup [V.str (S (st.take (st.length - 1))), .ref ta]) hT
    have s4 := ((si.trans e2).trans e3).trans e4
    have hL4 := e4 _ _ (e3 _ _ (e2 _ _ hLi))
    have hl4 := e4 _ _ (e3 _ _ (e2 _ _ hli))
    have hta4 := e4 _ _ hta
    have hT4 : upd H3 T (.tup [V.str (S (st.take (st.length - 1))), .ref ta]) T = some (.tup [V.str (S (st.take (st.length - 1))), .ref ta]) := upd_same
    have tk0 : TupK Hi (upd H3 T (.tup [V.str (S (st.take (st.length - 1))), .ref ta])) := .of ((e2.trans e3).trans e4)
    generalize upd H3 T (.tup [V.str (S (st.take (st.length - 1))), .ref ta]) = H4 at e4 s4 hL4 hl4 hta4 hT4 tk0 ⊢
    have tk1 : TupK H4 (upd H4 L (.lst (us ++ [.ref T]))) := (TupK.refl H4).mut hL4 (fun xs q => nomatch q)
    refine ⟨L, us, _, rfl, rfl, hL4, ?_, ?_⟩
    · exact Nat.lt_of_lt_of_le (show us.length < 1000000 by omega) (by decide)
    refine ⟨_, rfl, HL.Same.mut s4 hLH, by rw [upd_ne nLl.symm]; exact hl4, us ++ [.ref T], ts ++ [(st.take (st.length - 1), ns)], upd_same, by rw [List.length_append, hul]; rfl, ?_, ?_⟩
    · have t2 : ws.take (2 * (i + 1)) = ws.take (2 * i) ++ [st, an] := by
        rw [show 2 * (i + 1) = 2 * i + 1 + 1 by omega, take_succ' han, take_succ' hst, List.append_assoc]
        rfl
      rw [t2]
      exact M.trW_snoc hts hstp hns lt2
    · exact All2.snoc (R := fun v x => UAt (upd H4 L (.lst (us ++ [.ref T]))) x v) (b := (st.take (st.length - 1), ns)) ⟨T, ta, rfl, tk1 _ _ hT4, tk1 _ _ hta4⟩ (hA.imp fun v x z => z.keep (tk0.trans tk1))
  · rintro σ Hi ⟨x3, rfl, si, hli, us, ts, hLi, hul, hts, hA⟩
    have ht : M.trW ws = some ts := by
      rw [List.take_of_length_le (by omega)] at hts
      exact hts
    have m0 := wl w0 List.mem_cons_self
    dsimp only
    refine ⟨_, rfl, l, _, _, _, rfl, rfl, sql hli, at0, _, rfl, .inl ⟨w0, rfl, m0.1, m0.2, fun hn H' e' => hF (by rw [rd, hn]; rfl) _ (si.trans e'), fun ns hns u H3 e3 hAt => ⟨_, rfl, by show 2 ≤ sizeLine; decide, fun p hp => ?_⟩⟩⟩
    obtain ⟨ta, rfl, hta⟩ := hAt
    have hrd : M.rdT s = some (ns, ts) := by rw [rd, hns, ht]; rfl
    have e4 := same_new (o := .tup [V.ref ta, .ref L]) hp
    have e04 := e3.trans e4
    have hsh := (M.rdT_sh hrd).1
    have hp4 : upd H3 p (.tup [V.ref ta, .ref L]) p = some (.tup [V.ref ta, .ref L]) := upd_same
    have hta4 := e4 _ _ hta
    have hL4 := e04 _ _ hLi
    have hA4 : All2 (fun v x => UAt (upd H3 p (.tup [V.ref ta, .ref L])) x v) us ts := hA.imp fun v x z => z.keep (.of e04)
    have s4 := si.trans e04
    generalize upd H3 p (.tup [V.ref ta, .ref L]) = H4 at hp4 hta4 hL4 hA4 s4 ⊢
    dsimp only [gName]
    refine ⟨_, rfl, _, (ns, ts), rfl, ⟨p, ta, L, us, rfl, hp4, hta4, hL4, hA4⟩, by rw [hsh]; omega, fun H5 e5 => ⟨_, rfl, rfl, _, rfl, fun _ => ?_, fun hk => ?_⟩⟩
    · exact ⟨_, rfl, hQ _ hrd p ta L us H5 (s4.trans e5) hLH (e5 _ _ hp4) (e5 _ _ hta4) (e5 _ _ hL4) (hA4.imp fun v x z => z.keep (.of e5))⟩
    · rw [hsh, dec_S] at hk
      exact absurd rfl (of_decide_eq_false hk)
end
end K92
end

section
set_option Elab.async false
set_option linter.all false
set_option maxRecDepth 100000
set_option maxHeartbeats 4000000
/-! k92: the law's traces. -/
namespace K92
open PySem PySem.Spec PyProof.Rows L2 He HL
open XP (alt)
theorem all2_idx {α β γ : Type} {R : α → β → Prop} {R' : α → γ → Prop} : ∀ {us : List α} {xs : List β} {ys : List γ}, All2 R us xs → xs.length = ys.length → (∀ (k : Nat) v x y, xs[k]? = some x → ys[k]? = some y → R v x → R' v y) → All2 R' us ys
  | [], [], [], _, _, _ => trivial
  | [], [], _ :: _, _, h, _ => by simp at h
  | u :: us, x :: xs, [], _, h, _ => by simp at h
  | u :: us, x :: xs, y :: ys, h, hl, f => ⟨f 0 u x y rfl rfl h.1, all2_idx h.2 (by simpa using hl) fun k v x y h1 h2 => f (k + 1) v x y (by simpa using h1) (by simpa using h2)⟩
  | [], _ :: _, _, h, _, _ => h.elim
  | _ :: _, [], _, h, _, _ => h.elim
theorem units_ok {u n m : Nat} (h : u + 64 < cLine) (hm : m ≤ 20) : u + 1 + min n m < cLine := by
  have := Nat.min_le_right n m
  omega
section
variable {w : World} {K : PySem.W.Frag} {mg : Str → Option Value} {base : Heap}
theorem Due.keep {α : Type} {At : Hp → α → V → Prop} {H H' : Hp} {u : Addr} {r : Option α} (h : Due At H u r) (e : TupK H H') (hk : ∀ c v, At H c v → At H' c v) : Due At H' u r := by
  cases r with
  | none => exact e _ _ h
  | some c => obtain ⟨v, h1, h2⟩ := h; exact ⟨v, e _ _ h1, hk _ _ h2⟩
def dueA : Option (List (List Nat)) → PyData
  | none => .tuple [.str (S (M.q "none")), .none]
  | some ns => .tuple [.str (S (M.q "told")), .tuple (sD ns)]
theorem sD_dp {H : Hp} : ∀ ns : List (List Nat), DpAll K H (sV ns) (sD ns)
  | [] => .nil
  | n :: ns => .cons (.str _) (sD_dp ns)
theorem sD_lay : ∀ {ns : List (List Nat)}, (∀ n ∈ ns, M.Nm n) → PyData.canLayAll0 (sD ns) = true
  | [], _ => by simp [sD, PyData.canLayAll0]
  | n :: ns, h => by
    have := sD_lay (ns := ns) fun m hm => h m (List.mem_cons_of_mem _ hm)
    have e : sD (n :: ns) = .str (S n) :: sD ns := rfl
    rw [e]
    simp only [PyData.canLayAll0, PyData.canLay0, nm_ok (h n List.mem_cons_self), this, Bool.and_true]
theorem sD_depth : ∀ ns : List (List Nat), PyData.depthAll (sD ns) = 0
  | [] => by simp [sD, PyData.depthAll]
  | n :: ns => by
    have := sD_depth ns
    have e : sD (n :: ns) = .str (S n) :: sD ns := rfl
    rw [e]
    simp [PyData.depthAll, PyData.depth, this]
theorem dueA_dp {H : Hp} {u : Addr} {r : Option (List (List Nat))} (h : Due AAt H u r) : Dp K H (.ref u) (dueA r) := by
  cases r with
  | none => exact .tup (sqt h) (.cons (.str _) (.cons .non .nil))
  | some c => obtain ⟨v, h1, t, rfl, h2⟩ := h; exact .tup (sqt h1) (.cons (.str _) (.cons (.tup (sqt h2) (sD_dp c)) .nil))
theorem ok_told : PyData.strOk (S (M.q "told")) = true := okS _ (by decide)
theorem ok_none : PyData.strOk (S (M.q "none")) = true := okS _ (by decide)
theorem dueA_ok {s : List Nat} : (dueA (M.rdA s)).canLay0 = true ∧ (dueA (M.rdA s)).depth ≤ 2 ∧ PyData.eqv (dueA (M.rdA s)) (dueA none) = (M.rdA s).isNone := by
  cases h : M.rdA s with
  | none =>
    refine ⟨?_, ?_, ?_⟩
    · simp only [dueA, PyData.canLay0, PyData.canLayAll0, ok_none, Bool.and_true]
    · simp [dueA, PyData.depth, PyData.depthAll]
    · simp [dueA, PyData.eqv, PyData.eqvAll]
  | some ns =>
    have hn := (M.rdA_sh h).2.nm
    refine ⟨?_, ?_, ?_⟩
    · simp only [dueA, PyData.canLay0, PyData.canLayAll0, ok_told, sD_lay hn, Bool.and_true]
    · simp only [dueA, PyData.depth, PyData.depthAll, sD_depth]
      omega
    · have e : (S (M.q "told") == S (M.q "none")) = false := by
        rw [SX.S_beq_eq]
        decide
      simp [dueA, PyData.eqv, PyData.eqvAll, e]
abbrev n_law_trace_read : List Str := ["_law_text_here", "_law_words", "_law_steps", "_law_rows", "_law_word", "_law_row"]
theorem sc_law_trace_read : FnScope n_law_trace_read ["_law_text_here"] (defScope s_law_trace_read) := ⟨rfl, rfl, rfl, by decide +kernel, rfl, by decide +kernel, by decide +kernel⟩
theorem bi_law_trace_read : ∀ (kV doc pm : Value) (an : Option Addr) (cdv ct : Value) (us : List Value), us.length = 1 → bindArgs (PySem.W.fnOf d_law_trace_read.name d_law_trace_read.qual d_law_trace_read.params d_law_trace_read.body d_law_trace_read.scope .none kV doc pm an cdv ct) ⟨us, []⟩ = pure ([("_law_text_here" : Str)].zip us) := fun kV doc pm an cdv ct us hu => by
  match us, hu with
  | [u0], _ => rfl
def spLRdT : Sp := fun vs H Q _ => ∃ s, vs = [.str (S s)] ∧ s.length ≤ 10000 ∧ s.count 43 < 63 ∧ ∀ u H', Same H H' → Due RAt H' u (M.rdT s) → Q (.ref u) H'
theorem o_ltread (W : Wl K mg) : OkD w K mg base CX0 4 d_law_trace_read ["_law_text_here"] spLRdT := by
  have O__law_is_name := o_lis_name (w := w) (base := base) W
  have O__law_answers_read := o_laread (w := w) (base := base) W
  refine HL.ok_of0 W.D_law_trace_read sc_law_trace_read (fun vs H Q E ⟨_, h, _⟩ => by rw [h]; rfl) bi_law_trace_read fun cdv A outer s H vs Q E hr h => ?_
  have nd := sc_law_trace_read.nd
  refine ⟨_, (pss_cons (ps_set (i := 1) nd rfl (Or.inl rfl) (pe_split (pv 0) pe_str))
    (pss_cons (ps_par (i := 2) (j := 3) (by rfl) nd rfl rfl (by decide) rfl rfl (pa_cons (XP.pe_alt (pv 1) (po_some pe_int)) (pa_cons (pe_lc (own := [("_law_word", 4)]) (g := gName 4) (tt := tYes) (by rfl) nd (pi_list (XP.pe_alt (pv 1) po_none)) (blkOk_by (own := [("_law_word", 4)]) (N := n_law_trace_read) (sc := defScope s_law_trace_read) (by decide +kernel)) (fun _ _ _ _ _ => pg_name (i := 4) nd rfl (Or.inl rfl)) (fun _ _ _ _ _ => pts_nil) (fun _ _ _ _ _ => (pe_cal O__law_answers_read (hr.mono (by omega)) W.g__law_answers_read pass0 (pa_cons (pv 4) pa_nil)))) pa_nil)) (by rfl))
    (pss_cons (ps_if (PW.pt (pw_or (pt_cmpR op_eq (pe_op op_modN (pe_callTy call_int1 (by rfl) W.f_int (by decide +kernel) (pa_cons (pe_callB call_len_seq (by rfl) W.f_len (by decide +kernel) (pa_cons (pv 1) pa_nil)) pa_nil)) pe_int) pe_int (nomark _)) (pw_or1 (pt_cmpR XP.op_inL (pe_tup (pa_cons pe_str (pa_cons pe_non pa_nil))) (pv 3) (by rfl))))) (pss_one (ps_ret (pe_tup (pa_cons pe_str (pa_cons pe_non pa_nil))))) pss_nil)
    (pss_cons (ps_if (pt_cmpR XP.op_neNil (pe_lc (own := [("_law_word", 4)]) (g := gName 4) (by rfl) nd (pi_list (pv 2)) (blkOk_by (own := [("_law_word", 4)]) (N := n_law_trace_read) (sc := defScope s_law_trace_read) (by decide +kernel)) (fun _ _ _ _ _ => pg_name (i := 4) nd rfl (Or.inl rfl)) (fun _ _ _ _ _ => pts_one (PW.pt (pw_or (pt_cmpR op_ne (pe_slice sl_str (pv 4) (po_some (pe_un un_neg pe_int)) po_none) pe_str (nomark _)) (pw_or1 (pt_not (pt_val (pe_cal O__law_is_name (hr.mono (by omega)) W.g__law_is_name pass0 (pa_cons (pe_slice sl_str (pv 4) po_none (po_some (pe_un un_neg pe_int))) pa_nil)))))))) (fun _ _ _ _ _ => (pv 4))) (pe_lst pa_nil) (nomark _)) (pss_one (ps_ret (pe_tup (pa_cons pe_str (pa_cons pe_non pa_nil))))) pss_nil)
    (pss_one (ps_ret (pe_tup (pa_cons pe_str (pa_cons (pe_tup (pa_cons (pe_ix ix_tup (pe_ix ix_list (pv 3) pe_int (fun _ _ => rfl)) pe_int (fun _ _ => rfl)) (pa_cons (pe_lc (own := [("_law_word", 4), ("_law_row", 5)]) (g := (gTup _ 2 (gCons (gName 4) (gCons (gName 5) gNil)))) (tt := tYes) (by rfl) nd (pi_zip (by rfl) W.f_zip (pa_cons (pv 2) (pa_cons (pe_slice sl_list (pv 3) (po_some pe_int) po_none) pa_nil))) (blkOk_by (own := [("_law_word", 4), ("_law_row", 5)]) (N := n_law_trace_read) (sc := defScope s_law_trace_read) (by decide +kernel)) (fun _ _ _ _ _ => pg_tup (by rfl) (pgs_cons (pg_name (i := 4) nd rfl (Or.inl rfl)) (pgs_cons (pg_name (i := 5) nd rfl (Or.inl rfl)) pgs_nil))) (fun _ _ _ _ _ => pts_nil) (fun _ _ _ _ _ => (pe_tup (pa_cons (pe_slice sl_str (pv 4) po_none (po_some (pe_un un_neg pe_int))) (pa_cons (pe_ix (r := rIxT K) ix_tup (pv 5) pe_int (fun _ _ => rfl)) pa_nil))))) pa_nil))) pa_nil))))))))), ?_⟩
  obtain ⟨s, rfl, hs, hc, hQ⟩ := h
  refine ⟨_, rfl, ⟨_, rfl⟩, _, _, rfl, rfl, len_one (c := 32) (by decide), by rw [S_len]; exact small (by omega), fun l hl => ?_⟩
  rw [split_one (c := 32) (by decide) (by decide), ← sV_str]
  have s1 := same_new (o := .lst (sV (M.sp 32 s))) hl
  have hl1 : upd H l (.lst (sV (M.sp 32 s))) l = some (.lst (sV (M.sp 32 s))) := upd_same
  generalize upd H l (.lst (sV (M.sp 32 s))) = H1 at s1 hl1 ⊢
  dsimp only [gName]
  obtain ⟨w0, ws, hw⟩ := List.exists_cons_of_ne_nil (M.sp_ne 32 s)
  have rd := M.rdT_cons hw
  have wl : ∀ x ∈ M.sp 32 s, x.length ≤ 10000 ∧ x.count 43 < 63 := fun x hx => by
    have a1 := sp_each hx
    have a2 := sp_count (d := 43) hx
    omega
  have hlen : (M.sp 32 s).length ≤ 10001 := by
    have := M.sp_len 32 s
    have := List.count_le_length (a := 32) (l := s)
    omega
  rw [hw] at hl1 wl hlen
  simp only [List.length_cons] at hlen
  have ll : ((sV (w0 :: ws)).length : Int) = ((ws.length + 1 : Nat) : Int) := by simp
  have aw : alt (w0 :: ws) = w0 :: alt (ws.drop 1) := by
    cases ws <;> rfl
  have awl : (alt (w0 :: ws)).length ≤ 10001 := by
    have := XP.alt_len (w0 :: ws)
    simp only [List.length_cons] at this
    omega
  refine ⟨_, rfl, 1, rfl, l, _, rfl, sql hl1, 1, .inl rfl, fun pS hpS => ⟨_, rfl, l, _, rfl, sql (same_new hpS _ _ hl1), 0, .inr ⟨rfl, rfl⟩, fun pA hpA => ⟨pA, rfl, ⟨_, sql upd_same⟩, fun D hD => ?_⟩⟩⟩
  have eS : alt (List.drop 1 (sV (w0 :: ws))) = sV (alt ws) := XP.alt_map _ ws
  have eA : alt (List.drop 0 (sV (w0 :: ws))) = sV (alt (w0 :: ws)) := by
    rw [List.drop_zero]
    exact XP.alt_map _ (w0 :: ws)
  rw [eS, eA] at hD ⊢
  rw [eS] at hpA
  have s2 := HL.Same.new (o := .lst (sV (alt (w0 :: ws)))) (HL.Same.new (o := .lst (sV (alt ws))) s1 hpS) hpA
  have hl2 := same_new (o := .lst (sV (alt (w0 :: ws)))) hpA _ _ (same_new (o := .lst (sV (alt ws))) hpS _ _ hl1)
  have hS2 := same_new (o := .lst (sV (alt (w0 :: ws)))) hpA _ _ (upd_same (H := H1) (a := pS) (o := .lst (sV (alt ws))))
  have hA2 : upd (upd H1 pS (.lst (sV (alt ws)))) pA (.lst (sV (alt (w0 :: ws)))) pA = some (.lst (sV (alt (w0 :: ws)))) := upd_same
  generalize upd (upd H1 pS (.lst (sV (alt ws)))) pA (.lst (sV (alt (w0 :: ws)))) = H2 at hD s2 hl2 hS2 hA2 ⊢
  have dk : ∀ v x (H H' : Hp), (∃ u, v = V.ref u ∧ Due AAt H u (M.rdA x)) → TupK H H' → ∃ u, v = V.ref u ∧ Due AAt H' u (M.rdA x) := fun v x H H' ⟨u, r, z⟩ e => ⟨u, r, z.keep e fun c v q => q.keep e⟩
  refine lcJ (R := fun v x H => ∃ u, v = V.ref u ∧ Due AAt H u (M.rdA x)) (alt (w0 :: ws)) hD (small (by omega)) (itl_stop (sql hA2) (by simp)) (itl_go (sql hA2) (by simp)) (itl_yld (sql hA2)) dk (fun k x c H3 Q3 B hc e hx hq3 => ?_) fun H3 us e3 hD3 hus => ?_
  · rw [List.getElem?_map, hc] at hx
    have hx : some (V.str (S c)) = some x := hx
    cases hx
    have m := wl c (M.alt_mem (List.mem_of_getElem? hc))
    exact name_in ⟨_, rfl, c, rfl, m.1, m.2, fun u H4 e4 hd => hq3 _ _ e4 ⟨u, rfl, hd⟩⟩
  have s3 := s2.trans e3
  have hl3 := e3 _ _ hl2
  have hS3 := e3 _ _ hS2
  have none_out : ∀ H', Same H H' → M.rdT s = none → ∀ p, H' p = none → Q (.ref p) (upd H' p (.tup [.str (Str.ofString "none"), .non])) := fun H' e' hn p hp => hQ _ _ (HL.Same.new e' hp) (by rw [hn]; exact due_none)
  have key : ∀ z : Int, z = ((ws.length + 1 : Nat) : Int) → (V.int (z.fmod 2) = V.int 0 ↔ ws.length % 2 = 1) := fun z hz => by
    rw [hz, fm2]
    exact ⟨fun z => by injection z with z; omega, fun z => by rw [show (ws.length + 1) % 2 = 0 by omega]; rfl⟩
  refine ⟨_, _, rfl, _, rfl, l, _, rfl, .inl (sql hl3), .inl ⟨_, rfl, _, _, rfl, rfl, by show (2 : Int) ≠ 0; decide, rfl, _, rfl, ?_⟩⟩
  by_cases hod : ws.length % 2 = 1
  · refine iteE true (decide_eq_true ((key _ ll).mpr hod)) (iteT ⟨by show 2 ≤ sizeLine; decide, none_out H3 s3 ?_⟩)
    rw [rd, M.trW_odd ws hod]
    cases M.rdA w0 <;> rfl
  have hev : ws.length % 2 = 0 := by omega
  refine iteE false (decide_eq_false fun z => hod ((key _ ll).mp z)) (iteF ?_)
  have ta := M.trW_alt ws hev
  refine ⟨by show 2 ≤ sizeLine; decide, fun pN hpN => ⟨_, rfl, dueA none, (alt (w0 :: ws)).map fun x => dueA (M.rdA x), ?_, ?_, ?_, ?_, ?_, _, rfl, ?_⟩⟩
  · exact .tup (sqt (by rw [upd_same, sq "none"])) (.cons (.str _) (.cons .non .nil))
  · refine .lst (sql (same_new hpN _ _ hD3)) (dpAll_of (At := fun H x v => ∃ u, v = V.ref u ∧ Due AAt H u (M.rdA x)) (dat := fun x => dueA (M.rdA x)) (fun d v ⟨u, r, z⟩ => r ▸ dueA_dp z) (hus.imp fun v x z => dk v x _ _ z (.of (same_new hpN))))
  · simp only [dueA, PyData.canLay0, PyData.canLayAll0, ok_none, Bool.and_true]
  · exact lay_of (G := fun _ => True) (dat := fun x => dueA (M.rdA x)) (fun d _ => dueA_ok.1) fun _ _ => trivial
  · have h1 : (dueA none).depth ≤ 2 := by simp [dueA, PyData.depth, PyData.depthAll]
    exact units_ok hr.units (by omega)
  have hany : (((alt (w0 :: ws)).map fun x => dueA (M.rdA x)).any fun z => PyData.eqv z (dueA none)) = (alt (w0 :: ws)).any fun x => (M.rdA x).isNone := by
    rw [List.any_map]
    congr 1
    funext x
    exact dueA_ok.2.2
  rw [hany]
  have s4 := same_new (o := .tup [V.str (Str.ofString "none"), .non]) hpN
  have hl4 := s4 _ _ hl3
  have hS4 := s4 _ _ hS3
  have hD4 := s4 _ _ hD3
  have hus4 := hus.imp fun v x z => dk v x _ _ z (TupK.of s4)
  have s04 := s3.trans s4
  generalize upd H3 pN (.tup [V.str (Str.ofString "none"), .non]) = H4 at s4 hl4 hS4 hD4 hus4 s04 ⊢
  cases hb : (alt (w0 :: ws)).any fun x => (M.rdA x).isNone with
  | true =>
    refine iteT ⟨by show 2 ≤ sizeLine; decide, none_out H4 s04 ?_⟩
    obtain ⟨x, hx, hn⟩ := List.any_eq_true.mp hb
    have hn : M.rdA x = none := by simpa using hn
    rw [aw] at hx
    rw [rd]
    rcases List.mem_cons.mp hx with rfl | hx
    · rw [hn]
      rfl
    · rw [ta, M.mapO_none hx hn]
      cases M.rdA w0 with
      | none => rfl
      | some a => cases M.mapO M.stp (alt ws) <;> rfl
  | false =>
    have hall : ∀ x ∈ alt (w0 :: ws), M.rdA x ≠ none := fun x hx hn => by
      have : ((alt (w0 :: ws)).any fun x => (M.rdA x).isNone) = true := List.any_eq_true.mpr ⟨x, hx, by rw [hn]; rfl⟩
      rw [hb] at this
      cases this
    have asl : (alt ws).length ≤ 10001 := by
      have := XP.alt_len ws
      omega
    refine iteF ⟨_, rfl, pS, rfl, ⟨_, sql hS4⟩, fun D2 hD2 => HL.lcLF (as := alt ws) (g := fun n => V.str (S n)) (f := fun n => (M.stp n).isNone) hD2 (sql hS4) (small (by omega)) (fun k n H5 R hk e h => ?_) (fun k n H5 Q5 hk h1 e h => ?_) fun H5 e5 hD5 => ?_⟩
    · have m := wl n (List.mem_cons_of_mem _ (M.alt_mem (List.mem_of_getElem? hk)))
      have nl : (S n).length ≤ sizeLine := by rw [S_len]; exact small (by omega)
      refine ⟨_, rfl, 1, rfl, -1, rfl, _, rfl, nl, ?_⟩
      rw [cut_last]
      refine ⟨rfl, _, rfl, ?_⟩
      rw [sq ">", dec_S]
      by_cases hg : n.drop (n.length - 1) = M.q ">"
      · refine iteE false (by rw [decide_eq_true hg] <;> rfl) (iteF ⟨_, rfl, 1, rfl, -1, rfl, _, rfl, nl, ?_⟩)
        rw [cut_but]
        refine ⟨_, rfl, by rw [List.length_take]; omega, fun H6 e6 => ⟨_, rfl, ?_⟩⟩
        have z : (M.stp n).isNone = !M.nmB (n.take (n.length - 1)) := by
          unfold M.stp
          by_cases h2 : M.nmB (n.take (n.length - 1)) = true
          · rw [if_pos ⟨hg, h2⟩, h2]
            rfl
          · rw [if_neg (fun z => h2 z.2), show M.nmB (n.take (n.length - 1)) = false by simpa using h2]
            rfl
        show R (!M.nmB (n.take (n.length - 1))) H6
        rw [← z]
        exact h _ e6
      · refine iteE true (by rw [decide_eq_false hg] <;> rfl) (iteT ?_)
        have z : (M.stp n).isNone = true := by
          unfold M.stp
          rw [if_neg (fun z => hg z.1)]
          rfl
        rw [← z]
        exact h _ (Same.refl _)
    · exact ⟨_, rfl, h _ (Same.refl _)⟩
    · refine ⟨by decide, fun l0 hl0 => ⟨hr.units0, D2, l0, _, rfl, rfl, .inl ⟨sql (same_new hl0 _ _ hD5), sql upd_same⟩, _, rfl, ?_⟩⟩
      have e6 := e5.trans (same_new (o := .lst []) hl0)
      generalize upd H5 l0 (.lst []) = H6 at e6 ⊢
      have hl6 := e6 _ _ hl4
      have hS6 := e6 _ _ hS4
      have hD6 := e6 _ _ hD4
      have hus6 := hus4.imp fun v x z => dk v x _ _ z (TupK.of e6)
      have s06 := s04.trans e6
      have hemp : ((alt ws).filter fun n => (M.stp n).isNone).map (fun n => V.str (S n)) = [] ↔ ∀ x ∈ alt ws, M.stp x ≠ none := by
        rw [List.map_eq_nil_iff, List.filter_eq_nil_iff]
        exact ⟨fun z x hx hn => z x hx (by rw [hn]; rfl), fun z x hx hn => z x hx (by simpa using hn)⟩
      by_cases hst : ∀ x ∈ alt ws, M.stp x ≠ none
      rotate_left
      · have hne : (((alt ws).filter fun n => (M.stp n).isNone).map fun n => V.str (S n)).isEmpty = false := by
          cases q : ((alt ws).filter fun n => (M.stp n).isNone).map fun n => V.str (S n) with
          | nil => exact absurd (hemp.mp q) hst
          | cons => rfl
        refine iteE true (by rw [hne] <;> rfl) (iteT ⟨by show 2 ≤ sizeLine; decide, none_out H6 s06 ?_⟩)
        obtain ⟨x, hx, hn⟩ : ∃ x, x ∈ alt ws ∧ M.stp x = none := by
          refine Classical.byContradiction fun z => hst fun x hx hn => z ⟨x, hx, hn⟩
        rw [rd, ta, M.mapO_none hx hn]
        cases M.rdA w0 <;> rfl
      refine iteE false (by rw [hemp.mpr hst] <;> rfl) (iteF ?_)
      obtain ⟨as, has⟩ := M.mapO_all hst
      obtain ⟨bs, hbs⟩ := M.mapO_all (f := M.rdA) (l := alt (ws.drop 1)) fun x hx => hall x (by rw [aw]; exact List.mem_cons_of_mem _ hx)
      obtain ⟨a0, ha0⟩ : ∃ a0, M.rdA w0 = some a0 := by
        cases h : M.rdA w0 with
        | none => exact absurd h (hall w0 (by rw [aw]; exact List.mem_cons_self))
        | some a => exact ⟨a, rfl⟩
      have hrd : M.rdT s = some (a0, as.zip bs) := by
        rw [rd, ta, ha0, has, hbs]
        rfl
      rw [aw] at hus6
      obtain ⟨v0, us', rfl, ⟨u0, rfl, hu0⟩, hus'⟩ : ∃ v0 us', us = v0 :: us' ∧ (∃ u, v0 = V.ref u ∧ Due AAt H6 u (M.rdA w0)) ∧ All2 (fun v x => ∃ u, v = V.ref u ∧ Due AAt H6 u (M.rdA x)) us' (alt (ws.drop 1)) := by
        cases us with
        | nil => exact hus6.elim
        | cons v0 us' => exact ⟨v0, us', rfl, hus6.1, hus6.2⟩
      rw [ha0] at hu0
      obtain ⟨v0, hu0, t0, rfl, ht0⟩ := hu0
      have ltw : (alt ws).length = ws.length / 2 := by
        rw [M.alt_len2]
        omega
      have ltw2 : (alt (ws.drop 1)).length = ws.length / 2 := by
        rw [M.alt_len2, List.length_drop]
        omega
      have lus := hus'.length
      have hcut : cutV (V.ref u0 :: us') (some 1) none = us' := by
        unfold cutV
        rw [HT.sIx_none]
        have : HT.sIx (V.ref u0 :: us').length 0 (some 1) = 1 := by
          show (if (1 : Int) < 0 then ((1 : Int) + ((us'.length + 1 : Nat) : Int)).toNat else min (1 : Int).toNat (us'.length + 1)) = 1
          rw [if_neg (by decide)]
          show min 1 (us'.length + 1) = 1
          omega
        rw [this]
        show us'.take _ = us'
        exact List.take_of_length_le (by simp)
      refine ⟨_, rfl, D, _, _, _, rfl, rfl, sql hD6, at0, u0, _, _, _, rfl, rfl, sqt hu0, at1, _, rfl, _, rfl, 1, rfl, D, _, rfl, sql hD6, fun pR hpR => ⟨pS, pR, _, _, rfl, sql (same_new hpR _ _ hS6), sql upd_same, fun D3 hD3 => ?_⟩⟩
      rw [hcut] at hD3 ⊢
      have e7 := same_new (o := .lst us') hpR
      have hR7 : upd H6 pR (.lst us') pR = some (.lst us') := upd_same
      have hS7 := e7 _ _ hS6
      have hus7 := hus'.imp fun v x z => dk v x _ _ z (TupK.of e7)
      have ht7 := e7 _ _ ht0
      have s07 := s06.trans e7
      generalize upd H6 pR (.lst us') = H7 at hD3 e7 hR7 hS7 hus7 ht7 s07 ⊢
      have zl : ((alt ws).zip (alt (ws.drop 1))).length = ws.length / 2 := by
        rw [List.length_zip, ltw, ltw2]
        omega
      have lsS : (sV (alt ws)).length = ws.length / 2 := by rw [List.length_map, ltw]
      refine lcJ (R := fun (v : V) (x : List Nat × List Nat) (H : Hp) => ∃ a ns, M.stp x.1 = some a ∧ M.rdA x.2 = some ns ∧ UAt H (a, ns) v) ((alt ws).zip (alt (ws.drop 1))) hD3 (by rw [zl]; exact small (by omega)) (itz_stop (sql hS7) (sql hR7) (.inl (by omega))) (itz_go (sql hS7) (sql hR7) (by omega)) (itz_yld (sql hS7) (sql hR7)) (fun v x H H' z e => let ⟨a, ns, h1, h2, h3⟩ := z; ⟨a, ns, h1, h2, h3.keep e⟩) (fun k x c H8 Q8 B hc e8 hx hq8 => ?_) fun H8 us8 e8 hD8 hus8 => ?_
      · obtain ⟨T, u1, v1, rfl, hT, hu1, hv1⟩ := hx
        obtain ⟨c1, c2⟩ := c
        have hc1 : (alt ws)[k]? = some c1 ∧ (alt (ws.drop 1))[k]? = some c2 := by
          rw [List.getElem?_zip_eq_some] at hc
          exact hc
        rw [List.getElem?_map, hc1.1] at hu1
        have hu1 : some (V.str (S c1)) = some u1 := hu1
        cases hu1
        obtain ⟨x2, hx2, u2, rfl, hd2⟩ := hus7.get hv1
        rw [hc1.2] at hx2
        cases hx2
        obtain ⟨a, _, ha⟩ := M.mapO_get has hc1.1
        obtain ⟨ns, _, hns⟩ := M.mapO_get hbs hc1.2
        rw [hns] at hd2
        obtain ⟨v2, hd2, t2, rfl, ht2⟩ := hd2
        have m := wl c1 (List.mem_cons_of_mem _ (M.alt_mem (List.mem_of_getElem? hc1.1)))
        have nl : (S c1).length ≤ sizeLine := by rw [S_len]; exact small (by omega)
        refine pair_in hT ⟨_, rfl, 1, rfl, -1, rfl, _, rfl, nl, ?_⟩
        rw [cut_but]
        refine ⟨_, rfl, u2, _, _, _, rfl, rfl, sqt (e8 _ _ hd2), at1, by show 2 ≤ sizeLine; decide, fun p hp => hq8 _ _ (same_new hp) ⟨a, ns, ha, hns, p, t2, rfl, ?_, same_new hp _ _ (e8 _ _ ht2)⟩⟩
        have := (M.stp_some ha).1
        have ea : c1.take (c1.length - 1) = a := by
          rw [this]
          have : (M.q ">").length = 1 := by decide
          rw [List.length_append, this]
          exact List.take_left' (by omega)
        rw [upd_same, ea]
      · have hA : All2 (fun v x => UAt H8 x v) us8 (as.zip bs) := by
          have l1 := M.mapO_len has
          have l2 := M.mapO_len hbs
          refine all2_idx hus8 (by rw [zl, List.length_zip]; omega) fun k v x y hx hy ⟨a, ns, h1, h2, h3⟩ => ?_
          obtain ⟨x1, x2⟩ := x
          obtain ⟨y1, y2⟩ := y
          rw [List.getElem?_zip_eq_some] at hx hy
          obtain ⟨a', ha', hb'⟩ := M.mapO_get has hx.1
          obtain ⟨n', hn', hm'⟩ := M.mapO_get hbs hx.2
          have hy1 : as[k]? = some y1 := hy.1
          have hy2 : bs[k]? = some y2 := hy.2
          rw [ha'] at hy1
          rw [hn'] at hy2
          cases hy1
          cases hy2
          have h1 : M.stp x1 = some a := h1
          have h2 : M.rdA x2 = some ns := h2
          rw [hb'] at h1
          rw [hm'] at h2
          cases h1
          cases h2
          exact h3
        refine ⟨by show 2 ≤ sizeLine; decide, fun p hp => ⟨by show 2 ≤ sizeLine; decide, fun u hu => hQ _ _ (HL.Same.new (HL.Same.new (s07.trans e8) hp) hu) ?_⟩⟩
        rw [hrd]
        have e9 := (same_new (o := .tup [V.ref t0, .ref D3]) hp).trans (same_new (o := .tup [V.str (Str.ofString "told"), .ref p]) hu)
        exact due_some ⟨p, t0, D3, us8, rfl, same_new hu _ _ upd_same, e9 _ _ (e8 _ _ ht7), e9 _ _ hD8, hA.imp fun v x z => z.keep (.of e9)⟩
end
end K92
end

section
set_option Elab.async false
set_option linter.all false
set_option maxRecDepth 100000
set_option maxHeartbeats 4000000
/-! k92: addresses. -/
namespace K92
open PySem PySem.Spec PyProof.Rows L2 He HL
theorem emp : Str.ofString "" = S [] := by
  rw [ofq]
  rfl
theorem part_colon (s : List Nat) : ∃ nm sg rest, Txt.partition (S s) (Str.ofString ":") = (S nm, S sg, S rest) ∧ ((sg = [58] ∧ TL.par [58] [] s = some (nm, rest)) ∨ (sg = [] ∧ nm = s ∧ rest = [] ∧ TL.par [58] [] s = none)) := by
  have e : Str.ofString ":" = S [58] := by
    rw [ofq]
    rfl
  rw [e]
  cases h : TL.par [58] [] s with
  | none => exact ⟨s, [], [], SX.partition_none (by simp) h, .inr ⟨rfl, rfl, rfl, rfl⟩⟩
  | some z =>
    obtain ⟨nm, rest⟩ := z
    exact ⟨nm, [58], rest, SX.partition_some (by simp) h, .inl ⟨rfl, rfl⟩⟩
theorem all2_mapO {α β γ : Type} {f : α → Option β} {g : β → γ} : ∀ {us : List γ} {xs : List α}, All2 (fun v x => ∃ k, f x = some k ∧ v = g k) us xs → ∃ ks, M.mapO f xs = some ks ∧ us = ks.map g
  | [], [], _ => ⟨[], rfl, rfl⟩
  | u :: us, x :: xs, ⟨⟨k, h1, h2⟩, h3⟩ => by
    obtain ⟨ks, e1, e2⟩ := all2_mapO h3
    refine ⟨k :: ks, ?_, by rw [h2, e2, List.map_cons]⟩
    unfold M.mapO
    rw [h1, e1]
  | [], _ :: _, h => h.elim
  | _ :: _, [], h => h.elim
abbrev wsOf (rest : List Nat) : List (List Nat) := if rest = [] then [] else M.sp 46 rest
theorem rdX_some {s nm rest : List Nat} (h : TL.par [58] [] s = some (nm, rest)) : M.rdX s = if nm = [] ∨ M.nmB nm = true then (M.mapO M.rdN (wsOf rest)).map fun ks => (nm, ks) else none := by
  unfold M.rdX
  rw [h]
  dsimp only
  split
  · cases M.mapO M.rdN (wsOf rest) <;> rfl
  · rfl
theorem rdX_none {s : List Nat} (h : TL.par [58] [] s = none) : M.rdX s = none := by
  unfold M.rdX
  rw [h]
theorem par_len {s nm rest : List Nat} (h : TL.par [58] [] s = some (nm, rest)) : nm.length + rest.length + 1 = s.length := by
  have := congrArg List.length (M.par_some 58 s [] nm rest h)
  simp only [List.nil_append, List.length_append, List.length_cons] at this
  omega
theorem or_cont {a b : TT} {σ : L2.St} {H : Hp} {R : Bool → Hp → Prop} (P : Hp → Prop) (ha : ∀ R' : Hp → Prop, (∀ H', P H' → R' H') → a σ H fun c H' => if c = true then R true H' else R' H') (hb : ∀ H', P H' → b σ H' R) : tOr a b σ H R := ha (fun H' => b σ H' R) hb
section
variable {w : World} {K : PySem.W.Frag} {mg : Str → Option Value} {base : Heap}
abbrev iV (ks : List Nat) : List V := ks.map fun k => V.int (k : Nat)
def XAt (H : Hp) (x : M.Addr') (v : V) : Prop := ∃ p t, v = .ref p ∧ H p = some (.tup [.str (S x.1), .ref t]) ∧ H t = some (.tup (iV x.2))
theorem XAt.keep {H H' : Hp} {x : M.Addr'} {v : V} (h : XAt H x v) (e : TupK H H') : XAt H' x v := let ⟨p, t, r, h1, h2⟩ := h; ⟨p, t, r, e _ _ h1, e _ _ h2⟩
/-- any word as a number -/
def spNumW (K : PySem.W.Frag) : Sp := fun vs H Q E => ∃ w : List Nat, vs = [.str (S w)] ∧ w.length ≤ 1000000 ∧ (M.rdN w = none → ∀ H', Same H H' → E (.ref (CN K)) none H') ∧ (∀ k, M.rdN w = some k → ∀ H', Same H H' → Q (.int (k : Nat)) H')
theorem o_number_w (W : Wl K mg) : OkD w K mg base (CXN w) 3 d_number_of ["text"] (spNumW K) := by
  refine HL.ok_of W.D_number_of sc_number_of (fun vs H Q E ⟨_, h, _⟩ => by rw [h]; rfl) bi_number_of fun cdv A outer s H vs Q E hr h => ?_
  have tk := takes_of (X := cxOf (CXN w) P0 w K mg base n_number_of d_number_of.qual d_number_of.scope (fAd K d_number_of.at_) cdv A outer s H E) rfl rfl rfl rfl
  have nd := sc_number_of.nd
  obtain ⟨tL, hc_DIGITS⟩ := W.c_DIGITS
  obtain ⟨tM, hc_MOST_DIGITS⟩ := W.c_MOST_DIGITS
  have O_need := o_need (w := w) (base := base) W
  refine ⟨_, (pss_cons (ps_expr (pe_cal O_need (hr.mono (by omega)) W.g_need (passes_call tk (fun _ _ _ _ h => h)) (pa_cons (pe_and (pe_chain op_lt op_le pe_int (pe_callB call_len_str (by rfl) W.f_len (by decide +kernel) (pa_cons (pv 0) pa_nil)) (pe_glob (v := .int 9) (by rfl) hc_MOST_DIGITS ⟨_, rfl⟩)) (pe_one (pe_callB (cr_all rfl) (by rfl) W.f_all (by decide +kernel) (pa_cons (pe_lc (own := [("sign", 1)]) (g := gName 1) (tt := tYes) (by rfl) nd (pi_str (pv 0)) (blkOk_by (own := [("sign", 1)]) (N := n_number_of) (sc := defScope s_number_of) (by decide +kernel)) (fun _ _ _ _ _ => pg_name (i := 1) nd rfl (Or.inl rfl)) (fun _ _ _ _ _ => pts_nil) (fun _ _ _ _ _ => (pe_cmpR op_in_sign (pv 1) (pe_glob (v := .str "0123456789") (by rfl) hc_DIGITS ⟨_, rfl⟩) (by rfl)))) pa_nil)))) pa_nil)))
    (pss_cons (ps_expr (pe_cal O_need (hr.mono (by omega)) W.g_need (passes_call tk (fun _ _ _ _ h => h)) (pa_cons (pe_or (pe_cmpR op_eq (pv 0) pe_str (nomark _)) (pe_one (pe_cmpR op_ne (pe_ix ix_str (pv 0) pe_int (fun _ _ => rfl)) pe_str (nomark _)))) pa_nil)))
    (pss_one (ps_ret (pe_callTy call_int_str (by rfl) W.f_int (by decide +kernel) (pa_cons (pv 0) pa_nil)))))), ?_⟩
  obtain ⟨w, rfl, hwl, hF, hT⟩ := h
  rw [M.rdN_eq] at hF
  have hT : ∀ k, (if ((0 < w.length ∧ w.length ≤ 9) ∧ w.all M.isDig = true) ∧ (w = M.q "0" ∨ w.head? ≠ some 48) then some (PySem.NumText.digitsVal w) else none) = some k → _ := fun k z => hT k (by rw [M.rdN_eq]; exact z)
  have wl : (S w).length ≤ sizeLine := by rw [S_len]; exact small hwl
  have b1 : decide ((0 : Int) < ((S w).length : Nat)) = decide (0 < w.length) := by
    rw [S_len]
    exact decide_eq_decide.mpr (by omega)
  have b2 : decide ((((S w).length : Nat) : Int) ≤ 9) = decide (w.length ≤ 9) := by
    rw [S_len]
    exact decide_eq_decide.mpr (by omega)
  refine ⟨_, rfl, _, rfl, wl, _, _, rfl, rfl, ?_⟩
  refine ⟨_, rfl, ite2 (fun h1 => ?_) (fun h1 => ?_)⟩
  · rw [b1] at h1
    have h1 := of_decide_eq_true h1
    refine ⟨_, _, rfl, rfl, _, rfl, ite2 (fun h2 => ?_) (fun h2 => ?_)⟩
    · rw [b2] at h2
      have h2 := of_decide_eq_true h2
      refine ⟨_, rfl, _, rfl, fun D hD => HL.lcS (out := w.map fun c => V.bl (M.isDig c)) hD (by simp [S]) (small hwl) (fun k c y H Q hx ho e hl hq => ?_) fun H1 e1 hl => ?_⟩
      · refine ⟨_, rfl, _, _, rfl, rfl, ?_⟩
        have hc : w[k]? = some c := by simpa [S] using hx
        rw [List.getElem?_map, hc] at ho
        have ho : some (V.bl (M.isDig c)) = some y := ho
        cases ho
        rw [isDig_in]
        exact hq _ (Same.refl _)
      · refine ⟨_, w.map M.isDig, rfl, .inl (.inl (by rw [hl, List.map_map] <;> rfl)), ?_⟩
        rw [all_id]
        by_cases ha : w.all M.isDig = true
        rotate_left
        · rw [show w.all M.isDig = false by simpa using ha]
          exact ⟨_, rfl, nofun, fun _ => hF (if_neg fun z => ha z.1.2) _ e1⟩
        have hall := List.all_eq_true.mp ha
        rw [ha]
        refine ⟨_, rfl, fun _ => ?_, nofun⟩
        have hne : w ≠ [] := fun z => by rw [z] at h1; simp at h1
        obtain ⟨c, w', ew⟩ := List.exists_cons_of_ne_nil hne
        refine ⟨_, rfl, rfl, _, rfl, ite2 (fun h3 => ?_) (fun h3 => ?_)⟩
        · rw [HL.ofq, dec_S] at h3
          refine ⟨_, rfl, fun _ => ?_, nofun⟩
          refine ⟨_, rfl, _, _, rfl, SX.int_S ?_ hne (by omega), by rw [S_len]; omega, ?_⟩
          · refine List.all_eq_true.mpr fun d hd => ?_
            have := (M.dig_iff d).mp (hall d hd)
            simp [this]
          · exact hT _ (if_pos ⟨⟨⟨h1, h2⟩, ha⟩, .inl (of_decide_eq_true h3)⟩) _ e1
        · rw [HL.ofq, dec_S] at h3
          have h3 := fun z => h3 (decide_eq_true z)
          refine ⟨_, rfl, _, _, c, rfl, rfl, wl, (show atI w ((0 : Nat) : Int) = some c from atI_nat (by rw [ew] <;> rfl)), rfl, ?_⟩
          rw [HL.ofq, show (⟨#[c]⟩ : Str) = S [c] from rfl, dec_S]
          refine ⟨_, rfl, fun hk => ?_, fun hk => ?_⟩
          · have hc : c ≠ 48 := fun z => by
              rw [z] at hk
              revert hk
              decide
            refine ⟨_, rfl, _, _, rfl, SX.int_S ?_ hne (by omega), by rw [S_len]; omega, ?_⟩
            · refine List.all_eq_true.mpr fun d hd => ?_
              have := (M.dig_iff d).mp (hall d hd)
              simp [this]
            · exact hT _ (if_pos ⟨⟨⟨h1, h2⟩, ha⟩, .inr (by rw [ew]; simpa using hc)⟩) _ e1
          · have hc : c = 48 := by
              have h4 : decide ([c] = List.map Char.toNat "0".toList) = true := by simpa using hk
              have h5 := of_decide_eq_true h4
              have h6 : [c] = [48] := h5
              injection h6
            refine hF (if_neg ?_) _ e1
            rintro ⟨_, z | z⟩
            · exact h3 z
            · rw [ew, hc] at z
              exact z rfl
    · rw [b2] at h2
      exact ⟨_, rfl, nofun, fun _ => hF (if_neg fun z => h2 (decide_eq_true z.1.1.2)) _ (Same.refl _)⟩
  · rw [b1] at h1
    exact ⟨_, rfl, iteF ⟨_, rfl, nofun, fun _ => hF (if_neg fun z => h1 (decide_eq_true z.1.1.1)) _ (Same.refl _)⟩⟩
abbrev n_show_address : List Str := ["address", "at"]
theorem sc_show_address : FnScope n_show_address ["address"] (defScope s_show_address) := ⟨rfl, rfl, rfl, by decide +kernel, rfl, by decide +kernel, by decide +kernel⟩
theorem bi_show_address : ∀ (kV doc pm : Value) (an : Option Addr) (cdv ct : Value) (us : List Value), us.length = 1 → bindArgs (PySem.W.fnOf d_show_address.name d_show_address.qual d_show_address.params d_show_address.body d_show_address.scope .none kV doc pm an cdv ct) ⟨us, []⟩ = pure ([("address" : Str)].zip us) := fun kV doc pm an cdv ct us hu => by
  match us, hu with
  | [u0], _ => rfl
def spShX : Sp := fun vs H Q _ => ∃ v x, vs = [v] ∧ XAt H x v ∧ (∀ k ∈ x.2, k < 1000000000) ∧ (M.shX x).length ≤ 50000 ∧ ∀ H', Same H H' → Q (.str (S (M.shX x))) H'
theorem o_show_address (W : Wl K mg) : OkD w K mg base CX0 1 d_show_address ["address"] spShX := by
  refine HL.ok_of0 W.D_show_address sc_show_address (fun vs H Q E ⟨_, _, h, _⟩ => by rw [h]; rfl) bi_show_address fun cdv A outer s H vs Q E hr h => ?_
  have nd := sc_show_address.nd
  refine ⟨_, (pss_one (ps_ret (pe_op op_add_str (pe_op op_add_str (pe_ix ix_tup (pv 0) pe_int (fun _ _ => rfl)) pe_str) (pe_join pe_str (pe_lc (own := [("at", 1)]) (g := gName 1) (tt := tYes) (by rfl) nd (pi_tup (pe_ix ix_tup (pv 0) pe_int (fun _ _ => rfl))) (blkOk_by (own := [("at", 1)]) (N := n_show_address) (sc := defScope s_show_address) (by decide +kernel)) (fun _ _ _ _ _ => pg_name (i := 1) nd rfl (Or.inl rfl)) (fun _ _ _ _ _ => pts_nil) (fun _ _ _ _ _ => (pe_callTy call_str_int (by rfl) W.f_str (by decide +kernel) (pa_cons (pv 1) pa_nil)))))))), ?_⟩
  obtain ⟨v, x, rfl, ⟨p, t, rfl, hp, ht⟩, hk, hlen, hq⟩ := h
  have l1 : (M.q ":").length = 1 := by decide
  have e0 : (M.shX x).length = x.1.length + (1 + (TL.joinL (M.q ".") (x.2.map TL.numL)).length) := by
    unfold M.shX
    rw [List.length_append, List.length_append, l1]
  have kl : x.2.length ≤ 50001 := by
    have z := joinL_len (M.q ".") (x.2.map TL.numL)
    rw [show (M.q ".").length = 1 by decide] at z
    simp only [List.length_map] at z
    omega
  refine ⟨_, rfl, p, _, _, _, rfl, rfl, sqt hp, at0, _, _, rfl, rfl, ?_, ⟨_, rfl⟩, _, rfl, p, _, _, _, rfl, rfl, sqt hp, at1, t, rfl, ⟨_, sqt ht⟩, fun D hD => ?_⟩
  · rw [oq, S_len, S_len, l1]
    exact small (by omega)
  refine lcJ (R := fun v k H => v = V.str (S (TL.numL k))) x.2 hD (small (by omega)) (itt_stop (sqt ht) (by simp)) (itt_go (sqt ht) (by simp)) (itt_yld (sqt ht)) (fun _ _ _ _ z _ => z) (fun k y c H1 Q1 B hc e hx hq1 => ?_) fun H1 vs e1 hD1 hvs => ?_
  · rw [List.getElem?_map, hc] at hx
    have hx : some (V.int (c : Nat)) = some y := hx
    cases hx
    exact name_in ⟨_, rfl, _, rfl, num_log (hk c (List.mem_of_getElem? hc)), hq1 _ _ (Same.refl _) (by rw [num_str])⟩
  · have hvs := all2_eq hvs
    have e5 : vs = ((x.2.map TL.numL).map S).map V.str := by
      rw [hvs, List.map_map, List.map_map]
      rfl
    subst e5
    refine ⟨_, D, (x.2.map TL.numL).map S, rfl, rfl, .inl (sql hD1), ?_, ?_⟩
    · refine join_ok (c := 46) (by decide) ?_
      have : TL.joinL [46] (x.2.map TL.numL) = TL.joinL (M.q ".") (x.2.map TL.numL) := rfl
      rw [this]
      omega
    · have ej : TL.joinL [46] (x.2.map TL.numL) = TL.joinL (M.q ".") (x.2.map TL.numL) := rfl
      rw [join_one (c := 46) (by decide), q_cat2, ej]
      refine ⟨_, _, rfl, rfl, ?_, ?_⟩
      · rw [S_len, S_len, List.length_append, l1]
        exact small (by omega)
      · rw [S_cat, List.append_assoc]
        exact hq _ e1
abbrev n_law_address_text : List Str := ["_law_address", "_law_at"]
theorem sc_law_address_text : FnScope n_law_address_text ["_law_address"] (defScope s_law_address_text) := ⟨rfl, rfl, rfl, by decide +kernel, rfl, by decide +kernel, by decide +kernel⟩
theorem bi_law_address_text : ∀ (kV doc pm : Value) (an : Option Addr) (cdv ct : Value) (us : List Value), us.length = 1 → bindArgs (PySem.W.fnOf d_law_address_text.name d_law_address_text.qual d_law_address_text.params d_law_address_text.body d_law_address_text.scope .none kV doc pm an cdv ct) ⟨us, []⟩ = pure ([("_law_address" : Str)].zip us) := fun kV doc pm an cdv ct us hu => by
  match us, hu with
  | [u0], _ => rfl
theorem o_lxtext (W : Wl K mg) : OkD w K mg base CX0 1 d_law_address_text ["_law_address"] spShX := by
  refine HL.ok_of0 W.D_law_address_text sc_law_address_text (fun vs H Q E ⟨_, _, h, _⟩ => by rw [h]; rfl) bi_law_address_text fun cdv A outer s H vs Q E hr h => ?_
  have nd := sc_law_address_text.nd
  refine ⟨_, (pss_one (ps_ret (pe_op op_add_str (pe_op op_add_str (pe_ix ix_tup (pv 0) pe_int (fun _ _ => rfl)) pe_str) (pe_join pe_str (pe_lc (own := [("_law_at", 1)]) (g := gName 1) (tt := tYes) (by rfl) nd (pi_tup (pe_ix ix_tup (pv 0) pe_int (fun _ _ => rfl))) (blkOk_by (own := [("_law_at", 1)]) (N := n_law_address_text) (sc := defScope s_law_address_text) (by decide +kernel)) (fun _ _ _ _ _ => pg_name (i := 1) nd rfl (Or.inl rfl)) (fun _ _ _ _ _ => pts_nil) (fun _ _ _ _ _ => (pe_callTy call_str_int (by rfl) W.f_str (by decide +kernel) (pa_cons (pv 1) pa_nil)))))))), ?_⟩
  obtain ⟨v, x, rfl, ⟨p, t, rfl, hp, ht⟩, hk, hlen, hq⟩ := h
  have l1 : (M.q ":").length = 1 := by decide
  have e0 : (M.shX x).length = x.1.length + (1 + (TL.joinL (M.q ".") (x.2.map TL.numL)).length) := by
    unfold M.shX
    rw [List.length_append, List.length_append, l1]
  have kl : x.2.length ≤ 50001 := by
    have z := joinL_len (M.q ".") (x.2.map TL.numL)
    rw [show (M.q ".").length = 1 by decide] at z
    simp only [List.length_map] at z
    omega
  refine ⟨_, rfl, p, _, _, _, rfl, rfl, sqt hp, at0, _, _, rfl, rfl, ?_, ⟨_, rfl⟩, _, rfl, p, _, _, _, rfl, rfl, sqt hp, at1, t, rfl, ⟨_, sqt ht⟩, fun D hD => ?_⟩
  · rw [oq, S_len, S_len, l1]
    exact small (by omega)
  refine lcJ (R := fun v k H => v = V.str (S (TL.numL k))) x.2 hD (small (by omega)) (itt_stop (sqt ht) (by simp)) (itt_go (sqt ht) (by simp)) (itt_yld (sqt ht)) (fun _ _ _ _ z _ => z) (fun k y c H1 Q1 B hc e hx hq1 => ?_) fun H1 vs e1 hD1 hvs => ?_
  · rw [List.getElem?_map, hc] at hx
    have hx : some (V.int (c : Nat)) = some y := hx
    cases hx
    exact name_in ⟨_, rfl, _, rfl, num_log (hk c (List.mem_of_getElem? hc)), hq1 _ _ (Same.refl _) (by rw [num_str])⟩
  · have hvs := all2_eq hvs
    have e5 : vs = ((x.2.map TL.numL).map S).map V.str := by
      rw [hvs, List.map_map, List.map_map]
      rfl
    subst e5
    refine ⟨_, D, (x.2.map TL.numL).map S, rfl, rfl, .inl (sql hD1), ?_, ?_⟩
    · refine join_ok (c := 46) (by decide) ?_
      have : TL.joinL [46] (x.2.map TL.numL) = TL.joinL (M.q ".") (x.2.map TL.numL) := rfl
      rw [this]
      omega
    · have ej : TL.joinL [46] (x.2.map TL.numL) = TL.joinL (M.q ".") (x.2.map TL.numL) := rfl
      rw [join_one (c := 46) (by decide), q_cat2, ej]
      refine ⟨_, _, rfl, rfl, ?_, ?_⟩
      · rw [S_len, S_len, List.length_append, l1]
        exact small (by omega)
      · rw [S_cat, List.append_assoc]
        exact hq _ e1
abbrev n_read_address : List Str := ["text", "name", "colon", "rest", "found", "one"]
theorem sc_read_address : FnScope n_read_address ["text"] (defScope s_read_address) := ⟨rfl, rfl, rfl, by decide +kernel, rfl, by decide +kernel, by decide +kernel⟩
theorem bi_read_address : ∀ (kV doc pm : Value) (an : Option Addr) (cdv ct : Value) (us : List Value), us.length = 1 → bindArgs (PySem.W.fnOf d_read_address.name d_read_address.qual d_read_address.params d_read_address.body d_read_address.scope .none kV doc pm an cdv ct) ⟨us, []⟩ = pure ([("text" : Str)].zip us) := fun kV doc pm an cdv ct us hu => by
  match us, hu with
  | [u0], _ => rfl
def spRdX (K : PySem.W.Frag) : Sp := fun vs H Q E => ∃ v, vs = [v] ∧ ((∃ s, v = .str (S s) ∧ s.length ≤ 10000 ∧ (M.rdX s = none → ∀ H', Same H H' → E (.ref (CN K)) none H') ∧
  (∀ x, M.rdX s = some x → ∀ u H', Same H H' → XAt H' x u → Q u H')) ∨ (NoStr K H v ∧ E (.ref (CN K)) none H))
theorem o_read_address (W : Wl K mg) : OkD w K mg base (CXN w) 4 d_read_address ["text"] (spRdX K) := by
  refine HL.ok_of W.D_read_address sc_read_address (fun vs H Q E ⟨_, h, _⟩ => by rw [h]; rfl) bi_read_address fun cdv A outer s H vs Q E hr h => ?_
  have tk := takes_of (X := cxOf (CXN w) P0 w K mg base n_read_address d_read_address.qual d_read_address.scope (fAd K d_read_address.at_) cdv A outer s H E) rfl rfl rfl rfl
  have nd := sc_read_address.nd
  have O_need := o_need (w := w) (base := base) W
  have O_need_text := o_need_text (w := w) (base := base) W
  have O_is_name := o_is_name (w := w) (base := base) W
  have O_number_of := o_number_w (w := w) (base := base) W
  have O_show_address := o_show_address (w := w) (base := base) W
  refine ⟨_, (pss_cons (ps_expr (pe_cal O_need_text (hr.mono (by omega)) W.g_need_text (passes_call tk (fun _ _ _ _ h => h)) (pa_cons (pv 0) pa_nil)))
    (pss_cons (ps_asg (pe_partition (pv 0) pe_str) (pg_tup (by rfl) (pgs_cons (pg_name (i := 1) nd rfl (Or.inl rfl)) (pgs_cons (pg_name (i := 2) nd rfl (Or.inl rfl)) (pgs_cons (pg_name (i := 3) nd rfl (Or.inl rfl)) pgs_nil)))))
    (pss_cons (ps_expr (pe_cal O_need (hr.mono (by omega)) W.g_need (passes_call tk (fun _ _ _ _ h => h)) (pa_cons (pe_or (pe_cmpR op_eq (pv 1) pe_str (nomark _)) (pe_one (pe_cal O_is_name (hr.mono (by omega)) W.g_is_name pass0 (pa_cons (pv 1) pa_nil)))) pa_nil)))
    (pss_cons (ps_set (i := 4) nd rfl (Or.inl rfl) (pe_tup (pa_cons (pv 1) (pa_cons (pe_ifExp (pt_cmpR op_ne (pv 3) pe_str (nomark _)) (pe_callTy call_tuple_of (by rfl) W.f_tuple (by decide +kernel) (pa_cons (XL.pe_lc (own := [("one", 5)]) (g := gName 5) (tt := tYes) tk rfl rfl (by rfl) nd (pi_list (pe_split (pv 3) pe_str)) (blkOk_by (own := [("one", 5)]) (N := n_read_address) (sc := defScope s_read_address) (by decide +kernel)) (fun _ _ _ _ _ => pg_name (i := 5) nd rfl (Or.inl rfl)) (fun _ _ _ _ _ => pts_nil) (fun _ _ _ _ _ tk => (pe_cal O_number_of (hr.mono (by omega)) W.g_number_of (passes_call tk (fun _ _ _ _ h => h)) (pa_cons (pv 5) pa_nil)))) pa_nil)) (pe_tup pa_nil)) pa_nil))))
    (pss_cons (ps_expr (pe_cal O_need (hr.mono (by omega)) W.g_need (passes_call tk (fun _ _ _ _ h => h)) (pa_cons (pe_cmpR op_eq (pe_cal O_show_address (hr.mono (by omega)) W.g_show_address pass0 (pa_cons (pv 4) pa_nil)) (pv 0) (nomark _)) pa_nil)))
    (pss_one (ps_ret (pv 4)))))))), ?_⟩
  obtain ⟨v, rfl, ⟨s, rfl, hs, hF, hQ⟩ | ⟨hno, hE⟩⟩ := h
  rotate_left
  · exact ⟨_, rfl, _, rfl, .inr ⟨hno, hE⟩⟩
  refine ⟨_, rfl, _, rfl, .inl ⟨_, rfl, ?_⟩⟩
  dsimp only
  have sl : (S s).length ≤ sizeLine := by rw [S_len]; exact small (by omega)
  refine ⟨_, rfl, ⟨_, rfl⟩, _, _, rfl, rfl, len_one (c := 58) (by decide), sl, fun pp hpp => ?_⟩
  obtain ⟨nm, sg, rest, hpart, hsg⟩ := part_colon s
  rw [hpart]
  have s1 := same_new (o := .tup [V.str (S nm), V.str (S sg), V.str (S rest)]) hpp
  refine ⟨pp, _, rfl, sqt upd_same, rfl, _, _, rfl, _, _, rfl, _, _, rfl, rfl, ?_⟩
  generalize upd H pp (.tup [V.str (S nm), V.str (S sg), V.str (S rest)]) = H1 at s1 ⊢
  have nml : nm.length ≤ s.length ∧ rest.length ≤ s.length := by
    rcases hsg with ⟨_, h⟩ | ⟨_, rfl, rfl, _⟩
    · have := par_len h
      omega
    · simp
  have fail : ∀ H', Same H1 H' → (¬ (nm = [] ∨ M.nmB nm = true) ∨ M.mapO M.rdN (wsOf rest) = none) → E (.ref (CN K)) none H' := fun H' e' h => hF (by
    rcases hsg with ⟨_, hp⟩ | ⟨_, _, _, hp⟩
    · rw [rdX_some hp]
      rcases h with h | h
      · rw [if_neg h]
      · rw [h]
        split <;> rfl
    · exact rdX_none hp) H' (s1.trans e')
  dsimp only
  refine seq_cont (fun σ' H' => σ' = [some (.str (S s)), some (.str (S nm)), some (.str (S sg)), some (.str (S rest)), none, none] ∧ Same H1 H' ∧ (nm = [] ∨ M.nmB nm = true)) (fun N hN => ?_) (fun σ' H2 hR => ?_)
  · refine ⟨_, rfl, rfl, _, rfl, ?_⟩
    rw [emp, dec_S]
    by_cases hn : nm = []
    · rw [decide_eq_true hn]
      exact iteT ⟨_, rfl, fun _ => hN _ _ ⟨rfl, .refl _, .inl hn⟩, nofun⟩
    · rw [decide_eq_false hn]
      refine iteF ⟨_, rfl, nm, rfl, by omega, fun H' e' => ⟨_, rfl, fun hk => hN _ _ ⟨rfl, e', .inr hk⟩, fun hk => fail _ e' (.inl ?_)⟩⟩
      rintro (z | z)
      · exact hn z
      · have z : (decide (0 < nm.length ∧ nm.length ≤ 8) && nm.all M.isLet) = true := z
        rw [hk] at z
        cases z
  obtain ⟨rfl, e2, hnm⟩ := hR
  have restl : (S rest).length ≤ sizeLine := by rw [S_len]; exact small (by omega)
  refine ⟨_, rfl, ?_⟩
  dsimp only [tCons, tNil]
  refine te_cont (R := fun v H' => ∃ t ks, v = .ref t ∧ Same H2 H' ∧ H' t = some (.tup (iV ks)) ∧ M.mapO M.rdN (wsOf rest) = some ks) (fun Q' hQ' => ?_) fun v H3 hR => ?_
  · refine ⟨_, rfl, rfl, _, rfl, ?_⟩
    rw [emp, dec_S]
    by_cases hr0 : rest = []
    · refine iteE false (by rw [decide_eq_true hr0] <;> rfl) (iteF ⟨by decide, fun t ht => hQ' _ _ ⟨t, [], rfl, same_new ht, upd_same, by rw [show wsOf rest = [] from if_pos hr0]; rfl⟩⟩)
    · have hws : wsOf rest = M.sp 46 rest := if_neg hr0
      have spl : (M.sp 46 rest).length ≤ 10001 := by
        have := M.sp_len 46 rest
        have := List.count_le_length (a := 46) (l := rest)
        omega
      refine iteE true (by rw [decide_eq_false hr0] <;> rfl) (iteT ?_)
      refine ⟨_, rfl, ⟨_, rfl⟩, _, _, rfl, rfl, len_one (c := 46) (by decide), by rw [S_len]; exact small (by omega), fun l hl => ?_⟩
      rw [split_one (c := 46) (by decide) (by decide), ← sV_str]
      have s3 := same_new (o := .lst (sV (M.sp 46 rest))) hl
      have hl3 : upd H2 l (.lst (sV (M.sp 46 rest))) l = some (.lst (sV (M.sp 46 rest))) := upd_same
      generalize upd H2 l (.lst (sV (M.sp 46 rest))) = H3 at s3 hl3 ⊢
      refine ⟨l, rfl, ⟨_, sql hl3⟩, fun D hD => ?_⟩
      refine lcJ (R := fun v x H => ∃ k, M.rdN x = some k ∧ v = V.int (k : Nat)) (M.sp 46 rest) hD (small (by omega)) (itl_stop (sql hl3) (by simp)) (itl_go (sql hl3) (by simp)) (itl_yld (sql hl3)) (fun _ _ _ _ z _ => z) (fun k y c H4 Q4 B hc e hx hq4 => ?_) fun H4 vs e4 hD4 hvs => ?_
      · rw [List.getElem?_map, hc] at hx
        have hx : some (V.str (S c)) = some y := hx
        cases hx
        have hm := List.mem_of_getElem? hc
        have hl5 := sp_each hm
        exact name_in ⟨_, rfl, c, rfl, by omega, fun hn H' e' => fail _ (e2.trans (s3.trans (e.trans e'))) (.inr (by rw [hws]; exact M.mapO_none hm hn)), fun k hk H' e' => hq4 _ _ e' ⟨k, hk, rfl⟩⟩
      · obtain ⟨ks, hks, rfl⟩ := all2_mapO (g := fun k : Nat => V.int (k : Nat)) hvs
        exact ⟨D, _, rfl, .inl ⟨sql hD4, fun t ht => hQ' _ _ ⟨t, ks, rfl, (s3.trans e4).trans (same_new ht), upd_same, by rw [hws]; exact hks⟩⟩⟩
  obtain ⟨t, ks, rfl, e3, ht, hks⟩ := hR
  refine ⟨by show 2 ≤ sizeLine; decide, fun p hp => ?_⟩
  have e4 := same_new (o := .tup [V.str (S nm), .ref t]) hp
  have hp4 : upd H3 p (.tup [V.str (S nm), .ref t]) p = some (.tup [V.str (S nm), .ref t]) := upd_same
  have ht4 := e4 _ _ ht
  have s4 := ((s1.trans e2).trans e3).trans e4
  generalize upd H3 p (.tup [V.str (S nm), .ref t]) = H4 at e4 hp4 ht4 s4 ⊢
  dsimp only [gName]
  have hsx : (sg = [58] ∧ M.rdX s = some (nm, ks) ∧ M.shX (nm, ks) = s) ∨ (sg = [] ∧ M.rdX s = none ∧ M.shX (nm, ks) = s ++ [58]) := by
    rcases hsg with ⟨h1, hp⟩ | ⟨h1, h2, h3, hp⟩
    · have : M.rdX s = some (nm, ks) := by
        rw [rdX_some hp, if_pos hnm, hks]
        rfl
      exact .inl ⟨h1, this, (M.rdX_sh this).1⟩
    · refine .inr ⟨h1, rdX_none hp, ?_⟩
      subst h2 h3
      have : ks = [] := by
        have z : (some [] : Option (List Nat)) = some ks := hks
        injection z with z
        exact z.symm
      rw [this]
      rfl
  have hkk : ∀ k ∈ ks, k < 1000000000 := (M.mapO_some hks TL.numL (fun k => k < 1000000000) fun x y h => M.rdN_some h).2
  have hlen : (M.shX (nm, ks)).length ≤ 50000 := by
    rcases hsx with ⟨_, _, h⟩ | ⟨_, _, h⟩
    · rw [h]
      omega
    · rw [h, List.length_append, List.length_singleton]
      omega
  refine ⟨_, rfl, _, (nm, ks), rfl, ⟨p, t, rfl, hp4, ht4⟩, hkk, hlen, fun H5 e5 => ⟨_, rfl, rfl, _, rfl, fun hk => ?_, fun hk => ?_⟩⟩
  · rw [dec_S] at hk
    have hk := of_decide_eq_true hk
    rcases hsx with ⟨_, h, _⟩ | ⟨_, _, h⟩
    · exact ⟨_, rfl, hQ _ h _ _ (s4.trans e5) ⟨p, t, rfl, e5 _ _ hp4, e5 _ _ ht4⟩⟩
    · rw [h] at hk
      have := congrArg List.length hk
      rw [List.length_append, List.length_singleton] at this
      omega
  · rw [dec_S] at hk
    have hk := of_decide_eq_false hk
    rcases hsx with ⟨_, _, h⟩ | ⟨_, h, _⟩
    · exact absurd h hk
    · exact hF h _ (s4.trans e5)
def NAt (_ : Hp) (k : Nat) (v : V) : Prop := v = .int (k : Nat)
def dueN : Option Nat → PyData
  | none => .tuple [.str (S (M.q "none")), .none]
  | some k => .tuple [.str (S (M.q "told")), .int (k : Nat)]
theorem dueN_dp {H : Hp} {u : Addr} {r : Option Nat} (h : Due NAt H u r) : Dp K H (.ref u) (dueN r) := by
  cases r with
  | none => exact .tup (sqt h) (.cons (.str _) (.cons .non .nil))
  | some c => obtain ⟨v, h1, rfl⟩ := h; exact .tup (sqt h1) (.cons (.str _) (.cons (.int _) .nil))
theorem dueN_ok (r : Option Nat) : (dueN r).canLay0 = true ∧ PyData.eqv (dueN r) (dueN none) = r.isNone := by
  cases r with
  | none =>
    refine ⟨?_, ?_⟩
    · simp only [dueN, PyData.canLay0, PyData.canLayAll0, ok_none, Bool.and_true]
    · simp [dueN, PyData.eqv, PyData.eqvAll]
  | some ns =>
    refine ⟨?_, ?_⟩
    · simp only [dueN, PyData.canLay0, PyData.canLayAll0, ok_told, Bool.and_true]
    · have e : (S (M.q "told") == S (M.q "none")) = false := by
        rw [SX.S_beq_eq]
        decide
      simp [dueN, PyData.eqv, PyData.eqvAll, e]
abbrev n_law_address_read : List Str := ["_law_text_here", "_law_name", "_law_sign", "_law_rest", "_law_words", "_law_found", "_law_word", "_law_one_here"]
theorem sc_law_address_read : FnScope n_law_address_read ["_law_text_here"] (defScope s_law_address_read) := ⟨rfl, rfl, rfl, by decide +kernel, rfl, by decide +kernel, by decide +kernel⟩
theorem bi_law_address_read : ∀ (kV doc pm : Value) (an : Option Addr) (cdv ct : Value) (us : List Value), us.length = 1 → bindArgs (PySem.W.fnOf d_law_address_read.name d_law_address_read.qual d_law_address_read.params d_law_address_read.body d_law_address_read.scope .none kV doc pm an cdv ct) ⟨us, []⟩ = pure ([("_law_text_here" : Str)].zip us) := fun kV doc pm an cdv ct us hu => by
  match us, hu with
  | [u0], _ => rfl
def spLRdX : Sp := fun vs H Q _ => ∃ s, vs = [.str (S s)] ∧ s.length ≤ 10000 ∧ ∀ u H', Same H H' → Due XAt H' u (M.rdX s) → Q (.ref u) H'
theorem o_lxread (W : Wl K mg) : OkD w K mg base CX0 4 d_law_address_read ["_law_text_here"] spLRdX := by
  have O__law_is_name := o_lis_name (w := w) (base := base) W
  have O__law_whole := o_whole (w := w) (base := base) W
  have O__law_number_at := o_lnum (w := w) (base := base) W
  refine HL.ok_of0 W.D_law_address_read sc_law_address_read (fun vs H Q E ⟨_, h, _⟩ => by rw [h]; rfl) bi_law_address_read fun cdv A outer s H vs Q E hr h => ?_
  have nd := sc_law_address_read.nd
  refine ⟨_, (pss_cons (ps_asg (pe_partition (pv 0) pe_str) (pg_tup (by rfl) (pgs_cons (pg_name (i := 1) nd rfl (Or.inl rfl)) (pgs_cons (pg_name (i := 2) nd rfl (Or.inl rfl)) (pgs_cons (pg_name (i := 3) nd rfl (Or.inl rfl)) pgs_nil)))))
    (pss_cons (ps_set (i := 4) nd rfl (Or.inl rfl) (pe_ifExp (pt_cmpR op_ne (pv 3) pe_str (nomark _)) (pe_split (pv 3) pe_str) (pe_lst pa_nil)))
    (pss_cons (ps_setLc (i := 5) (own := [("_law_word", 6)]) (g := gName 6) (tt := tYes) rfl nd rfl rfl (sw_true rfl rfl rfl (by decide +kernel)) (pi_list (pv 4)) (blkOk_by (own := [("_law_word", 6)]) (N := n_law_address_read) (sc := defScope s_law_address_read) (by decide +kernel)) (fun _ _ _ _ _ => pg_name (i := 6) nd rfl (Or.inl rfl)) (fun _ _ _ _ _ => pts_nil) (fun _ _ _ _ _ => (pe_ifExp (pt_cmpR op_ne (pv 6) pe_str (nomark _)) (pe_cal O__law_whole (hr.mono (by omega)) W.g__law_whole pass0 (pa_cons (pv 6) (pa_cons (pe_cal O__law_number_at (hr.mono (by omega)) W.g__law_number_at pass0 (pa_cons (pv 6) (pa_cons pe_int pa_nil))) pa_nil))) (pe_tup (pa_cons pe_str (pa_cons pe_non pa_nil))))))
    (pss_cons (ps_if (PW.pt (pw_or (pt_cmpR op_eq (pv 2) pe_str (nomark _)) (pw_or (PW.pt (pw_and (pt_cmpR op_ne (pv 1) pe_str (nomark _)) (pw_and1 (pt_not (pt_val (pe_cal O__law_is_name (hr.mono (by omega)) W.g__law_is_name pass0 (pa_cons (pv 1) pa_nil))))))) (pw_or1 (pt_cmpR XP.op_inL (pe_tup (pa_cons pe_str (pa_cons pe_non pa_nil))) (pv 5) (by rfl)))))) (pss_one (ps_ret (pe_tup (pa_cons pe_str (pa_cons pe_non pa_nil))))) pss_nil)
    (pss_one (ps_ret (pe_tup (pa_cons pe_str (pa_cons (pe_tup (pa_cons (pv 1) (pa_cons (pe_callTy call_tuple_of (by rfl) W.f_tuple (by decide +kernel) (pa_cons (pe_lc (own := [("_law_one_here", 7)]) (g := gName 7) (tt := tYes) (by rfl) nd (pi_list (pv 5)) (blkOk_by (own := [("_law_one_here", 7)]) (N := n_law_address_read) (sc := defScope s_law_address_read) (by decide +kernel)) (fun _ _ _ _ _ => pg_name (i := 7) nd rfl (Or.inl rfl)) (fun _ _ _ _ _ => pts_nil) (fun _ _ _ _ _ => (pe_ix (r := rIxT K) ix_tup (pv 7) pe_int (fun _ _ => rfl)))) pa_nil)) pa_nil))) pa_nil))))))))), ?_⟩
  obtain ⟨s, rfl, hs, hQ⟩ := h
  have sl : (S s).length ≤ sizeLine := by rw [S_len]; exact small (by omega)
  refine ⟨_, rfl, ⟨_, rfl⟩, _, _, rfl, rfl, len_one (c := 58) (by decide), sl, fun pp hpp => ?_⟩
  obtain ⟨nm, sg, rest, hpart, hsg⟩ := part_colon s
  rw [hpart]
  have s1 := same_new (o := .tup [V.str (S nm), V.str (S sg), V.str (S rest)]) hpp
  refine ⟨pp, _, rfl, sqt upd_same, rfl, _, _, rfl, _, _, rfl, _, _, rfl, rfl, ?_⟩
  generalize upd H pp (.tup [V.str (S nm), V.str (S sg), V.str (S rest)]) = H1 at s1 ⊢
  have nml : nm.length ≤ s.length ∧ rest.length ≤ s.length := by
    rcases hsg with ⟨_, h⟩ | ⟨_, rfl, rfl, _⟩
    · have := par_len h
      omega
    · simp
  dsimp only
  have wsl : (wsOf rest).length ≤ 10001 := by
    unfold wsOf
    split
    · simp
    · have := M.sp_len 46 rest
      have := List.count_le_length (a := 46) (l := rest)
      omega
  have wse : ∀ x ∈ wsOf rest, x.length ≤ 10000 := fun x hx => by
    unfold wsOf at hx
    split at hx
    · cases hx
    · have := sp_each hx
      omega
  refine sasg_cont (R := fun v H' => ∃ l, v = .ref l ∧ Same H1 H' ∧ H' l = some (.lst (sV (wsOf rest)))) (fun Q' hQ' => ?_) fun v H2 hR => ?_
  · refine ⟨_, rfl, rfl, _, rfl, ?_⟩
    rw [emp, dec_S]
    by_cases hr0 : rest = []
    · refine iteE false (by rw [decide_eq_true hr0] <;> rfl) (iteF ⟨by decide, fun t ht => hQ' _ _ ⟨t, rfl, same_new ht, by rw [upd_same, show wsOf rest = [] from if_pos hr0]; rfl⟩⟩)
    · have hws : wsOf rest = M.sp 46 rest := if_neg hr0
      refine iteE true (by rw [decide_eq_false hr0] <;> rfl) (iteT ?_)
      refine ⟨_, rfl, ⟨_, rfl⟩, _, _, rfl, rfl, len_one (c := 46) (by decide), by rw [S_len]; exact small (by omega), fun l hl => ?_⟩
      rw [split_one (c := 46) (by decide) (by decide), ← sV_str]
      exact hQ' _ _ ⟨l, rfl, same_new hl, by rw [upd_same, hws]⟩
  obtain ⟨l, rfl, e2, hl2⟩ := hR
  dsimp only [gName]
  have dk : ∀ v x (H H' : Hp), (∃ u, v = V.ref u ∧ Due NAt H u (M.rdN x)) → TupK H H' → ∃ u, v = V.ref u ∧ Due NAt H' u (M.rdN x) := fun v x H H' ⟨u, r, z⟩ e => ⟨u, r, z.keep e fun c v q => q⟩
  refine ⟨_, rfl, l, rfl, ⟨_, sql hl2⟩, fun D hD => ?_⟩
  refine lcJ (R := fun v x H => ∃ u, v = V.ref u ∧ Due NAt H u (M.rdN x)) (wsOf rest) hD (small (by omega)) (itl_stop (sql hl2) (by simp)) (itl_go (sql hl2) (by simp)) (itl_yld (sql hl2)) dk (fun k y c H3 Q3 B hc e hx hq3 => ?_) fun H3 us e3 hD3 hus => ?_
  · rw [List.getElem?_map, hc] at hx
    have hx : some (V.str (S c)) = some y := hx
    cases hx
    have hcl := wse c (List.mem_of_getElem? hc)
    refine name_in ⟨_, rfl, rfl, _, rfl, ?_⟩
    rw [emp, dec_S]
    by_cases h0 : c = []
    · refine iteE false (by rw [decide_eq_true h0] <;> rfl) (iteF ⟨by show 2 ≤ sizeLine; decide, fun p hp => hq3 _ _ (same_new hp) ⟨p, rfl, ?_⟩⟩)
      rw [h0]
      exact due_none
    · refine iteE true (by rw [decide_eq_false h0] <;> rfl) (iteT ⟨_, rfl, _, rfl, c, 0, c, rfl, ⟨Nat.zero_le _, rfl⟩, by omega, fun hn => ?_, fun k r' hk u j H4 e4 hP hu => ?_⟩)
      · refine ⟨c, .non, rfl, by omega, .inl ⟨rfl, fun p hp => hq3 _ _ (same_new hp) ⟨p, rfl, ?_⟩⟩⟩
        have : M.rdN c = none := by unfold M.rdN; rw [hn]
        rw [this]
        exact due_none
      · refine ⟨c, .ref u, rfl, by omega, .inr ⟨u, _, j, r', rfl, hu, hP, fun hz p hp => hq3 _ _ (HL.Same.new e4 hp) ⟨p, rfl, ?_⟩, fun hz p hp => hq3 _ _ (HL.Same.new e4 hp) ⟨p, rfl, ?_⟩⟩⟩
        · have : M.rdN c = some k := by unfold M.rdN; rw [hk, hz]
          rw [this]
          exact due_some rfl
        · have : M.rdN c = none := by
            unfold M.rdN
            rw [hk]
            cases r' with
            | nil => exact absurd rfl hz
            | cons => rfl
          rw [this]
          exact due_none
  have s3 := s1.trans (e2.trans e3)
  have none_out : ∀ H', Same H H' → M.rdX s = none → ∀ p, H' p = none → Q (.ref p) (upd H' p (.tup [.str (Str.ofString "none"), .non])) := fun H' e' hn p hp => hQ _ _ (HL.Same.new e' hp) (by rw [hn]; exact due_none)
  dsimp only [gName]
  refine ⟨_, rfl, rfl, _, rfl, ?_⟩
  rw [emp, dec_S]
  rcases hsg with ⟨rfl, hpar⟩ | ⟨rfl, _, _, hpar⟩
  rotate_left
  · exact iteE true (decide_eq_true rfl) (iteT ⟨by show 2 ≤ sizeLine; decide, none_out H3 s3 (rdX_none hpar)⟩)
  refine iteE false (by decide) (iteF ?_)
  have rdx := rdX_some hpar
  refine or_cont (fun H' => Same H3 H' ∧ (nm = [] ∨ M.nmB nm = true)) (fun R' Kx => ?_) ?_
  · refine ⟨_, rfl, rfl, _, rfl, ?_⟩
    rw [dec_S]
    by_cases hn : nm = []
    · refine iteE false (by rw [decide_eq_true hn] <;> rfl) (iteF ?_)
      exact iteF (Kx H3 ⟨.refl _, .inl hn⟩)
    · refine iteE true (by rw [decide_eq_false hn] <;> rfl) (iteT ⟨_, rfl, nm, rfl, by omega, fun H' e' => ⟨_, rfl, ?_⟩⟩)
      by_cases hk : M.nmB nm = true
      · refine iteE false (by rw [hk] <;> rfl) ?_
        exact iteF (Kx H' ⟨e', .inr hk⟩)
      · refine iteE true (by simp [hk]) ?_
        refine iteT ⟨by show 2 ≤ sizeLine; decide, none_out H' (s3.trans e') ?_⟩
        rw [rdx, if_neg]
        rintro (z | z)
        · exact hn z
        · exact hk z
  rintro H4 ⟨e4, hnm⟩
  have hD4 := e4 _ _ hD3
  have hus4 := hus.imp fun v x z => dk v x _ _ z (TupK.of e4)
  have s4 := s3.trans e4
  refine ⟨by show 2 ≤ sizeLine; decide, fun pN hpN => ⟨_, rfl, dueN none, (wsOf rest).map fun x => dueN (M.rdN x), ?_, ?_, ?_, ?_, ?_, _, rfl, ?_⟩⟩
  · exact .tup (sqt (by rw [upd_same, sq "none"])) (.cons (.str _) (.cons .non .nil))
  · refine .lst (sql (same_new hpN _ _ hD4)) (dpAll_of (At := fun H x v => ∃ u, v = V.ref u ∧ Due NAt H u (M.rdN x)) (dat := fun x => dueN (M.rdN x)) (fun d v ⟨u, r, z⟩ => r ▸ dueN_dp z) (hus4.imp fun v x z => dk v x _ _ z (.of (same_new hpN))))
  · simp only [dueN, PyData.canLay0, PyData.canLayAll0, ok_none, Bool.and_true]
  · exact lay_of (G := fun _ => True) (dat := fun x => dueN (M.rdN x)) (fun d _ => (dueN_ok _).1) fun _ _ => trivial
  · have h1 : (dueN none).depth ≤ 2 := by simp [dueN, PyData.depth, PyData.depthAll]
    exact units_ok hr.units (by omega)
  have hany : (((wsOf rest).map fun x => dueN (M.rdN x)).any fun z => PyData.eqv z (dueN none)) = (wsOf rest).any fun x => (M.rdN x).isNone := by
    rw [List.any_map]
    congr 1
    funext x
    exact (dueN_ok _).2
  rw [hany]
  have e5 := same_new (o := .tup [V.str (Str.ofString "none"), .non]) hpN
  have hD5 := e5 _ _ hD4
  have hus5 := hus4.imp fun v x z => dk v x _ _ z (TupK.of e5)
  have s5 := s4.trans e5
  generalize upd H4 pN (.tup [V.str (Str.ofString "none"), .non]) = H5 at e5 hD5 hus5 s5 ⊢
  cases hb : (wsOf rest).any fun x => (M.rdN x).isNone with
  | true =>
    refine iteT ⟨by show 2 ≤ sizeLine; decide, none_out H5 s5 ?_⟩
    obtain ⟨x, hx, hn⟩ := List.any_eq_true.mp hb
    have hn : M.rdN x = none := by simpa using hn
    rw [rdx, if_pos hnm, M.mapO_none hx hn]
    rfl
  | false =>
    have hall : ∀ x ∈ wsOf rest, M.rdN x ≠ none := fun x hx hn => by
      have : ((wsOf rest).any fun x => (M.rdN x).isNone) = true := List.any_eq_true.mpr ⟨x, hx, by rw [hn]; rfl⟩
      rw [hb] at this
      cases this
    obtain ⟨ks, hks⟩ := M.mapO_all hall
    have hrd : M.rdX s = some (nm, ks) := by
      rw [rdx, if_pos hnm, hks]
      rfl
    have lu := hus5.length
    refine iteF ⟨_, rfl, _, rfl, D, rfl, ⟨_, sql hD5⟩, fun D2 hD2 => ?_⟩
    refine lcJ (R := fun v x H => ∃ k, M.rdN x = some k ∧ v = V.int (k : Nat)) (wsOf rest) hD2 (small (by omega)) (itl_stop (sql hD5) lu.symm) (itl_go (sql hD5) lu.symm) (itl_yld (sql hD5)) (fun _ _ _ _ z _ => z) (fun k y c H6 Q6 B hc e hx hq6 => ?_) fun H6 vs e6 hD6 hvs => ?_
    · obtain ⟨v, hv, u, rfl, hu⟩ := hus5.getR hc
      rw [hx] at hv
      cases hv
      obtain ⟨k', _, hk'⟩ := M.mapO_get hks hc
      rw [hk'] at hu
      obtain ⟨v, hu, rfl⟩ := hu
      exact name_in ⟨_, rfl, u, _, _, _, rfl, rfl, sqt (e _ _ hu), at1, hq6 _ _ (.refl _) ⟨k', hk', rfl⟩⟩
    · obtain ⟨ks', hks', rfl⟩ := all2_mapO (g := fun k : Nat => V.int (k : Nat)) hvs
      rw [hks] at hks'
      cases hks'
      refine ⟨D2, _, rfl, .inl ⟨sql hD6, fun t ht => ⟨by show 2 ≤ sizeLine; decide, fun p hp => ⟨by show 2 ≤ sizeLine; decide, fun u hu => hQ _ _ (HL.Same.new (HL.Same.new (HL.Same.new (s5.trans e6) ht) hp) hu) ?_⟩⟩⟩⟩
      rw [hrd]
      exact due_some ⟨p, t, rfl, same_new hu _ _ upd_same, same_new hu _ _ (same_new hp _ _ upd_same)⟩
end
end K92
end

section
set_option Elab.async false
set_option linter.all false
set_option maxRecDepth 100000
set_option maxHeartbeats 4000000
/-! k92: all answers, traces drawn. -/
namespace K92
open PySem PySem.Spec PyProof.Rows L2 He HL
theorem all2_app {α β : Type} {R : α → β → Prop} : ∀ {us vs : List α} {xs ys : List β}, All2 R us xs → All2 R vs ys → All2 R (us ++ vs) (xs ++ ys)
  | [], _, [], _, _, h => h
  | u :: us, _, x :: xs, _, h, h2 => ⟨h.1, all2_app h.2 h2⟩
  | [], _, _ :: _, _, h, _ => h.elim
  | _ :: _, _, [], _, h, _ => h.elim
theorem all2_mapR {α β γ : Type} {R : α → γ → Prop} {g : β → γ} : ∀ {us : List α} {xs : List β}, All2 (fun v x => R v (g x)) us xs → All2 R us (xs.map g)
  | [], [], _ => trivial
  | u :: us, x :: xs, h => ⟨h.1, all2_mapR h.2⟩
  | [], _ :: _, h => h.elim
  | _ :: _, [], h => h.elim
section
variable {w : World} {K : PySem.W.Frag} {mg : Str → Option Value} {base : Heap}
theorem alike_strs : ∀ xs ys : List (List Nat), PySem.W.alikeAll (sD xs) (sD ys) = true
  | [], _ => by simp [sD, PySem.W.alikeAll]
  | _ :: _, [] => by simp [sD, PySem.W.alikeAll]
  | x :: xs, y :: ys => by
    have := alike_strs xs ys
    have e1 : sD (x :: xs) = .str (S x) :: sD xs := rfl
    have e2 : sD (y :: ys) = .str (S y) :: sD ys := rfl
    rw [e1, e2]
    simp [PySem.W.alikeAll, PySem.W.alike, this]
abbrev n_law_all_answers : List Str := ["_law_asks", "_law_found", "_law_name", "_law_one_here"]
theorem sc_law_all_answers : FnScope n_law_all_answers ["_law_asks"] (defScope s_law_all_answers) := ⟨rfl, rfl, rfl, by decide +kernel, rfl, by decide +kernel, by decide +kernel⟩
theorem bi_law_all_answers : ∀ (kV doc pm : Value) (an : Option Addr) (cdv ct : Value) (us : List Value), us.length = 1 → bindArgs (PySem.W.fnOf d_law_all_answers.name d_law_all_answers.qual d_law_all_answers.params d_law_all_answers.body d_law_all_answers.scope .none kV doc pm an cdv ct) ⟨us, []⟩ = pure ([("_law_asks" : Str)].zip us) := fun kV doc pm an cdv ct us hu => by
  match us, hu with
  | [u0], _ => rfl
def spAllA : Sp := fun vs H Q _ => ∃ t ns, vs = [.ref t] ∧ Names H t ns ∧ ∀ l us H', Same H H' → H l = none → H' l = some (.lst us) → us ≠ [] → us.length ≤ 1024 → (∀ v ∈ us, ∃ x, AAt H' x v ∧ x.length ≤ 10 ∧ ∀ n ∈ x, M.Nm n) → Q (.ref l) H'
theorem o_all (W : Wl K mg) : OkD w K mg base CX0 1 d_law_all_answers ["_law_asks"] spAllA := by
  refine HL.ok_of0 W.D_law_all_answers sc_law_all_answers (fun vs H Q E ⟨_, _, h, _⟩ => by rw [h]; rfl) bi_law_all_answers fun cdv A outer s H vs Q E hr h => ?_
  have nd := sc_law_all_answers.nd
  refine ⟨_, (pss_cons (ps_set (i := 1) nd rfl (Or.inl rfl) (pe_lst (pa_cons (pe_tup pa_nil) pa_nil)))
    (pss_cons (ps_for PassesOwn.never rfl (pi_tup (pv 0)) (pg_name (i := 2) nd rfl (Or.inr rfl)) (pss_one (ps_set (i := 1) nd rfl (Or.inl rfl) (pe_op op_cat (pv 1) (pe_lc (own := [("_law_one_here", 3)]) (g := gName 3) (tt := tYes) (by rfl) nd (pi_list (pv 1)) (blkOk_by (own := [("_law_one_here", 3)]) (N := n_law_all_answers) (sc := defScope s_law_all_answers) (by decide +kernel)) (fun _ _ _ _ _ => pg_name (i := 3) nd rfl (Or.inl rfl)) (fun _ _ _ _ _ => pts_nil) (fun _ _ _ _ _ => (pe_op (r := rCatA K) op_catA (pv 3) (pe_tup (pa_cons (pv 2) pa_nil)))))))))
    (pss_one (ps_ret (pe_callB (XT.call_sortD rfl) (by rfl) W.f_sorted (by decide +kernel) (pa_cons (pv 1) pa_nil)))))), ?_⟩
  obtain ⟨t, ns, rfl, ⟨ht, hnm, hnl⟩, hq⟩ := h
  refine ⟨by decide, fun t0 ht0 => ⟨by show 1 ≤ sizeLine; decide, fun l hl => ?_⟩⟩
  have s1 := (same_new (o := .tup []) ht0).trans (same_new (o := .lst [V.ref t0]) hl)
  have hl1 : upd (upd H t0 (.tup [])) l (.lst [V.ref t0]) l = some (.lst [V.ref t0]) := upd_same
  have ht1 := same_new (o := .lst [V.ref t0]) hl _ _ (upd_same (H := H) (a := t0) (o := .tup []))
  generalize upd (upd H t0 (.tup [])) l (.lst [V.ref t0]) = H1 at s1 hl1 ht1 ⊢
  dsimp only [gName]
  refine ⟨_, rfl, t, rfl, ⟨_, sqt (s1 _ _ ht)⟩, for_tup (xs := sV ns) (fun i σ Hi => ∃ l2 x2 us r, σ = [some (.ref t), some (.ref l2), x2, none] ∧ Same H1 Hi ∧ Hi l2 = some (.lst us) ∧ us.length = 2 ^ i ∧ All2 (fun v x => AAt Hi x v) us ([] :: r) ∧ ∀ x ∈ r, x.length ≤ i ∧ ∀ n ∈ x, M.Nm n) ⟨l, none, _, [], rfl, .refl _, hl1, rfl, ⟨⟨t0, rfl, ht1⟩, trivial⟩, fun _ z => (nomatch z)⟩ ?_ ?_ ?_⟩
  · rintro i σ Hi _ ⟨l2, x2, us, r, rfl, si, _⟩
    exact sqt (si _ _ (s1 _ _ ht))
  · rintro i x σ Hi hx ⟨l2, x2, us, r, rfl, si, hl2, hul, hA, hr2⟩
    have hi : i < ns.length := by
      have := (List.getElem?_eq_some_iff.mp hx).1
      simpa using this
    obtain ⟨n, hn⟩ : ∃ n, ns[i]? = some n := ⟨_, List.getElem?_eq_getElem hi⟩
    rw [List.getElem?_map, hn] at hx
    have hx : some (V.str (S n)) = some x := hx
    cases hx
    have nmn := hnm n (List.mem_of_getElem? hn)
    have p2 : 2 ^ i ≤ 1024 := Nat.le_trans (Nat.pow_le_pow_right (by decide) (show i ≤ 10 by omega)) (by decide)
    have hal := hA.length
    dsimp only [gName]
    refine ⟨_, rfl, _, rfl, l2, rfl, ⟨_, sql hl2⟩, fun D hD => ?_⟩
    refine lcJ (R := fun v x H => AAt H (x ++ [n]) v) ([] :: r) hD (small (by omega)) (itl_stop (sql hl2) hal.symm) (itl_go (sql hl2) hal.symm) (itl_yld (sql hl2)) (fun v x H H' z e => z.keep e) (fun k y c H3 Q3 B hc e hy hq3 => ?_) fun H3 vs e3 hD3 hvs => ?_
    · obtain ⟨v, hv, a, rfl, ha⟩ := hA.getR hc
      rw [hy] at hv
      cases hv
      have ha3 := e _ _ ha
      have hcl : c.length ≤ 10 := by
        rcases List.mem_cons.mp (List.mem_of_getElem? hc) with rfl | hm
        · simp
        · have := (hr2 c hm).1
          omega
      refine name_in ⟨_, rfl, _, rfl, by show 1 ≤ sizeLine; decide, fun p hp => ⟨a, p, _, _, rfl, rfl, sqt (same_new hp _ _ ha3), sqt upd_same, ?_, fun hz => ?_, fun _ hz => absurd hz (by simp), fun hz _ p2 hp2 => ?_⟩⟩
      · show (sV c).length + 1 ≤ sizeLine
        rw [List.length_map]
        exact small (by omega)
      · have hc0 : c = [] := by simpa using hz
        exact hq3 _ _ (same_new hp) ⟨p, rfl, by rw [upd_same, hc0]; rfl⟩
      · exact hq3 _ _ (HL.Same.new (same_new hp) hp2) ⟨p2, rfl, by rw [upd_same]; simp⟩
    · have hvl := hvs.length
      refine ⟨l2, D, us, vs, rfl, rfl, e3 _ _ hl2, hD3, ?_, fun p hp => ?_⟩
      · simp only [List.length_cons] at hal hvl
        exact small (by omega)
      refine ⟨p, _, us ++ vs, r ++ ([] :: r).map (· ++ [n]), rfl, HL.Same.new (si.trans e3) hp, upd_same, ?_, ?_, fun z hz => ?_⟩
      · rw [List.length_append, hul, hvl, ← hal, hul, Nat.pow_succ]
        omega
      · have e4 := same_new (o := .lst (us ++ vs)) hp
        exact all2_app (R := fun v x => AAt (upd H3 p (.lst (us ++ vs))) x v) (hA.imp fun v x z => z.keep (.of (e3.trans e4))) (all2_mapR (g := fun x => x ++ [n]) (hvs.imp fun v x z => AAt.keep z (.of e4)))
      · rcases List.mem_append.mp hz with hz | hz
        · exact ⟨by have := (hr2 z hz).1; omega, (hr2 z hz).2⟩
        · obtain ⟨y, hy, rfl⟩ := List.mem_map.mp hz
          have hy2 : y.length ≤ i ∧ ∀ m ∈ y, M.Nm m := by
            rcases List.mem_cons.mp hy with rfl | hy
            · exact ⟨Nat.zero_le _, fun _ z => (nomatch z)⟩
            · exact hr2 y hy
          refine ⟨by rw [List.length_append, List.length_singleton]; omega, fun m hm => ?_⟩
          rcases List.mem_append.mp hm with hm | hm
          · exact hy2.2 m hm
          · rw [List.mem_singleton.mp hm]
            exact nmn
  · rintro σ Hi ⟨l2, x2, us, r, rfl, si, hl2, hul, hA, hr2⟩
    have hln : (sV ns).length = ns.length := List.length_map _
    rw [hln] at hul hr2
    have p2 : 2 ^ ns.length ≤ 1024 := Nat.le_trans (Nat.pow_le_pow_right (by decide) hnl) (by decide)
    have hal := hA.length
    have hds : ∀ d ∈ ([] :: r).map (fun x => PyData.tuple (sD x)), ∃ x, d = PyData.tuple (sD x) := fun d hd => by
      obtain ⟨x, _, rfl⟩ := List.mem_map.mp hd
      exact ⟨x, rfl⟩
    dsimp only
    refine ⟨_, rfl, l2, us, ([] :: r).map (fun x => PyData.tuple (sD x)), rfl, sql hl2, ?_, ?_, .inr ⟨⟨_, rfl⟩, fun d hd => ?_⟩, fun d hd => ?_, fun p hp => ?_⟩
    · exact dpAll_of (At := fun H x v => AAt H x v) (dat := fun x => PyData.tuple (sD x)) (fun d v ⟨u, r, z⟩ => r ▸ .tup (sqt z) (sD_dp d)) hA
    · intro d hd d' hd'
      obtain ⟨x, rfl⟩ := hds d hd
      obtain ⟨y, rfl⟩ := hds d' hd'
      rw [PySem.W.alike]
      exact alike_strs x y
    · obtain ⟨x, rfl⟩ := hds d hd
      exact ⟨_, rfl⟩
    · obtain ⟨x, rfl⟩ := hds d hd
      have : (PyData.tuple (sD x)).depth = 1 := by simp [PyData.depth, sD_depth]
      rw [this]
      exact Nat.lt_of_le_of_lt (Nat.add_le_add_left (show 2 + 1 ≤ 64 by decide) _) hr.units
    · have lz : (((us.zip (([] :: r).map (fun x => PyData.tuple (sD x)))).mergeSort (PySem.W.dataLe false Prod.snd)).map Prod.fst).length = us.length := by
        rw [List.length_map, List.length_mergeSort, List.length_zip, List.length_map, hal, Nat.min_self]
      refine hq p _ _ (HL.Same.new (s1.trans si) hp) ((s1.trans si).free hp) upd_same (fun z => ?_) (by rw [lz, hul]; exact p2) fun v hv => ?_
      · rw [z] at lz
        simp only [List.length_nil] at lz
        have := Nat.pow_pos (n := ns.length) (show 0 < 2 by decide)
        omega
      · obtain ⟨q, hq2, rfl⟩ := List.mem_map.mp hv
        have hq3 := List.mem_mergeSort.mp hq2
        obtain ⟨q1, q2⟩ := q
        have hu := (List.of_mem_zip hq3).1
        obtain ⟨k, hk⟩ := List.getElem?_of_mem hu
        obtain ⟨x, hx, hAx⟩ := hA.get hk
        refine ⟨x, AAt.keep hAx (.of (same_new hp)), ?_⟩
        rcases List.mem_cons.mp (List.mem_of_getElem? hx) with rfl | hm
        · exact ⟨by simp, fun _ z => (nomatch z)⟩
        · have := hr2 x hm
          exact ⟨by omega, this.2⟩
end
end K92
end

section
set_option Elab.async false
set_option linter.all false
set_option maxRecDepth 100000
set_option maxHeartbeats 4000000
/-! k92: traces and facts drawn. -/
namespace K92
open PySem PySem.Spec PyProof.Rows L2 He HL
theorem tif_cont {c : TT} {t f : TS} {D : Ends} {σ : L2.St} {H : Hp} (P1 P2 : Hp → Prop) (hc : ∀ R : Bool → Hp → Prop, (∀ H', P1 H' → R true H') → (∀ H', P2 H' → R false H') → c σ H R) (h1 : ∀ H', P1 H' → t D σ H') (h2 : ∀ H', P2 H' → f D σ H') : tIfS c t f D σ H :=
  hc _ (fun H' h => iteT (h1 H' h)) (fun H' h => iteF (h2 H' h))
section
variable {w : World} {K : PySem.W.Frag} {mg : Str → Option Value} {base : Heap}
/-- few names -/
def Few (x : List (List Nat)) : Prop := x.length ≤ 10 ∧ ∀ n ∈ x, M.Nm n
def FewT (t : M.Trace) (k : Nat) : Prop := Few t.1 ∧ (∀ x ∈ t.2, M.Nm x.1 ∧ Few x.2) ∧ t.2.length ≤ k
abbrev n_law_some_trace : List Str := ["_law_bag_here", "_law_asks", "_law_steps", "_law_upto", "_law_every", "_law_turns", "_law_k"]
theorem sc_law_some_trace : FnScope n_law_some_trace ["_law_bag_here", "_law_asks", "_law_steps", "_law_upto"] (defScope s_law_some_trace) := ⟨rfl, rfl, rfl, by decide +kernel, rfl, by decide +kernel, by decide +kernel⟩
theorem bi_law_some_trace : ∀ (kV doc pm : Value) (an : Option Addr) (cdv ct : Value) (us : List Value), us.length = 4 → bindArgs (PySem.W.fnOf d_law_some_trace.name d_law_some_trace.qual d_law_some_trace.params d_law_some_trace.body d_law_some_trace.scope .none kV doc pm an cdv ct) ⟨us, []⟩ = pure ([("_law_bag_here" : Str), ("_law_asks" : Str), ("_law_steps" : Str), ("_law_upto" : Str)].zip us) := fun kV doc pm an cdv ct us hu => by
  match us, hu with
  | [u0, u1, u2, u3], _ => rfl
def spSomeT : Sp := fun vs H Q _ => ∃ b c ta tS na nS upto, vs = [.ref b, .ref ta, .ref tS, .int (upto : Nat)] ∧ upto ≤ 8 ∧ Bag H b c ∧ Names H ta na ∧ Names H tS nS ∧ ∀ v t H', SameB b H H' → Bag H' b c → RAt H' t v → FewT t upto → Q v H'
theorem one_ans {H : Hp} {b c l : Addr} {us : List V} {Q : VK} {E : XK} (hB : Bag H b c) (hl : H l = some (.lst us)) (nl : l ≠ b) (h0 : us ≠ []) (h1 : us.length ≤ 1024) (hus : ∀ v ∈ us, ∃ x, AAt H x v ∧ Few x) (h : ∀ t x H', SameB b H H' → Bag H' b c → H' t = some (.tup (sV x)) → Few x → Q (.ref t) H') : spOne K [.ref b, .ref l] H Q E :=
  ⟨b, c, l, us, rfl, hB, List.length_pos_iff.mpr h0, by omega, .inl fun H' e => sql (e _ _ hl nl), fun v hv H' e hB' => by
    obtain ⟨x, ⟨t, rfl, ht⟩, hf⟩ := hus v hv
    exact h t x H' e hB' (hB.tup e _ _ ht) hf⟩
/-- t[:1] -/
theorem slice1 {i : Nat} {σ : L2.St} {H : Hp} {Q : VK} {tS : Addr} {nS : List (List Nat)} (hσ : σ[i]? = some (some (.ref tS))) (hN : Names H tS nS) (h : ∀ a xs H', Same H H' → H' a = some (.tup xs) → xs.length = min 1 nS.length → Q (.ref a) H') : tSl (rSlA K) (tVar i) tNoPart (tPart (tC (.int 1))) σ H Q := by
  refine ⟨_, hσ, 1, rfl, tS, sV nS, rfl, sqt hN.1, fun hz => h tS (sV nS) H (.refl _) hN.1 ?_, fun hz p hp => h p _ _ (same_new hp) upd_same ?_⟩
  · have h2 := hz.2
    have e : HT.sIx (sV nS).length (sV nS).length (some 1) = min 1 (sV nS).length := HT.sIx_nat _ _ 1
    rw [e] at h2
    rw [List.length_map] at h2 ⊢
    omega
  · unfold cutV
    rw [HT.sIx_none]
    have e : HT.sIx (sV nS).length (sV nS).length (some 1) = min 1 (sV nS).length := HT.sIx_nat _ _ 1
    rw [e, List.length_take, List.length_drop, List.length_map]
    omega
theorem o_some_trace (W : Wl K mg) : OkD w K mg base CX0 4 d_law_some_trace ["_law_bag_here", "_law_asks", "_law_steps", "_law_upto"] spSomeT := by
  have O__law_take := o_take (w := w) (base := base) W
  have O__law_one := o_one (w := w) (base := base) W
  have O__law_all_answers := o_all (w := w) (base := base) W
  refine HL.ok_of0 W.D_law_some_trace sc_law_some_trace (fun vs H Q E ⟨_, _, _, _, _, _, _, h, _⟩ => by rw [h]; rfl) bi_law_some_trace fun cdv A outer s H vs Q E hr h => ?_
  have nd := sc_law_some_trace.nd
  refine ⟨_, (pss_cons (ps_par (i := 4) (j := 5) (by rfl) nd rfl rfl (by decide) rfl rfl (pa_cons (pe_cal O__law_all_answers (hr.mono (by omega)) W.g__law_all_answers pass0 (pa_cons (pv 1) pa_nil)) (pa_cons (pe_lst pa_nil) pa_nil)) (by rfl))
    (pss_cons (ps_for PassesOwn.never rfl (pi_range1 (by rfl) W.f_range (pa_cons (pe_op op_mul (pe_cal O__law_take (hr.mono (by omega)) W.g__law_take pass0 (pa_cons (pv 0) (pa_cons (pe_op op_add (pv 3) pe_int) pa_nil))) (pe_callB call_len_seq (by rfl) W.f_len (by decide +kernel) (pa_cons (pe_slice sl_tupA (pv 2) po_none (po_some pe_int)) pa_nil))) pa_nil)) (pg_name (i := 6) nd rfl (Or.inl rfl)) (pss_one (ps_expr (pe_bm PySem.F.plainAttrs_list PySem.F.slot_list_append PySem.F.type_list_append mt_append (pv 5) (pa_cons (pe_tup (pa_cons (pe_cal O__law_one (hr.mono (by omega)) W.g__law_one pass0 (pa_cons (pv 0) (pa_cons (pv 2) pa_nil))) (pa_cons (pe_cal O__law_one (hr.mono (by omega)) W.g__law_one pass0 (pa_cons (pv 0) (pa_cons (pv 4) pa_nil))) pa_nil))) pa_nil)))))
    (pss_one (ps_ret (pe_tup (pa_cons (pe_cal O__law_one (hr.mono (by omega)) W.g__law_one pass0 (pa_cons (pv 0) (pa_cons (pv 4) pa_nil))) (pa_cons (pv 5) pa_nil))))))), ?_⟩
  obtain ⟨b, c, ta, tS, na, nS, upto, rfl, hup, hB, hNa, hNs, hq⟩ := h
  refine ⟨_, rfl, ta, na, rfl, hNa, fun l us H1 e1 hl hl1 h0 h1024 hus => ⟨by decide, fun L hL => ?_⟩⟩
  have s2 := HL.Same.new (o := .lst []) e1 hL
  have hB1 := hB.keep e1
  have nlb : l ≠ b := (hB.ne hl).1
  have nLb : L ≠ b := (hB1.ne hL).1
  have nLl : L ≠ l := (ne_of_none hl1 hL).symm
  have hLH := e1.free hL
  have hl2 := same_new (o := .lst []) hL _ _ hl1
  have hL2 : upd H1 L (.lst []) L = some (.lst []) := upd_same
  have hB2 := hB1.keep (same_new (o := .lst []) hL)
  have hus2 : ∀ v ∈ us, ∃ x, AAt (upd H1 L (.lst [])) x v ∧ Few x := fun v hv => let ⟨x, h1, h2⟩ := hus v hv; ⟨x, h1.keep (.of (same_new hL)), h2⟩
  generalize upd H1 L (.lst []) = H2 at s2 hl2 hL2 hB2 hus2 ⊢
  have tk2 := TupK.of s2
  have hNs2 := hNs.keep tk2
  refine ⟨_, _, rfl, ?_⟩
  have eu : ((upto : Nat) : Int) + 1 = ((upto + 1 : Nat) : Int) := by omega
  refine ⟨_, rfl, _, rfl, _, _, rfl, rfl, b, c, upto + 1, (congrArg (fun z => [V.ref b, V.int z]) eu), by omega, by omega, hB2, fun m H3 hm e3 hB3 => ?_⟩
  have hNs3 := hNs2.keep (hB2.tup e3)
  refine slice1 (K := K) rfl hNs3 fun a xs H4 e4 h4 hxl => ?_
  have hB4 := hB3.keep e4
  refine ⟨a, xs, rfl, .inr (sqt h4), _, _, rfl, rfl, .inl ⟨by omega, by omega⟩, _, rfl, ?_, ?_, ?_⟩
  · have : (0 : Int) ≤ (m : Int) * (xs.length : Int) := Int.mul_nonneg (by omega) (by omega)
    exact Int.le_trans (by decide) this
  · have h1 : m * xs.length ≤ 8 := by
      have : xs.length ≤ 1 := by omega
      calc m * xs.length ≤ m * 1 := Nat.mul_le_mul_left _ this
        _ ≤ 8 := by omega
    have h2 : (m : Int) * (xs.length : Int) = ((m * xs.length : Nat) : Int) := by rw [Int.natCast_mul]
    show (m : Int) * (xs.length : Int) < _
    rw [h2]
    exact Int.lt_of_le_of_lt (show ((m * xs.length : Nat) : Int) ≤ 8 by omega) (by decide)
  have en : ((m : Int) * (xs.length : Int)).toNat = m * xs.length := by rw [← Int.natCast_mul]; rfl
  have hn1 : m * xs.length ≤ upto := by
    have : xs.length ≤ 1 := by omega
    calc m * xs.length ≤ m * 1 := Nat.mul_le_mul_left _ this
      _ ≤ upto := by omega
  have e24 : SameB b H2 H4 := e3.trans (.of e4)
  refine for_range (lo := 0) (n := ((m : Int) * (xs.length : Int)).toNat) (fun i σ Hi => ∃ x6, σ = [some (.ref b), some (.ref ta), some (.ref tS), some (.int (upto : Nat)), some (.ref l), some (.ref L), x6] ∧ TupK H2 Hi ∧ (∀ b' o, H b' = some o → b' ≠ b → Hi b' = some o) ∧ Bag Hi b c ∧ Hi l = some (.lst us) ∧ ∃ ts tr, Hi L = some (.lst ts) ∧ ts.length = i ∧ All2 (fun v x => UAt Hi x v) ts tr ∧ ∀ x ∈ tr, M.Nm x.1 ∧ Few x.2)
    ⟨none, rfl, hB2.tup e24, fun b' o h n => e24 _ _ (s2 _ _ h) n, hB4, e24 _ _ hl2 nlb, [], [], e24 _ _ hL2 nLb, rfl, trivial, fun _ z => (nomatch z)⟩ ?_ ?_
  · rintro i σ Hi hi ⟨x6, rfl, si, si2, hBi, hli, ts, tr, hLi, htl, hA, htr⟩
    rw [en] at hi
    have hne : nS ≠ [] := fun z => by
      rw [z] at hxl
      have : xs.length = 0 := by simpa using hxl
      rw [this] at hi
      simp at hi
    have tki := si
    have hNi := hNs2.keep tki
    have husi : ∀ v ∈ us, ∃ x, AAt Hi x v ∧ Few x := fun v hv => let ⟨x, h1, h2⟩ := hus2 v hv; ⟨x, h1.keep tki, h2⟩
    dsimp only [gName]
    refine ⟨_, rfl, .inl ⟨rfl, _, sql hLi⟩, _, rfl, _, rfl, one_name (E := L2.E0) hBi hNi hne fun n hn H5 e5 hB5 => ⟨_, rfl, _, rfl, one_ans (E := L2.E0) hB5 (e5 _ _ hli nlb) nlb h0 h1024 (fun v hv => let ⟨x, h1, h2⟩ := husi v hv; ⟨x, h1.keep (hBi.tup e5), h2⟩) fun t x H6 e6 hB6 ht hf => ⟨by show 2 ≤ sizeLine; decide, fun T hT => ?_⟩⟩⟩
    have e56 := e5.trans e6
    have e7 := same_new (o := .tup [V.str (S n), .ref t]) hT
    have hL6 := e7 _ _ (e56 _ _ hLi nLb)
    have hl6 := e7 _ _ (e56 _ _ hli nlb)
    have hB7 := hB6.keep e7
    have tk7 : TupK Hi (upd H6 T (.tup [V.str (S n), .ref t])) := (hBi.tup e56).trans (.of e7)
    have hT7 : upd H6 T (.tup [V.str (S n), .ref t]) T = some (.tup [V.str (S n), .ref t]) := upd_same
    have ht7 := e7 _ _ ht
    have s7 : SameB b Hi (upd H6 T (.tup [V.str (S n), .ref t])) := e56.trans (.of e7)
    generalize upd H6 T (.tup [V.str (S n), .ref t]) = H7 at hL6 hl6 hB7 tk7 hT7 ht7 s7 ⊢
    have tk8 : TupK H7 (upd H7 L (.lst (ts ++ [.ref T]))) := (TupK.refl H7).mut hL6 (fun xs q => nomatch q)
    refine ⟨L, ts, _, rfl, rfl, hL6, Nat.lt_of_lt_of_le (show ts.length < 1000000 by omega) (by decide), ?_⟩
    have nLc : L ≠ c := by
      obtain ⟨_, _, _, _, _, hc, _⟩ := hB1
      exact (ne_of_none hc hL).symm
    refine ⟨_, rfl, ?_, fun b' o h n' => ?_, hB7.put nLb nLc, by rw [upd_ne nLl.symm]; exact hl6, ts ++ [.ref T], tr ++ [(n, x)], upd_same, by rw [List.length_append, htl]; rfl, ?_, fun z hz => ?_⟩
    · exact si.trans (tk7.trans tk8)
    · rw [upd_ne (fun z => by rw [z, hLH] at h; cases h)]
      exact s7 _ _ (si2 _ _ h n') n'
    · exact All2.snoc (R := fun v x => UAt (upd H7 L (.lst (ts ++ [.ref T]))) x v) (b := (n, x)) ⟨T, t, rfl, tk8 _ _ hT7, tk8 _ _ ht7⟩ (hA.imp fun v x z => z.keep (tk7.trans tk8))
    · rcases List.mem_append.mp hz with hz | hz
      · exact htr z hz
      · rw [List.mem_singleton.mp hz]
        exact ⟨hn, hf⟩
  · rintro σ Hi ⟨x6, rfl, si, si2, hBi, hli, ts, tr, hLi, htl, hA, htr⟩
    rw [en] at htl
    have tki := si
    refine ⟨_, rfl, _, rfl, one_ans (E := L2.E0) hBi hli nlb h0 h1024 (fun v hv => let ⟨x, h1, h2⟩ := hus2 v hv; ⟨x, h1.keep tki, h2⟩) fun t x H6 e6 hB6 ht hf => ⟨_, rfl, by show 2 ≤ sizeLine; decide, fun p hp => hq _ (x, tr) _ ((SameB.trans si2 e6).new hp) (hB6.keep (same_new hp)) ⟨p, t, L, ts, rfl, upd_same, same_new hp _ _ ht, same_new hp _ _ (e6 _ _ hLi nLb), hA.imp fun v x z => z.keep ((hBi.tup e6).trans (.of (same_new hp)))⟩ ⟨hf, htr, ?_⟩⟩⟩
    have := hA.length
    show tr.length ≤ upto
    omega
abbrev n_law_told : List Str := ["_law_bag_here", "_law_asks", "_law_steps", "_law_upto", "_law_found", "_law_k", "_law_way", "_law_some", "_law_step", "_law_ask", "_law_other"]
theorem sc_law_told : FnScope n_law_told ["_law_bag_here", "_law_asks", "_law_steps", "_law_upto"] (defScope s_law_told) := ⟨rfl, rfl, rfl, by decide +kernel, rfl, by decide +kernel, by decide +kernel⟩
theorem bi_law_told : ∀ (kV doc pm : Value) (an : Option Addr) (cdv ct : Value) (us : List Value), us.length = 4 → bindArgs (PySem.W.fnOf d_law_told.name d_law_told.qual d_law_told.params d_law_told.body d_law_told.scope .none kV doc pm an cdv ct) ⟨us, []⟩ = pure ([("_law_bag_here" : Str), ("_law_asks" : Str), ("_law_steps" : Str), ("_law_upto" : Str)].zip us) := fun kV doc pm an cdv ct us hu => by
  match us, hu with
  | [u0, u1, u2, u3], _ => rfl
def FewF (f : M.Fact) : Prop := f.wf ∧ M.om f.sh ≤ 40 ∧ f.sh.length ≤ 400
def spTold : Sp := fun vs H Q _ => ∃ b c ta tS na nS upto, vs = [.ref b, .ref ta, .ref tS, .int (upto : Nat)] ∧ upto ≤ 8 ∧ Bag H b c ∧ Names H ta na ∧ Names H tS nS ∧ ∀ l us H', SameB b H H' → Bag H' b c → H l = none → H' l = some (.lst us) → us.length ≤ upto → (∀ v ∈ us, ∃ f, FAt H' f v ∧ FewF f) → Q (.ref l) H'
theorem o_told (W : Wl K mg) : OkD w K mg base CX0 6 d_law_told ["_law_bag_here", "_law_asks", "_law_steps", "_law_upto"] spTold := by
  have O__law_take := o_take (w := w) (base := base) W
  have O__law_one := o_one (w := w) (base := base) W
  have O__law_condition := o_cnd (w := w) (base := base) W 1 4 (by omega)
  refine HL.ok_of0 W.D_law_told sc_law_told (fun vs H Q E ⟨_, _, _, _, _, _, _, h, _⟩ => by rw [h]; rfl) bi_law_told fun cdv A outer s H vs Q E hr h => ?_
  have nd := sc_law_told.nd
  refine ⟨_, (pss_cons (ps_set (i := 4) nd rfl (Or.inl rfl) (pe_lst pa_nil))
    (pss_cons (ps_for PassesOwn.never rfl (pi_range1 (by rfl) W.f_range (pa_cons (pe_cal O__law_take (hr.mono (by omega)) W.g__law_take pass0 (pa_cons (pv 0) (pa_cons (pe_op op_add (pv 3) pe_int) pa_nil))) pa_nil)) (pg_name (i := 5) nd rfl (Or.inl rfl)) (pss_cons (ps_set (i := 6) nd rfl (Or.inl rfl) (pe_cal O__law_take (hr.mono (by omega)) W.g__law_take pass0 (pa_cons (pv 0) (pa_cons pe_int pa_nil))))
      (pss_one (ps_if (PW.pt (pw_or (pt_cmpR op_lt (pv 6) pe_int (nomark _)) (pw_or (pt_cmpR XP.op_eqNil (pv 1) (pe_tup pa_nil) (nomark _)) (pw_or1 (pt_cmpR XP.op_eqNil (pv 2) (pe_tup pa_nil) (nomark _)))))) (pss_cons (ps_set (i := 7) nd rfl (Or.inl rfl) (pe_tup (pa_cons (pe_cal O__law_condition (hr.mono (by omega)) W.g__law_condition pass0 (pa_cons (pv 0) (pa_cons (pv 1) (pa_cons pe_int pa_nil)))) (pa_cons (pe_cal O__law_condition (hr.mono (by omega)) W.g__law_condition pass0 (pa_cons (pv 0) (pa_cons (pv 1) (pa_cons pe_int pa_nil)))) pa_nil))))
        (pss_one (ps_expr (pe_bm PySem.F.plainAttrs_list PySem.F.slot_list_append PySem.F.type_list_append mt_append (pv 4) (pa_cons (pe_tup (pa_cons pe_str (pa_cons (pe_ifExp (pt_cmpR op_ne (pv 6) pe_int (nomark _)) (pe_tup (pa_cons pe_str (pa_cons (pv 7) pa_nil))) (pe_ix ix_tup (pv 7) pe_int (fun _ _ => rfl))) pa_nil))) pa_nil))))) (pss_cons (ps_par3 (i := 8) (j := 9) (l := 10) (by rfl) nd rfl rfl rfl (by decide) (by decide) (by decide) rfl rfl rfl (pa_cons (pe_cal O__law_one (hr.mono (by omega)) W.g__law_one pass0 (pa_cons (pv 0) (pa_cons (pv 2) pa_nil))) (pa_cons (pe_cal O__law_one (hr.mono (by omega)) W.g__law_one pass0 (pa_cons (pv 0) (pa_cons (pv 1) pa_nil))) (pa_cons (pe_cal O__law_condition (hr.mono (by omega)) W.g__law_condition pass0 (pa_cons (pv 0) (pa_cons (pv 1) (pa_cons pe_int pa_nil)))) pa_nil))) (by rfl))
        (pss_one (ps_expr (pe_bm PySem.F.plainAttrs_list PySem.F.slot_list_append PySem.F.type_list_append mt_append (pv 4) (pa_cons (pe_tup (pa_cons pe_str (pa_cons (pv 8) (pa_cons (pv 9) (pa_cons (pe_ix ix_list (pe_lst (pa_cons (pe_tup (pa_cons pe_str (pa_cons (pv 9) pa_nil))) (pa_cons (pe_tup (pa_cons pe_str (pa_cons (pv 9) pa_nil))) (pa_cons (pe_tup (pa_cons pe_str pa_nil)) (pa_cons (pe_tup (pa_cons pe_str pa_nil)) (pa_cons (pv 10) pa_nil)))))) (pe_op op_sub (pv 6) pe_int) (fun _ _ => rfl)) pa_nil))))) pa_nil)))))))))
    (pss_cons (ps_if (PW.pt (pw_and (pt_cmpR op_gt (pe_callB call_len_seq (by rfl) W.f_len (by decide +kernel) (pa_cons (pv 4) pa_nil)) pe_int (nomark _)) (pw_and1 (pt_cmpR op_eq (pe_cal O__law_take (hr.mono (by omega)) W.g__law_take pass0 (pa_cons (pv 0) (pa_cons pe_int pa_nil))) pe_int (nomark _))))) (pss_one (ps_asg (pe_ix ix_list (pv 4) pe_int (fun _ _ => rfl)) (pg_sub (pv 4) (pe_un un_neg pe_int) set_list))) pss_nil)
    (pss_one (ps_ret (pv 4)))))), ?_⟩
  obtain ⟨b, c, ta, tS, na, nS, upto, rfl, hup, hB, hNa, hNs, hq⟩ := h
  refine ⟨by decide, fun L hL => ?_⟩
  have nLb : L ≠ b := (hB.ne hL).1
  have nLc : L ≠ c := (hB.ne hL).2
  have s1 := same_new (o := .lst []) hL
  have hL1 : upd H L (.lst []) L = some (.lst []) := upd_same
  have hB1 := hB.keep s1
  generalize upd H L (.lst []) = H1 at s1 hL1 hB1 ⊢
  have hNa1 := hNa.keep (.of s1)
  have hNs1 := hNs.keep (.of s1)
  have eu : ((upto : Nat) : Int) + 1 = ((upto + 1 : Nat) : Int) := by omega
  have un : ∀ {k : Nat} {A' : Around}, Room k A' → A'.units + 10 < cLine := fun r => Nat.lt_of_le_of_lt (Nat.add_le_add_left (by decide) _) r.units
  refine ⟨_, rfl, _, rfl, _, _, rfl, rfl, b, c, upto + 1, (congrArg (fun z => [V.ref b, V.int z]) eu), by omega, by omega, hB1, fun m H2 hm e2 hB2 => ⟨_, rfl, by omega, by omega, ?_⟩⟩
  refine for_range (lo := 0) (n := ((m : Nat) : Int).toNat) (fun i σ Hi => ∃ x5 x6 x7 x8 x9 x10, σ = [some (.ref b), some (.ref ta), some (.ref tS), some (.int (upto : Nat)), some (.ref L), x5, x6, x7, x8, x9, x10] ∧ TupK H1 Hi ∧ (∀ b' o, H b' = some o → b' ≠ b → Hi b' = some o) ∧ Bag Hi b c ∧ ∃ us, Hi L = some (.lst us) ∧ us.length = i ∧ ∀ v ∈ us, ∃ f, FAt Hi f v ∧ FewF f)
    ⟨_, _, _, _, _, _, rfl, hB1.tup e2, fun b' o h n => e2 _ _ (s1 _ _ h) n, hB2, [], e2 _ _ hL1 nLb, rfl, fun _ z => (nomatch z)⟩ ?_ ?_
  · rintro i σ Hi hi ⟨x5, x6, x7, x8, x9, x10, rfl, si, si2, hBi, us, hLi, hul, hus⟩
    have hNai := hNa1.keep si
    have hNsi := hNs1.keep si
    -- a fact more
    have more : ∀ (Hj H7 : Hp) (σ7 : L2.St) (T : Addr) (f : M.Fact), SameB b Hi Hj → Bag Hj b c → Same Hj H7 → FAt H7 f (.ref T) → FewF f → (∃ x5 x6 x7 x8 x9 x10, σ7 = [some (.ref b), some (.ref ta), some (.ref tS), some (.int (upto : Nat)), some (.ref L), x5, x6, x7, x8, x9, x10]) →
        rAppend (.ref L) [.ref T] H7 fun _ H8 => ∃ x5 x6 x7 x8 x9 x10, σ7 = [some (.ref b), some (.ref ta), some (.ref tS), some (.int (upto : Nat)), some (.ref L), x5, x6, x7, x8, x9, x10] ∧ TupK H1 H8 ∧ (∀ b' o, H b' = some o → b' ≠ b → H8 b' = some o) ∧ Bag H8 b c ∧ ∃ us, H8 L = some (.lst us) ∧ us.length = i + 1 ∧ ∀ v ∈ us, ∃ f, FAt H8 f v ∧ FewF f := by
      intro Hj H7 σ7 T f ej hBj e7 hf hff ⟨y5, y6, y7, y8, y9, y10, hσ⟩
      have hL7 := e7 _ _ (ej _ _ hLi nLb)
      have tk8 : TupK H7 (upd H7 L (.lst (us ++ [.ref T]))) := (TupK.refl H7).mut hL7 (fun xs q => nomatch q)
      have tki7 : TupK Hi H7 := (hBi.tup ej).trans (.of e7)
      refine ⟨L, us, _, rfl, rfl, hL7, Nat.lt_of_lt_of_le (show us.length < 1000000 by omega) (by decide), y5, y6, y7, y8, y9, y10, hσ, si.trans (tki7.trans tk8), fun b' o h n => ?_, (hBj.keep e7).put nLb nLc, us ++ [.ref T], upd_same, by rw [List.length_append, hul]; rfl, fun v hv => ?_⟩
      · rw [upd_ne (fun z => by rw [z, hL] at h; cases h)]
        exact e7 _ _ (ej _ _ (si2 _ _ h n) n)
      · rcases List.mem_append.mp hv with hv | hv
        · obtain ⟨g, h1, h2⟩ := hus v hv
          exact ⟨g, h1.keep (tki7.trans tk8), h2⟩
        · rw [List.mem_singleton.mp hv]
          exact ⟨f, hf.keep tk8, hff⟩
    dsimp only [gName]
    refine ⟨_, rfl, b, c, 7, rfl, by decide, by decide, hBi, fun way H3 hway e3 hB3 => ?_⟩
    have hNa3 := hNai.keep (hBi.tup e3)
    have hNs3 := hNsi.keep (hBi.tup e3)
    dsimp only [gName]
    refine tif_cont (fun H' => Same H3 H') (fun H' => Same H3 H' ∧ 2 ≤ way ∧ na ≠ [] ∧ nS ≠ []) (fun R hT hF => ?_) (fun H4 e4 => ?_) (fun H4 ⟨e4, h2, hna, hns⟩ => ?_)
    · refine ⟨_, rfl, _, _, rfl, rfl, _, rfl, ?_⟩
      by_cases h2 : way < 2
      · exact iteE true (decide_eq_true (by omega)) (iteT (hT _ (.refl _)))
      refine iteE false (decide_eq_false (by omega)) (iteF ?_)
      refine ⟨_, rfl, by decide, fun p hp => ⟨hr.units0, ta, p, _, rfl, rfl, .inr ⟨sqt (same_new hp _ _ hNa3.1), sqt upd_same⟩, _, rfl, ?_⟩⟩
      by_cases h3 : na = []
      · exact iteE true (by rw [h3]; rfl) (iteT (hT _ (same_new hp)))
      refine iteE false (by cases na with | nil => exact absurd rfl h3 | cons => rfl) (iteF ?_)
      refine ⟨_, rfl, by decide, fun p2 hp2 => ⟨hr.units0, tS, p2, _, rfl, rfl, .inr ⟨sqt (same_new hp2 _ _ (same_new hp _ _ hNs3.1)), sqt upd_same⟩, _, rfl, ?_⟩⟩
      by_cases h4 : nS = []
      · have e : id (sV nS).isEmpty = true := by rw [h4]; rfl
        rw [e]
        exact hT _ ((same_new hp).trans (same_new hp2))
      · have e : id (sV nS).isEmpty = false := by
          cases nS with
          | nil => exact absurd rfl h4
          | cons => rfl
        rw [e]
        exact hF _ ⟨(same_new hp).trans (same_new hp2), by omega, h3, h4⟩
    · -- always
      have hB4 := hB3.keep e4
      have hNa4 := hNa3.keep (.of e4)
      refine ⟨_, rfl, _, rfl, b, c, ta, na, rfl, hB4, hNa4, fun v1 c1 H5 e5 hB5 hc1 => ⟨_, rfl, _, rfl, b, c, ta, na, rfl, hB5, hNa4.keep (hB4.tup e5), fun v2 c2 H6 e6 hB6 hc2 => ⟨by show 2 ≤ sizeLine; decide, fun ts hts => ?_⟩⟩⟩
      have e7 := same_new (o := .tup [v1, v2]) hts
      have hts7 : upd H6 ts (.tup [v1, v2]) ts = some (.tup [v1, v2]) := upd_same
      have a1 := (hc1.1.keep (hB5.tup e6)).keep (.of e7)
      have a2 := hc2.1.keep (.of e7)
      generalize upd H6 ts (.tup [v1, v2]) = H7 at e7 hts7 a1 a2 ⊢
      have ej : SameB b Hi H6 := e3.trans ((SameB.of e4).trans (e5.trans e6))
      obtain ⟨_, w1, o1, l1⟩ := hc1
      obtain ⟨_, w2, o2, l2⟩ := hc2
      have c01 : cO 1 = 5 := rfl
      have c02 : cL 1 = 36 := rfl
      rw [c01] at o1 o2
      rw [c02] at l1 l2
      dsimp only [gName]
      refine ⟨_, rfl, .inl ⟨rfl, _, sql (e7 _ _ (ej _ _ hLi nLb))⟩, ?_⟩
      dsimp only [tCons, tTup, tNil, tC]
      refine te_cont (R := fun v H' => ∃ x, Same H7 H' ∧ CAt H' x v ∧ x.wf ∧ M.om x.sh ≤ 20 ∧ x.sh.length ≤ 100) (fun Q' hQ' => ?_) fun v H8 ⟨x, e8, hx, hw, ho, hl⟩ => ?_
      · refine ⟨_, rfl, rfl, _, rfl, ?_⟩
        by_cases h0 : way = 0
        · refine iteE false (by rw [h0] <;> rfl) (iteF ⟨_, rfl, ts, _, _, _, rfl, rfl, sqt hts7, at0, hQ' _ _ ⟨c1, .refl _, a1, w1, by omega, by omega⟩⟩)
        · refine iteE true ?_ (iteT ⟨_, rfl, by show 2 ≤ sizeLine; decide, fun t1 ht1 => hQ' _ _ ⟨.many false [c1, c2], same_new ht1, ?_, ?_, ?_, ?_⟩⟩)
          · rw [decide_eq_false (fun z => h0 (by injection z with z; omega))]
            rfl
          · unfold CAt
            exact ⟨t1, ts, [v1, v2], rfl, by rw [upd_same, sq "any"]; rfl, same_new ht1 _ _ hts7, cAtL_iff.mpr ⟨a1.keep (.of (same_new ht1)), a2.keep (.of (same_new ht1)), trivial⟩⟩
          · exact (M.wfC_iff [c1, c2]).mpr fun z hz => by
              rcases List.mem_cons.mp hz with rfl | hz
              · exact w1
              · rw [List.mem_singleton.mp hz]
                exact w2
          · show M.om (M.q "any" ++ (M.q "(" ++ ((c1.sh ++ (M.q ", " ++ c2.sh)) ++ M.q ")"))) ≤ 20
            simp only [M.om_app]
            have q1 : M.om (M.q "any") = 0 := by decide
            have q2 : M.om (M.q "(") = 3 := by decide
            have q3 : M.om (M.q ", ") = 1 := by decide
            have q4 : M.om (M.q ")") = 0 := by decide
            omega
          · show (M.q "any" ++ (M.q "(" ++ ((c1.sh ++ (M.q ", " ++ c2.sh)) ++ M.q ")"))).length ≤ 100
            simp only [List.length_append]
            have q1 : (M.q "any").length = 3 := by decide
            have q2 : (M.q "(").length = 1 := by decide
            have q3 : (M.q ", ").length = 2 := by decide
            have q4 : (M.q ")").length = 1 := by decide
            omega
      · refine ⟨by show 2 ≤ sizeLine; decide, fun T hT => ?_⟩
        refine more H6 _ _ T (.alw x) ej hB6 (HL.Same.new (e7.trans e8) hT) ⟨T, v, rfl, by rw [upd_same, sq "always"], hx.keep (.of (same_new hT))⟩ ⟨hw, ?_, ?_⟩ ⟨_, _, _, _, _, _, rfl⟩
        · rw [alS_sh, M.om_app, show M.om (M.q "always ") = 1 by decide]
          omega
        · rw [alS_sh, List.length_append, show (M.q "always ").length = 7 by decide]
          omega
    · -- makes
      have hB4 := hB3.keep e4
      have hNa4 := hNa3.keep (.of e4)
      have hNs4 := hNs3.keep (.of e4)
      refine ⟨_, rfl, _, rfl, one_name (E := L2.E0) hB4 hNs4 hns fun n1 hn1 H5 e5 hB5 => ⟨_, rfl, _, rfl, one_name (E := L2.E0) hB5 (hNa4.keep (hB4.tup e5)) hna fun n2 hn2 H6 e6 hB6 => ⟨_, rfl, _, rfl, b, c, ta, na, rfl, hB6, hNa4.keep ((hB4.tup e5).trans (hB5.tup e6)), fun v x H7 e7 hB7 hx => ⟨_, _, _, rfl, ?_⟩⟩⟩⟩
      have ej : SameB b Hi H7 := e3.trans ((SameB.of e4).trans (e5.trans (e6.trans e7)))
      obtain ⟨hAt, hw, ho, hl⟩ := hx
      have c01 : cO 1 = 5 := rfl
      have c02 : cL 1 = 36 := rfl
      rw [c01] at ho
      rw [c02] at hl
      have s2 := hn2.most
      have s1' := hn1.most
      refine ⟨_, rfl, .inl ⟨rfl, _, sql (ej _ _ hLi nLb)⟩, _, rfl, _, rfl, _, rfl, by show 2 ≤ sizeLine; decide, fun a1 h1 => ⟨_, rfl, by show 2 ≤ sizeLine; decide, fun a2 h2' => ⟨by show 1 ≤ sizeLine; decide, fun a3 h3 => ⟨by show 1 ≤ sizeLine; decide, fun a4 h4 => ⟨_, rfl, by show 5 ≤ sizeLine; decide, fun ll hll => ?_⟩⟩⟩⟩⟩
      have k1 := same_new (o := .tup [V.str (Str.ofString "ask"), .str (S n2)]) h1
      have k2 := same_new (o := .tup [V.str (Str.ofString "ask"), .str (S n2)]) h2'
      have k3 := same_new (o := .tup [V.str (Str.ofString "yes")]) h3
      have k4 := same_new (o := .tup [V.str (Str.ofString "no")]) h4
      have k5 := same_new (o := .lst [V.ref a1, .ref a2, .ref a3, .ref a4, v]) hll
      have m1 := k5 _ _ (k4 _ _ (k3 _ _ (k2 _ _ (upd_same (H := H7) (a := a1) (o := .tup [V.str (Str.ofString "ask"), .str (S n2)])))))
      have m2 := k5 _ _ (k4 _ _ (k3 _ _ (upd_same (H := upd H7 a1 (.tup [V.str (Str.ofString "ask"), .str (S n2)])) (a := a2) (o := .tup [V.str (Str.ofString "ask"), .str (S n2)]))))
      have m3 := k5 _ _ (k4 _ _ (upd_same (H := upd (upd H7 a1 (.tup [V.str (Str.ofString "ask"), .str (S n2)])) a2 (.tup [V.str (Str.ofString "ask"), .str (S n2)])) (a := a3) (o := .tup [V.str (Str.ofString "yes")])))
      have m4 := k5 _ _ (upd_same (H := upd (upd (upd H7 a1 (.tup [V.str (Str.ofString "ask"), .str (S n2)])) a2 (.tup [V.str (Str.ofString "ask"), .str (S n2)])) a3 (.tup [V.str (Str.ofString "yes")])) (a := a4) (o := .tup [V.str (Str.ofString "no")]))
      have m5 : upd (upd (upd (upd (upd H7 a1 (.tup [V.str (Str.ofString "ask"), .str (S n2)])) a2 (.tup [V.str (Str.ofString "ask"), .str (S n2)])) a3 (.tup [V.str (Str.ofString "yes")])) a4 (.tup [V.str (Str.ofString "no")])) ll (.lst [V.ref a1, .ref a2, .ref a3, .ref a4, v]) ll = some (.lst [V.ref a1, .ref a2, .ref a3, .ref a4, v]) := upd_same
      have k := k1.trans (k2.trans (k3.trans (k4.trans k5)))
      generalize upd (upd (upd (upd (upd H7 a1 (.tup [V.str (Str.ofString "ask"), .str (S n2)])) a2 (.tup [V.str (Str.ofString "ask"), .str (S n2)])) a3 (.tup [V.str (Str.ofString "yes")])) a4 (.tup [V.str (Str.ofString "no")])) ll (.lst [V.ref a1, .ref a2, .ref a3, .ref a4, v]) = H8 at m1 m2 m3 m4 m5 k ⊢
      have key : ∃ v0 x0, atI [V.ref a1, .ref a2, .ref a3, .ref a4, v] ((way : Int) - 2) = some v0 ∧ CAt H8 x0 v0 ∧ x0.wf ∧ M.om x0.sh ≤ 20 ∧ x0.sh.length ≤ 100 := by
        have hask : ∀ a, H8 a = some (.tup [V.str (Str.ofString "ask"), .str (S n2)]) → CAt H8 (.ask n2) (.ref a) := fun a h => by
          unfold CAt
          exact ⟨a, rfl, by rw [h, sq "ask"]⟩
        have hom : M.om (M.Cond.ask n2).sh ≤ 20 := by
          show M.om (M.q "?" ++ n2) ≤ 20
          rw [M.om_app, nm_om hn2.all, show M.om (M.q "?") = 0 by decide]
          decide
        have hln : (M.Cond.ask n2).sh.length ≤ 100 := by
          show (M.q "?" ++ n2).length ≤ 100
          rw [List.length_append, show (M.q "?").length = 1 by decide]
          omega
        have h5 : way = 2 ∨ way = 3 ∨ way = 4 ∨ way = 5 ∨ way = 6 := by omega
        rcases h5 with rfl | rfl | rfl | rfl | rfl
        · exact ⟨_, .ask n2, rfl, hask _ m1, hn2, hom, hln⟩
        · exact ⟨_, .ask n2, rfl, hask _ m2, hn2, hom, hln⟩
        · refine ⟨_, .word true, rfl, ?_, trivial, by decide, by decide⟩
          unfold CAt
          exact ⟨a3, rfl, by rw [m3, sq "yes"]; rfl⟩
        · refine ⟨_, .word false, rfl, ?_, trivial, by decide, by decide⟩
          unfold CAt
          exact ⟨a4, rfl, by rw [m4, sq "no"]; rfl⟩
        · exact ⟨_, x, rfl, hAt.keep (.of k), hw, by omega, by omega⟩
      obtain ⟨v0, x0, h0, hAt0, hw0, ho0, hl0⟩ := key
      refine ⟨_, rfl, _, _, rfl, rfl, ll, _, _, _, rfl, rfl, sql m5, h0, by show 4 ≤ sizeLine; decide, fun T hT => ?_⟩
      refine more H7 _ _ T (.mk n1 n2 x0) ej hB7 (HL.Same.new k hT) ⟨T, v0, rfl, by rw [upd_same, sq "makes"], hAt0.keep (.of (same_new hT))⟩ ⟨⟨hn1, hn2, hw0⟩, ?_, ?_⟩ ⟨_, _, _, _, _, _, rfl⟩
      · show M.om (M.mkS n1 n2 x0.sh) ≤ 40
        unfold M.mkS
        simp only [M.om_app, nm_om hn1.all, nm_om hn2.all]
        have q1 : M.om (M.q "makes") = 0 := by decide
        have q2 : M.om (M.q " ") = 1 := by decide
        omega
      · show (M.mkS n1 n2 x0.sh).length ≤ 400
        unfold M.mkS
        simp only [List.length_append]
        have q1 : (M.q "makes").length = 5 := by decide
        have q2 : (M.q " ").length = 1 := by decide
        omega
  · rintro σ Hi ⟨x5, x6, x7, x8, x9, x10, rfl, si, si2, hBi, us, hLi, hul, hus⟩
    have hul : us.length = m := by simpa using hul
    dsimp only
    refine seq_cont (fun σ' H' => σ' = [some (.ref b), some (.ref ta), some (.ref tS), some (.int (upto : Nat)), some (.ref L), x5, x6, x7, x8, x9, x10] ∧ (∀ b' o, H b' = some o → b' ≠ b → H' b' = some o) ∧ Bag H' b c ∧ ∃ us, H' L = some (.lst us) ∧ us.length = m ∧ ∀ v ∈ us, ∃ f, FAt H' f v ∧ FewF f) (fun N hN => ?_) (fun σ' H' ⟨hσ, s2', hB', us', hL', hul', hus'⟩ => ?_)
    · refine tif_cont (fun H' => SameB b Hi H' ∧ Bag H' b c ∧ 1 < us.length) (fun H' => SameB b Hi H' ∧ Bag H' b c) (fun R hT hF => ?_) (fun H4 ⟨e4, hB4, hg⟩ => ?_) (fun H4 ⟨e4, hB4⟩ => ?_)
      · refine ⟨_, rfl, L, _, rfl, .inl (sql hLi), _, _, rfl, rfl, _, rfl, ?_⟩
        by_cases hg : 1 < us.length
        · refine iteE true (decide_eq_true (by omega)) (iteT ⟨_, rfl, b, c, 6, rfl, by decide, by decide, hBi, fun n H3 hn e3 hB3 => ⟨rfl, _, rfl, ?_⟩⟩)
          cases hd : decide (V.int (n : Nat) = V.int 0) with
          | true => exact hT _ ⟨e3, hB3, hg⟩
          | false => exact hF _ ⟨e3, hB3⟩
        · exact iteE false (decide_eq_false (by omega)) (iteF (hF _ ⟨.refl _ _, hBi⟩))
      · have hL4 := e4 _ _ hLi nLb
        obtain ⟨u0, hu0⟩ : ∃ u0, us[0]? = some u0 := ⟨_, List.getElem?_eq_getElem (by omega)⟩
        have ix : ixN us.length (-1) = some (us.length - 1) := by
          unfold ixN
          rw [if_neg (by decide), if_pos (by omega)]
          congr 1
          omega
        refine ⟨_, rfl, L, _, _, u0, rfl, rfl, sql hL4, (show atI us ((0 : Nat) : Int) = some u0 from atI_nat hu0), _, rfl, 1, rfl, L, us, -1, us.length - 1, rfl, rfl, hL4, ix, ?_⟩
        have tk5 : TupK H4 (upd H4 L (.lst (us.set (us.length - 1) u0))) := (TupK.refl H4).mut hL4 (fun xs q => nomatch q)
        refine hN _ _ ⟨rfl, fun b' o h n => ?_, hB4.put nLb nLc, _, upd_same, by rw [List.length_set, hul], fun v hv => ?_⟩
        · rw [upd_ne (fun z => by rw [z, hL] at h; cases h)]
          exact e4 _ _ (si2 _ _ h n) n
        · have hv2 : v ∈ us := by
            rcases List.mem_or_eq_of_mem_set hv with h | h
            · exact h
            · rw [h]
              exact List.mem_of_getElem? hu0
          obtain ⟨g, h1, h2⟩ := hus v hv2
          exact ⟨g, h1.keep ((hBi.tup e4).trans tk5), h2⟩
      · exact hN _ _ ⟨rfl, fun b' o h n => e4 _ _ (si2 _ _ h n) n, hB4, us, e4 _ _ hLi nLb, hul, fun v hv => let ⟨g, h1, h2⟩ := hus v hv; ⟨g, h1.keep (hBi.tup e4), h2⟩⟩
    · subst hσ
      exact ⟨_, rfl, hq L us' H' s2' hB' hL hL' (by omega) hus'⟩
end
end K92
end

section
set_option Elab.async false
set_option linter.all false
set_option maxRecDepth 100000
set_option maxHeartbeats 4000000
/-! k92: the texts drawn. -/
namespace K92
open PySem PySem.Spec PyProof.Rows L2 He HL
theorem nm_c0 {n : List Nat} (h : M.Nm n) : n.count 43 = 0 := List.count_eq_zero.mpr fun z => by
  have := h.all 43 z
  revert this
  decide
theorem c_app (a b : List Nat) : (a ++ b).count 43 = a.count 43 + b.count 43 := List.count_append ..
mutual
theorem cnd_c0 : ∀ c : M.Cond, c.wf → c.sh.count 43 = 0
  | .word true, _ => by decide
  | .word false, _ => by decide
  | .ask n, h => by
    show (M.q "?" ++ n).count 43 = 0
    rw [c_app, nm_c0 h]
    decide
  | .neg c, h => by
    show (M.q "not" ++ (M.q "(" ++ (c.sh ++ M.q ")"))).count 43 = 0
    simp only [c_app, cnd_c0 c h]
    decide
  | .many b cs, h => by
    have h1 := joinN (f := fun x => x.count 43) rfl c_app (b := M.q ", ") (k := 0) (ys := M.shC cs) fun y hy => Nat.le_of_eq (cnds_c0 cs h y hy)
    have h2 : (TL.joinL (M.q ", ") (M.shC cs)).count 43 = 0 := by
      have e : 0 + (M.q ", ").count 43 = 0 := by decide
      have h3 : (TL.joinL (M.q ", ") (M.shC cs)).count 43 ≤ (M.shC cs).length * (0 + (M.q ", ").count 43) := h1
      rw [e] at h3
      omega
    show (M.nq b ++ (M.q "(" ++ (TL.joinL (M.q ", ") (M.shC cs) ++ M.q ")"))).count 43 = 0
    simp only [c_app, h2]
    cases b <;> decide
theorem cnds_c0 : ∀ cs : List M.Cond, M.wfC cs → ∀ y ∈ M.shC cs, y.count 43 = 0
  | [], _, y, hy => nomatch hy
  | c :: cs, h, y, hy => by
    have h' : c.wf ∧ M.wfC cs := h
    rcases List.mem_cons.mp (show y ∈ c.sh :: M.shC cs from hy) with rfl | hy
    · exact cnd_c0 c h'.1
    · exact cnds_c0 cs h'.2 y hy
end
theorem fact_c0 : ∀ f : M.Fact, f.wf → f.sh.count 43 = 0
  | .alw c, h => by
    have h' : c.wf := h
    show (M.q "always" ++ (M.q " " ++ c.sh)).count 43 = 0
    simp only [c_app, cnd_c0 c h']
    decide
  | .mk a b c, h => by
    have h' : M.Nm a ∧ M.Nm b ∧ c.wf := h
    show (M.q "makes" ++ (M.q " " ++ (a ++ (M.q " " ++ (b ++ (M.q " " ++ c.sh)))))).count 43 = 0
    simp only [c_app, nm_c0 h'.1, nm_c0 h'.2.1, cnd_c0 c h'.2.2]
    decide
theorem few_sh {x : List (List Nat)} (h : Few x) : (M.shA x).length ≤ 90 ∧ M.om (M.shA x) ≤ 0 ∧ (M.shA x).count 43 ≤ 10 := by
  unfold M.shA
  split
  · decide
  have h1 := joinN (f := List.length) rfl (fun a b => List.length_append ..) (b := [43]) (k := 8) (ys := x) fun y hy => (h.2 y hy).most
  have h2 := joinN (f := M.om) rfl M.om_app (b := [43]) (k := 0) (ys := x) fun y hy => Nat.le_of_eq (nm_om (h.2 y hy).all)
  have h3 := joinN (f := fun x => x.count 43) rfl c_app (b := [43]) (k := 0) (ys := x) fun y hy => Nat.le_of_eq (nm_c0 (h.2 y hy))
  have q1 : ([43] : List Nat).length = 1 := rfl
  have q2 : M.om [43] = 0 := by decide
  have q3 : ([43] : List Nat).count 43 = 1 := by decide
  have h3 : (TL.joinL [43] x).count 43 ≤ x.length * (0 + ([43] : List Nat).count 43) := h3
  rw [q1] at h1
  rw [q2] at h2
  rw [q3] at h3
  have := h.1
  refine ⟨?_, ?_, ?_⟩ <;> omega
theorem fewT_sh {t : M.Trace} (h : FewT t 5) : (M.shT t).length ≤ 606 ∧ M.om (M.shT t) ≤ 12 ∧ (M.shT t).count 43 ≤ 60 := by
  have hx : ∀ y ∈ M.shA t.1 :: t.2.map M.turnS, y.length ≤ 100 ∧ M.om y ≤ 1 ∧ y.count 43 ≤ 10 := fun y hy => by
    rcases List.mem_cons.mp hy with rfl | hy
    · have := few_sh h.1
      omega
    · obtain ⟨u, hu, rfl⟩ := List.mem_map.mp hy
      have h1 := few_sh (h.2.1 u hu).2
      have h2 := (h.2.1 u hu).1
      have h3 := h2.most
      have h4 := nm_om h2.all
      have h5 := nm_c0 h2
      unfold M.turnS
      simp only [List.length_append, M.om_app, c_app]
      have q1 : (M.q "> ").length = 2 := by decide
      have q2 : M.om (M.q "> ") = 1 := by decide
      have q3 : (M.q "> ").count 43 = 0 := by decide
      omega
  have h1 := joinN (f := List.length) rfl (fun a b => List.length_append ..) (b := M.q " ") (k := 100) fun y hy => (hx y hy).1
  have h2 := joinN (f := M.om) rfl M.om_app (b := M.q " ") (k := 1) fun y hy => (hx y hy).2.1
  have h3 := joinN (f := fun x => x.count 43) rfl c_app (b := M.q " ") (k := 10) fun y hy => (hx y hy).2.2
  have h3 : (TL.joinL (M.q " ") (M.shA t.1 :: t.2.map M.turnS)).count 43 ≤ (M.shA t.1 :: t.2.map M.turnS).length * (10 + (M.q " ").count 43) := h3
  have q1 : (M.q " ").length = 1 := by decide
  have q2 : M.om (M.q " ") = 1 := by decide
  have q3 : (M.q " ").count 43 = 0 := by decide
  rw [q1] at h1
  rw [q2] at h2
  rw [q3] at h3
  have hl : (M.shA t.1 :: t.2.map M.turnS).length ≤ 6 := by
    have := h.2.2
    simp only [List.length_cons, List.length_map]
    omega
  unfold M.shT
  refine ⟨?_, ?_, ?_⟩ <;> omega
/-- a number of an address -/
def XD (v : V) (k : Nat) : Prop := v = .int (k : Nat) ∧ k < 1000000000 ∧ (TL.numL k).length ≤ 9 ∧ M.om (TL.numL k) ≤ 0
theorem addr_sh {x : M.Addr'} (h1 : x.1.length ≤ 8) (h2 : M.om x.1 ≤ 0) (h3 : x.2.length ≤ 3) (h : ∀ k ∈ x.2, (TL.numL k).length ≤ 9 ∧ M.om (TL.numL k) ≤ 0) : (M.shX x).length ≤ 50 ∧ M.om (M.shX x) ≤ 0 := by
  have hx : ∀ y ∈ x.2.map TL.numL, y.length ≤ 9 ∧ M.om y ≤ 0 := fun y hy => by
    obtain ⟨u, hu, rfl⟩ := List.mem_map.mp hy
    exact h u hu
  have g1 := joinN (f := List.length) rfl (fun a b => List.length_append ..) (b := M.q ".") (k := 9) fun y hy => (hx y hy).1
  have g2 := joinN (f := M.om) rfl M.om_app (b := M.q ".") (k := 0) fun y hy => (hx y hy).2
  have q1 : (M.q ".").length = 1 := by decide
  have q2 : M.om (M.q ".") = 0 := by decide
  have q3 : (M.q ":").length = 1 := by decide
  have q4 : M.om (M.q ":") = 0 := by decide
  rw [q1, List.length_map] at g1
  rw [q2, List.length_map] at g2
  unfold M.shX
  simp only [List.length_append, M.om_app]
  omega
section
variable {w : World} {K : PySem.W.Frag} {mg : Str → Option Value} {base : Heap}
abbrev n_law_text : List Str := ["_law_bag_here", "_law_asks", "_law_steps", "_law_facts", "_law_some", "_law_path", "_law_k"]
theorem sc_law_text : FnScope n_law_text ["_law_bag_here"] (defScope s_law_text) := ⟨rfl, rfl, rfl, by decide +kernel, rfl, by decide +kernel, by decide +kernel⟩
theorem bi_law_text : ∀ (kV doc pm : Value) (an : Option Addr) (cdv ct : Value) (us : List Value), us.length = 1 → bindArgs (PySem.W.fnOf d_law_text.name d_law_text.qual d_law_text.params d_law_text.body d_law_text.scope .none kV doc pm an cdv ct) ⟨us, []⟩ = pure ([("_law_bag_here" : Str)].zip us) := fun kV doc pm an cdv ct us hu => by
  match us, hu with
  | [u0], _ => rfl
def spText : Sp := fun vs H Q _ => ∃ b c, vs = [.ref b] ∧ Bag H b c ∧ ∀ v H', SameB b H H' → Bag H' b c → Tx H' b v → Q v H'
theorem o_text (W : Wl K mg) : OkD w K mg base CX0 150 d_law_text ["_law_bag_here"] spText := by
  have O__law_take := o_take (w := w) (base := base) W
  have O__law_one := o_one (w := w) (base := base) W
  have O__law_names := o_names (w := w) (base := base) W
  have O__law_told := o_told (w := w) (base := base) W
  have O__law_condition := o_cnd (w := w) (base := base) W 2 5 (by omega)
  have O__law_all_answers := o_all (w := w) (base := base) W
  have O__law_answers_text := o_latext (w := w) (base := base) W
  have O__law_fact_text := o_lftext (w := w) (base := base) W 140 (by omega)
  have O__law_some_trace := o_some_trace (w := w) (base := base) W
  have O__law_trace_text := o_lttext (w := w) (base := base) W
  have O__law_address_text := o_lxtext (w := w) (base := base) W
  refine HL.ok_of0 W.D_law_text sc_law_text (fun vs H Q E ⟨_, _, h, _⟩ => by rw [h]; rfl) bi_law_text fun cdv A outer s H vs Q E hr h => ?_
  have nd := sc_law_text.nd
  refine ⟨_, (pss_cons (ps_par (i := 1) (j := 2) (by rfl) nd rfl rfl (by decide) rfl rfl (pa_cons (pe_cal O__law_names (hr.mono (by omega)) W.g__law_names pass0 (pa_cons (pv 0) (pa_cons (pe_cal O__law_take (hr.mono (by omega)) W.g__law_take pass0 (pa_cons (pv 0) (pa_cons pe_int pa_nil))) pa_nil))) (pa_cons (pe_cal O__law_names (hr.mono (by omega)) W.g__law_names pass0 (pa_cons (pv 0) (pa_cons (pe_cal O__law_take (hr.mono (by omega)) W.g__law_take pass0 (pa_cons (pv 0) (pa_cons pe_int pa_nil))) pa_nil))) pa_nil)) (by rfl))
    (pss_cons (ps_set (i := 3) nd rfl (Or.inl rfl) (pe_op op_cat (pe_cal O__law_told (hr.mono (by omega)) W.g__law_told pass0 (pa_cons (pv 0) (pa_cons (pv 1) (pa_cons (pv 2) (pa_cons pe_int pa_nil))))) (pe_lst (pa_cons (pe_tup (pa_cons pe_str (pa_cons pe_str (pa_cons pe_str (pa_cons (pe_cal O__law_condition (hr.mono (by omega)) W.g__law_condition pass0 (pa_cons (pv 0) (pa_cons (pv 1) (pa_cons pe_int pa_nil)))) pa_nil))))) pa_nil))))
    (pss_cons (ps_set (i := 4) nd rfl (Or.inl rfl) (pe_lst (pa_cons (pe_cal O__law_answers_text (hr.mono (by omega)) W.g__law_answers_text pass0 (pa_cons (pe_cal O__law_one (hr.mono (by omega)) W.g__law_one pass0 (pa_cons (pv 0) (pa_cons (pe_cal O__law_all_answers (hr.mono (by omega)) W.g__law_all_answers pass0 (pa_cons (pv 1) pa_nil)) pa_nil))) pa_nil)) (pa_cons (pe_cal O__law_fact_text (hr.mono (by omega)) W.g__law_fact_text pass0 (pa_cons (pe_cal O__law_one (hr.mono (by omega)) W.g__law_one pass0 (pa_cons (pv 0) (pa_cons (pv 3) pa_nil))) pa_nil)) pa_nil))))
    (pss_cons (ps_expr (pe_bm PySem.F.plainAttrs_list PySem.F.slot_list_append PySem.F.type_list_append mt_append (pv 4) (pa_cons (pe_cal O__law_trace_text (hr.mono (by omega)) W.g__law_trace_text pass0 (pa_cons (pe_cal O__law_some_trace (hr.mono (by omega)) W.g__law_some_trace pass0 (pa_cons (pv 0) (pa_cons (pv 1) (pa_cons (pv 2) (pa_cons pe_int pa_nil))))) pa_nil)) pa_nil)))
    (pss_cons (ps_set (i := 5) nd rfl (Or.inl rfl) (pe_callTy call_tuple_of (by rfl) W.f_tuple (by decide +kernel) (pa_cons (pe_lc (own := [("_law_k", 6)]) (g := gName 6) (tt := tYes) (by rfl) nd (pi_range1 (by rfl) W.f_range (pa_cons (pe_cal O__law_take (hr.mono (by omega)) W.g__law_take pass0 (pa_cons (pv 0) (pa_cons pe_int pa_nil))) pa_nil)) (blkOk_by (own := [("_law_k", 6)]) (N := n_law_text) (sc := defScope s_law_text) (by decide +kernel)) (fun _ _ _ _ _ => pg_name (i := 6) nd rfl (Or.inl rfl)) (fun _ _ _ _ _ => pts_nil) (fun _ _ _ _ _ => (pe_cal O__law_one (hr.mono (by omega)) W.g__law_one pass0 (pa_cons (pv 0) (pa_cons (pe_lst (pa_cons pe_int (pa_cons pe_int (pa_cons pe_int (pa_cons pe_int pa_nil))))) pa_nil))))) pa_nil)))
    (pss_cons (ps_expr (pe_bm PySem.F.plainAttrs_list PySem.F.slot_list_append PySem.F.type_list_append mt_append (pv 4) (pa_cons (pe_cal O__law_address_text (hr.mono (by omega)) W.g__law_address_text pass0 (pa_cons (pe_tup (pa_cons (pe_cal O__law_one (hr.mono (by omega)) W.g__law_one pass0 (pa_cons (pv 0) (pa_cons (pe_lst (pa_cons pe_str (pa_cons pe_str (pa_cons pe_str pa_nil)))) pa_nil))) (pa_cons (pv 5) pa_nil))) pa_nil)) pa_nil)))
    (pss_one (ps_ret (pe_cal O__law_one (hr.mono (by omega)) W.g__law_one pass0 (pa_cons (pv 0) (pa_cons (pe_op op_cat (pe_op op_cat (pv 4) (pv 4)) (pe_lst (pa_cons pe_non (pa_cons pe_int (pa_cons (pe_tup pa_nil) (pa_cons pe_str (pa_cons pe_str (pa_cons pe_str (pa_cons pe_str (pa_cons pe_str (pa_cons pe_str (pa_cons pe_str pa_nil)))))))))))) pa_nil))))))))))), ?_⟩
  obtain ⟨b, c, rfl, hB, hq⟩ := h
  refine ⟨_, rfl, _, rfl, b, c, 5, rfl, by decide, by decide, hB, fun m1 H1 hm1 e1 hB1 => ⟨b, c, m1, rfl, by omega, hB1, fun t1 n1 H2 e2 hB2 hN1 => ?_⟩⟩
  refine ⟨_, rfl, _, rfl, b, c, 6, rfl, by decide, by decide, hB2, fun m2 H3 hm2 e3 hB3 => ⟨b, c, m2, rfl, by omega, hB3, fun t2 n2 H4 e4 hB4 hN2 => ⟨_, _, rfl, ?_⟩⟩⟩
  have hN1' := hN1.keep ((hB2.tup e3).trans (hB3.tup e4))
  have e04 : SameB b H H4 := e1.trans (e2.trans (e3.trans e4))
  clear e1 e2 e3 e4 hN1 hB hB1 hB2 hB3
  refine ⟨_, rfl, _, rfl, _, rfl, b, c, t1, t2, n1, n2, 2, rfl, by decide, hB4, hN1', hN2, fun l5 us5 H5 e5 hB5 hl5n hl5 hul5 hus5 => ?_⟩
  refine ⟨_, rfl, _, rfl, b, c, t1, n1, rfl, hB5, hN1'.keep (hB4.tup e5), fun vc xc H6 e6 hB6 hxc => ?_⟩
  have tk6 := hB5.tup e6
  refine ⟨by show 4 ≤ sizeLine; decide, fun F hF => ⟨by show 1 ≤ sizeLine; decide, fun l7 hl7 => ?_⟩⟩
  have nl5 : l5 ≠ b := (hB4.ne hl5n).1
  have s7 := same_new (o := .tup [V.str (Str.ofString "makes"), V.str (Str.ofString "a"), V.str (Str.ofString "b"), vc]) hF
  have s7' := same_new (o := .lst [V.ref F]) hl7
  have hl7v : upd (upd H6 F (.tup [V.str (Str.ofString "makes"), V.str (Str.ofString "a"), V.str (Str.ofString "b"), vc])) l7 (.lst [V.ref F]) l7 = some (.lst [V.ref F]) := upd_same
  have hFv := s7' _ _ (upd_same (H := H6) (a := F) (o := .tup [V.str (Str.ofString "makes"), V.str (Str.ofString "a"), V.str (Str.ofString "b"), vc]))
  have s67 := s7.trans s7'
  have hB7 := hB6.keep s67
  have hF7 : FAt (upd (upd H6 F (.tup [V.str (Str.ofString "makes"), V.str (Str.ofString "a"), V.str (Str.ofString "b"), vc])) l7 (.lst [V.ref F])) (.mk (M.q "a") (M.q "b") xc) (.ref F) := ⟨F, vc, rfl, by rw [hFv, sq "makes", sq "a", sq "b"], hxc.1.keep (.of s67)⟩
  have hc0 : cO 2 = 20 := rfl
  have hc1 : cL 2 = 117 := rfl
  obtain ⟨-, wfc, omc, lec⟩ := hxc
  rw [hc0] at omc
  rw [hc1] at lec
  have fewF : FewF (.mk (M.q "a") (M.q "b") xc) := by
    refine ⟨⟨M.nm_q (by decide), M.nm_q (by decide), wfc⟩, ?_, ?_⟩
    · show M.om (M.q "makes" ++ (M.q " " ++ (M.q "a" ++ (M.q " " ++ (M.q "b" ++ (M.q " " ++ xc.sh)))))) ≤ 40
      simp only [M.om_app]
      have q1 : M.om (M.q "makes") = 0 := by decide
      have q2 : M.om (M.q " ") = 1 := by decide
      have q3 : M.om (M.q "a") = 0 := by decide
      have q4 : M.om (M.q "b") = 0 := by decide
      omega
    · show (M.q "makes" ++ (M.q " " ++ (M.q "a" ++ (M.q " " ++ (M.q "b" ++ (M.q " " ++ xc.sh)))))).length ≤ 400
      simp only [List.length_append]
      have q1 : (M.q "makes").length = 5 := by decide
      have q2 : (M.q " ").length = 1 := by decide
      have q3 : (M.q "a").length = 1 := by decide
      have q4 : (M.q "b").length = 1 := by decide
      omega
  have e07 : SameB b H (upd (upd H6 F (.tup [V.str (Str.ofString "makes"), V.str (Str.ofString "a"), V.str (Str.ofString "b"), vc])) l7 (.lst [V.ref F])) := (e04.trans (e5.trans e6)).trans (.of s67)
  have hl57 := s67 _ _ (e6 _ _ hl5 nl5)
  have tk57 : TupK H5 (upd (upd H6 F (.tup [V.str (Str.ofString "makes"), V.str (Str.ofString "a"), V.str (Str.ofString "b"), vc])) l7 (.lst [V.ref F])) := tk6.trans (.of s67)
  have hN17 := (hN1'.keep (hB4.tup e5)).keep tk57
  have hN27 := (hN2.keep (hB4.tup e5)).keep tk57
  have hus7 : ∀ v ∈ us5, ∃ f, FAt (upd (upd H6 F (.tup [V.str (Str.ofString "makes"), V.str (Str.ofString "a"), V.str (Str.ofString "b"), vc])) l7 (.lst [V.ref F])) f v ∧ FewF f := fun v hv => let ⟨f, h1, h2⟩ := hus5 v hv; ⟨f, h1.keep tk57, h2⟩
  generalize upd (upd H6 F (.tup [V.str (Str.ofString "makes"), V.str (Str.ofString "a"), V.str (Str.ofString "b"), vc])) l7 (.lst [V.ref F]) = H7 at hl7v hF7 e07 hl57 hN17 hN27 hus7 hB7 ⊢
  clear hN1' hN2 hl5 hus5 hB4 hB5 hB6 e04 e5 e6 hl5n s7 s7' s67 tk6 tk57 hFv
  refine ⟨l5, l7, _, _, rfl, rfl, hl57, hl7v, ?_, fun l8 hl8 => ?_⟩
  · show us5.length + 1 ≤ sizeLine
    exact small (by omega)
  have e8 := same_new (o := .lst (us5 ++ [V.ref F])) hl8
  have nl8 : l8 ≠ b := (hB7.ne hl8).1
  have hl8v : upd H7 l8 (.lst (us5 ++ [V.ref F])) l8 = some (.lst (us5 ++ [V.ref F])) := upd_same
  have hus8 : ∀ v ∈ us5 ++ [V.ref F], ∃ f, FAt H7 f v ∧ FewF f := fun v hv => by
    rcases List.mem_append.mp hv with hv | hv
    · exact hus7 v hv
    · rw [List.mem_singleton.mp hv]
      exact ⟨_, hF7, fewF⟩
  have hus8 : ∀ v ∈ us5 ++ [V.ref F], ∃ f, FAt (upd H7 l8 (.lst (us5 ++ [V.ref F]))) f v ∧ FewF f := fun v hv => let ⟨f, h1, h2⟩ := hus8 v hv; ⟨f, h1.keep (.of e8), h2⟩
  have ln8 : 0 < (us5 ++ [V.ref F]).length ∧ (us5 ++ [V.ref F]).length < 1000000 := by
    rw [List.length_append, List.length_singleton]
    omega
  generalize us5 ++ [V.ref F] = us8 at e8 hl8v hus8 ln8 ⊢
  have hB8 := hB7.keep e8
  have hN18 := hN17.keep (.of e8)
  have hN28 := hN27.keep (.of e8)
  have e08 := e07.trans (.of e8)
  generalize upd H7 l8 (.lst us8) = H8 at hl8v hus8 hB8 hN18 hN28 e08 ⊢
  clear e8 hl57 hl7v hN17 hN27 hus7 hB7 e07 hF7
  refine ⟨_, rfl, _, rfl, t1, n1, rfl, hN18, fun l9 us9 H9 e9 hl9n hl9 hne9 hln9 hus9 => one_ans (E := L2.E0) (hB8.keep e9) hl9 (hB8.ne hl9n).1 hne9 hln9 (fun v hv => hus9 v hv) fun ta xa H10 e10 hB10 hta hfa => ?_⟩
  have fa := few_sh hfa
  have e0A : SameB b H H10 := e08.trans ((SameB.of e9).trans e10)
  have tkA : TupK H8 H10 := (TupK.of e9).trans ((hB8.keep e9).tup e10)
  have hl8A := e10 _ _ (e9 _ _ hl8v) nl8
  have husA : ∀ v ∈ us8, ∃ f, FAt H10 f v ∧ FewF f := fun v hv => let ⟨f, h1, h2⟩ := hus8 v hv; ⟨f, h1.keep tkA, h2⟩
  have hN1A := hN18.keep tkA
  have hN2A := hN28.keep tkA
  clear e9 e10 hl9 hus9 hl9n hus8 hl8v hN18 hN28 tkA
  refine ⟨ta, xa, rfl, hta, by omega, fun H11 e11 => ?_⟩
  refine ⟨_, rfl, _, rfl, b, c, l8, us8, rfl, hB10.keep e11, ln8.1, ln8.2, .inl fun H' e => sql (e _ _ (e11 _ _ hl8A) nl8), fun vf hvf H12 e12 hB12 => ?_⟩
  obtain ⟨f, hf, hff⟩ := husA vf hvf
  have hf12 := (hf.keep (.of e11)).keep ((hB10.keep e11).tup e12)
  have tkC : TupK H10 H12 := (TupK.of e11).trans ((hB10.keep e11).tup e12)
  obtain ⟨ff1, ff2, ff3⟩ := hff
  refine ⟨vf, f, rfl, hf12, by omega, by omega, fun H13 e13 => ⟨by show 2 ≤ sizeLine; decide, fun L hL => ?_⟩⟩
  have e14 := same_new (o := .lst [V.str (S (M.shA xa)), V.str (S f.sh)]) hL
  have hB13 := hB12.keep e13
  have hB14 := hB13.keep e14
  have nLb : L ≠ b := (hB13.ne hL).1
  have nLc : L ≠ c := (hB13.ne hL).2
  have hLv : upd H13 L (.lst [V.str (S (M.shA xa)), V.str (S f.sh)]) L = some (.lst [V.str (S (M.shA xa)), V.str (S f.sh)]) := upd_same
  have tkE := (tkC.trans (.of e13)).trans (.of e14)
  have hN1E := hN1A.keep tkE
  have hN2E := hN2A.keep tkE
  have e0C : SameB b H H13 := e0A.trans ((SameB.of e11).trans (e12.trans (.of e13)))
  have hLn : H L = none := e0C.free hL nLb
  have e0E : SameB b H (upd H13 L (.lst [V.str (S (M.shA xa)), V.str (S f.sh)])) := e0C.trans (.of e14)
  generalize upd H13 L (.lst [V.str (S (M.shA xa)), V.str (S f.sh)]) = H14 at e14 hB14 hLv tkE hN1E hN2E e0E ⊢
  have nLl : ∀ {a : Addr} {o : HO}, H a = some o → a ≠ L := fun h z => by rw [z, hLn] at h; cases h
  refine ⟨_, rfl, .inl ⟨rfl, _, sql hLv⟩, _, rfl, _, rfl, _, rfl, b, c, t1, t2, n1, n2, 5, rfl, by decide, hB14, hN1E, hN2E, fun vt tr H15 e15 hB15 hr15 hfew => ?_⟩
  have ft := fewT_sh hfew
  refine ⟨vt, tr, rfl, hr15, by omega, fun H16 e16 => ?_⟩
  have hL16 := e16 _ _ (e15 _ _ hLv nLb)
  refine ⟨L, _, _, rfl, rfl, hL16, by show 2 < sizeLine; decide, ?_⟩
  have hB16 := (hB15.keep e16).put nLb nLc (o := .lst ([V.str (S (M.shA xa)), V.str (S f.sh)] ++ [V.str (S (M.shT tr))]))
  have tk16 : TupK H14 (upd H16 L (.lst ([V.str (S (M.shA xa)), V.str (S f.sh)] ++ [V.str (S (M.shT tr))]))) := ((hB14.tup e15).trans (.of e16)).trans ((TupK.refl H16).mut hL16 (fun xs q => nomatch q))
  have e0F : SameB b H (upd H16 L (.lst ([V.str (S (M.shA xa)), V.str (S f.sh)] ++ [V.str (S (M.shT tr))]))) := fun b' o h n => by
    rw [upd_ne (nLl h)]
    exact e16 _ _ (e15 _ _ (e0E _ _ h n) n)
  have hLv2 : upd H16 L (.lst ([V.str (S (M.shA xa)), V.str (S f.sh)] ++ [V.str (S (M.shT tr))])) L = some (.lst ([V.str (S (M.shA xa)), V.str (S f.sh)] ++ [V.str (S (M.shT tr))])) := upd_same
  generalize upd H16 L (.lst ([V.str (S (M.shA xa)), V.str (S f.sh)] ++ [V.str (S (M.shT tr))])) = H17 at hB16 tk16 e0F hLv2 ⊢
  refine ⟨_, rfl, b, c, 4, rfl, by decide, by decide, hB16, fun m H18 hm e18 hB18 => ?_⟩
  have mb : (((m : Nat) : Int)).toNat = m := by omega
  have mb1 : -(2 ^ 62) ≤ ((m : Nat) : Int) := Int.le_trans (by decide) (show (0 : Int) ≤ (m : Int) by omega)
  have mb2 : ((m : Nat) : Int) < 2 ^ 62 := Int.lt_of_le_of_lt (show ((m : Nat) : Int) ≤ 4 by omega) (by decide)
  refine ⟨_, rfl, mb1, mb2, fun D hD => ?_⟩
  rw [mb]
  obtain ⟨nDb, nDc⟩ := hB18.ne hD
  refine HL.lcRR (n := m) (X := XB b) (I := fun H => Bag H b c) (R := fun v k _ => XD v k) hD (fun l => nDb) (hB18.keep (same_new hD)) (fun H l h _ l' => h.put nDb nDc) (small (by omega)) (fun v x H H' r e h => r)
    (fun v x H l l' r h => r) (fun k1 H5 Q5 hk1 e5 hB5 hq5 => ?_) fun H19 ks vs e19 hB19 hD19 hlen19 hA19 => ?_
  · refine ⟨_, rfl, by show 4 ≤ sizeLine; decide, fun l hl => ?_⟩
    have s1 := same_new (o := .lst [V.int 0, V.int 1, V.int 12, V.int 999999999]) hl
    have nlb : l ≠ b := (hB5.ne hl).1
    have hlv : upd H5 l (.lst [V.int 0, V.int 1, V.int 12, V.int 999999999]) l = some (.lst [V.int 0, V.int 1, V.int 12, V.int 999999999]) := upd_same
    refine ⟨b, c, l, _, rfl, hB5.keep s1, by show 0 < 4; decide, by show 4 < 1000000; decide, .inl fun H' e => sql (e _ _ hlv nlb), fun x hx H' e hB' => ?_⟩
    have fin : ∀ k : Nat, (decide (k < 1000000000) && (decide ((TL.numL k).length ≤ 9) && decide (M.om (TL.numL k) ≤ 0))) = true → Q5 (V.int (k : Nat)) H' := fun k hk => by
      simp only [Bool.and_eq_true, decide_eq_true_eq] at hk
      exact hq5 _ k H' ((SameB.of s1).trans e) hB' ⟨rfl, hk.1, hk.2.1, hk.2.2⟩
    simp only [List.mem_cons, List.not_mem_nil, or_false] at hx
    rcases hx with rfl | rfl | rfl | rfl
    · exact fin 0 (by decide +kernel)
    · exact fin 1 (by decide +kernel)
    · exact fin 12 (by decide +kernel)
    · exact fin 999999999 (by decide +kernel)
  have hDL : D ≠ L := fun z => by
    rw [z, (e18 _ _ hLv2 nLb)] at hD
    cases hD
  have h18L := e18 _ _ hLv2 nLb
  have h19L := e19 _ _ h18L nLb
  have lenA := hA19.length
  have xd : vs.length ≤ 3 ∧ ∀ k ∈ vs, k < 1000000000 ∧ (TL.numL k).length ≤ 9 ∧ M.om (TL.numL k) ≤ 0 := by
    refine ⟨by omega, fun k hk => ?_⟩
    obtain ⟨i, hi⟩ := List.getElem?_of_mem hk
    obtain ⟨v, _, r⟩ := hA19.getR hi
    exact r.2
  have hks : ks = iV vs := by
    have h2 : All2 (fun (v : V) (k : Nat) => v = V.int (k : Nat)) ks vs := hA19.imp fun v k r => r.1
    exact all2_eq h2
  subst hks
  have e0G : SameB b H H19 := e0F.trans (e18.trans e19)
  clear hA19 lenA
  refine ⟨D, iV vs, rfl, .inl ⟨sql hD19, fun u hu => ?_⟩⟩
  have e20 := same_new (o := .tup (iV vs)) hu
  have hu20 : upd H19 u (.tup (iV vs)) u = some (.tup (iV vs)) := upd_same
  have hB20 := hB19.keep e20
  have h20L := e20 _ _ h19L
  have e0H : SameB b H (upd H19 u (.tup (iV vs))) := e0G.trans (.of e20)
  generalize upd H19 u (.tup (iV vs)) = H20 at e20 hu20 hB20 h20L e0H ⊢
  refine ⟨_, rfl, .inl ⟨rfl, _, sql h20L⟩, _, rfl, by show 3 ≤ sizeLine; decide, fun l3 hl3 => ?_⟩
  have e21 := same_new (o := .lst [V.str (Str.ofString ""), V.str (Str.ofString "f"), V.str (Str.ofString "ab")]) hl3
  have nl3 : l3 ≠ b := (hB20.ne hl3).1
  have hl3v : upd H20 l3 (.lst [V.str (Str.ofString ""), V.str (Str.ofString "f"), V.str (Str.ofString "ab")]) l3 = some (.lst [V.str (Str.ofString ""), V.str (Str.ofString "f"), V.str (Str.ofString "ab")]) := upd_same
  refine ⟨b, c, l3, _, rfl, hB20.keep e21, by show 0 < 3; decide, by show 3 < 1000000; decide, .inl fun H' e => sql (e _ _ hl3v nl3), fun x hx H21 e22 hB21 => ?_⟩
  have hxs : ∃ nm : List Nat, x = .str (S nm) ∧ nm.length ≤ 8 ∧ M.om nm ≤ 0 := by
    simp only [List.mem_cons, List.not_mem_nil, or_false] at hx
    rcases hx with rfl | rfl | rfl
    · exact ⟨M.q "", sq "", by decide, by decide⟩
    · exact ⟨M.q "f", sq "f", by decide, by decide⟩
    · exact ⟨M.q "ab", sq "ab", by decide, by decide⟩
  obtain ⟨nm, rfl, hn1, hn2⟩ := hxs
  have tk21 : TupK H20 H21 := (TupK.of e21).trans ((hB20.keep e21).tup e22)
  have s21 : SameB b H20 H21 := (SameB.of e21).trans e22
  refine ⟨_, rfl, by show 2 ≤ sizeLine; decide, fun T hT => ?_⟩
  have e23 := same_new (o := .tup [V.str (S nm), V.ref u]) hT
  have hTv : upd H21 T (.tup [V.str (S nm), V.ref u]) T = some (.tup [V.str (S nm), V.ref u]) := upd_same
  have fx := addr_sh (x := (nm, vs)) hn1 hn2 xd.1 fun k hk => (xd.2 k hk).2
  refine ⟨.ref T, (nm, vs), rfl, ⟨T, u, rfl, hTv, e23 _ _ (s21 _ _ hu20 ((hB19.ne hu).1))⟩, fun k hk => (xd.2 k hk).1, by omega, fun H24 e24 => ?_⟩
  have h24L := e24 _ _ (e23 _ _ (s21 _ _ h20L nLb))
  refine ⟨L, _, _, rfl, rfl, h24L, by show 3 < sizeLine; decide, ?_⟩
  have hB25 := ((hB21.keep e23).keep e24).put nLb nLc (o := .lst (([V.str (S (M.shA xa)), V.str (S f.sh)] ++ [V.str (S (M.shT tr))]) ++ [V.str (S (M.shX (nm, vs)))]))
  have e0I : SameB b H (upd H24 L (.lst (([V.str (S (M.shA xa)), V.str (S f.sh)] ++ [V.str (S (M.shT tr))]) ++ [V.str (S (M.shX (nm, vs)))]))) := fun b' o h n => by
    rw [upd_ne (nLl h)]
    exact e24 _ _ (e23 _ _ (s21 _ _ (e0H _ _ h n) n))
  have hLv3 : upd H24 L (.lst (([V.str (S (M.shA xa)), V.str (S f.sh)] ++ [V.str (S (M.shT tr))]) ++ [V.str (S (M.shX (nm, vs)))])) L = some (.lst (([V.str (S (M.shA xa)), V.str (S f.sh)] ++ [V.str (S (M.shT tr))]) ++ [V.str (S (M.shX (nm, vs)))])) := upd_same
  generalize upd H24 L (.lst (([V.str (S (M.shA xa)), V.str (S f.sh)] ++ [V.str (S (M.shT tr))]) ++ [V.str (S (M.shX (nm, vs)))])) = H25 at hB25 e0I hLv3 ⊢
  refine ⟨_, rfl, _, rfl, _, rfl, L, L, _, _, rfl, rfl, hLv3, hLv3, by show 8 ≤ sizeLine; decide, fun w1 hw1 => ⟨Nat.zero_le _, fun w2 hw2 => ⟨by show 10 ≤ sizeLine; decide, fun w3 hw3 => ?_⟩⟩⟩
  have g1 := same_new (o := .lst ([V.str (S (M.shA xa)), V.str (S f.sh)] ++ [V.str (S (M.shT tr))] ++ [V.str (S (M.shX (nm, vs)))] ++ ([V.str (S (M.shA xa)), V.str (S f.sh)] ++ [V.str (S (M.shT tr))] ++ [V.str (S (M.shX (nm, vs)))]))) hw1
  have g2 := same_new (o := .tup []) hw2
  have g3 := same_new (o := .lst [V.non, V.int 5, V.ref w2, V.str (Str.ofString ""), V.str (Str.ofString "t+t"), V.str (Str.ofString "u+t"), V.str (Str.ofString ":1000000000"), V.str (Str.ofString "f:01"), V.str (Str.ofString "makes a b"), V.str (Str.ofString "t a> ")]) hw3
  have v1 := g3 _ _ (g2 _ _ (upd_same (H := H25) (a := w1) (o := .lst ([V.str (S (M.shA xa)), V.str (S f.sh)] ++ [V.str (S (M.shT tr))] ++ [V.str (S (M.shX (nm, vs)))] ++ ([V.str (S (M.shA xa)), V.str (S f.sh)] ++ [V.str (S (M.shT tr))] ++ [V.str (S (M.shX (nm, vs)))])))))
  have v2 := g3 _ _ (upd_same (H := upd H25 w1 (.lst ([V.str (S (M.shA xa)), V.str (S f.sh)] ++ [V.str (S (M.shT tr))] ++ [V.str (S (M.shX (nm, vs)))] ++ ([V.str (S (M.shA xa)), V.str (S f.sh)] ++ [V.str (S (M.shT tr))] ++ [V.str (S (M.shX (nm, vs)))])))) (a := w2) (o := .tup []))
  have v3 := upd_same (H := upd (upd H25 w1 (.lst ([V.str (S (M.shA xa)), V.str (S f.sh)] ++ [V.str (S (M.shT tr))] ++ [V.str (S (M.shX (nm, vs)))] ++ ([V.str (S (M.shA xa)), V.str (S f.sh)] ++ [V.str (S (M.shT tr))] ++ [V.str (S (M.shX (nm, vs)))])))) w2 (.tup [])) (a := w3) (o := .lst [V.non, V.int 5, V.ref w2, V.str (Str.ofString ""), V.str (Str.ofString "t+t"), V.str (Str.ofString "u+t"), V.str (Str.ofString ":1000000000"), V.str (Str.ofString "f:01"), V.str (Str.ofString "makes a b"), V.str (Str.ofString "t a> ")])
  have g := (g1.trans g2).trans g3
  have hB26 := hB25.keep g
  have e0J := e0I.trans (.of g)
  generalize upd (upd (upd H25 w1 (.lst ([V.str (S (M.shA xa)), V.str (S f.sh)] ++ [V.str (S (M.shT tr))] ++ [V.str (S (M.shX (nm, vs)))] ++ ([V.str (S (M.shA xa)), V.str (S f.sh)] ++ [V.str (S (M.shT tr))] ++ [V.str (S (M.shX (nm, vs)))])))) w2 (.tup [])) w3 (.lst [V.non, V.int 5, V.ref w2, V.str (Str.ofString ""), V.str (Str.ofString "t+t"), V.str (Str.ofString "u+t"), V.str (Str.ofString ":1000000000"), V.str (Str.ofString "f:01"), V.str (Str.ofString "makes a b"), V.str (Str.ofString "t a> ")]) = H26 at v1 v2 v3 hB26 e0J ⊢
  refine ⟨w1, w3, _, _, rfl, rfl, v1, v3, by show 18 ≤ sizeLine; decide, fun w4 hw4 => ?_⟩
  have g4 := same_new (o := .lst (([V.str (S (M.shA xa)), V.str (S f.sh)] ++ [V.str (S (M.shT tr))] ++ [V.str (S (M.shX (nm, vs)))] ++ ([V.str (S (M.shA xa)), V.str (S f.sh)] ++ [V.str (S (M.shT tr))] ++ [V.str (S (M.shX (nm, vs)))])) ++ [V.non, V.int 5, V.ref w2, V.str (Str.ofString ""), V.str (Str.ofString "t+t"), V.str (Str.ofString "u+t"), V.str (Str.ofString ":1000000000"), V.str (Str.ofString "f:01"), V.str (Str.ofString "makes a b"), V.str (Str.ofString "t a> ")])) hw4
  have v4 := upd_same (H := H26) (a := w4) (o := .lst (([V.str (S (M.shA xa)), V.str (S f.sh)] ++ [V.str (S (M.shT tr))] ++ [V.str (S (M.shX (nm, vs)))] ++ ([V.str (S (M.shA xa)), V.str (S f.sh)] ++ [V.str (S (M.shT tr))] ++ [V.str (S (M.shX (nm, vs)))])) ++ [V.non, V.int 5, V.ref w2, V.str (Str.ofString ""), V.str (Str.ofString "t+t"), V.str (Str.ofString "u+t"), V.str (Str.ofString ":1000000000"), V.str (Str.ofString "f:01"), V.str (Str.ofString "makes a b"), V.str (Str.ofString "t a> ")]))
  have nw4 := (hB26.ne hw4).1
  refine ⟨b, c, w4, _, rfl, hB26.keep g4, by show 0 < 18; decide, by show 18 < 1000000; decide, .inl fun H' e => sql (e _ _ v4 nw4), fun x hx H' e hB' => hq x H' ((e0J.trans (.of g4)).trans e) hB' ?_⟩
  have lit : ∀ st : String, (decide ((M.q st).length ≤ 1000) && (decide (M.om (M.q st) ≤ 130) && decide ((M.q st).count 43 ≤ 60))) = true → Tx H' b (.str (Str.ofString st)) := fun st h => by
    simp only [Bool.and_eq_true, decide_eq_true_eq] at h
    exact .inl ⟨M.q st, sq st, h.1, h.2.1, h.2.2⟩
  have c1 : Tx H' b (V.str (S (M.shA xa))) := .inl ⟨_, rfl, by omega, by omega, by omega⟩
  have c2 : Tx H' b (V.str (S f.sh)) := .inl ⟨_, rfl, by omega, by omega, by rw [fact_c0 f ff1]; decide⟩
  have c3 : Tx H' b (V.str (S (M.shT tr))) := .inl ⟨_, rfl, by omega, by omega, by omega⟩
  have c4 : Tx H' b (V.str (S (M.shX (nm, vs)))) := .inl ⟨_, rfl, by omega, by omega, Nat.le_trans List.count_le_length (by omega)⟩
  simp only [List.cons_append, List.nil_append, List.mem_cons, List.not_mem_nil, or_false] at hx
  rcases hx with rfl | rfl | rfl | rfl | rfl | rfl | rfl | rfl | rfl | rfl | rfl | rfl | rfl | rfl | rfl | rfl | rfl | rfl
  · exact c1
  · exact c2
  · exact c3
  · exact c4
  · exact c1
  · exact c2
  · exact c3
  · exact c4
  · exact .inr (.inl rfl)
  · exact .inr (.inr (.inl ⟨5, rfl⟩))
  · exact .inr (.inr (.inr (.inl ⟨w2, [], rfl, hB26.tup ((SameB.of g4).trans e) _ _ v2⟩)))
  · exact lit "" (by decide)
  · exact lit "t+t" (by decide)
  · exact lit "u+t" (by decide)
  · exact lit ":1000000000" (by decide)
  · exact lit "f:01" (by decide)
  · exact lit "makes a b" (by decide)
  · exact lit "t a> " (by decide)
end
end K92
end

section
set_option Elab.async false
set_option linter.all false
set_option maxRecDepth 100000
set_option maxHeartbeats 4000000
/-! k92: what is compared. -/
namespace K92
open PySem PySem.Spec PyProof.Rows L2 He HL
/-- data that can be compared and shown -/
def Good (d : PyData) (D L : Nat) : Prop := d.canLay0 = true ∧ d.showable = true ∧ d.depth ≤ D ∧ d.shown.length ≤ L
theorem lay_all : ∀ {xs : List PyData}, (∀ x ∈ xs, x.canLay0 = true) → PyData.canLayAll0 xs = true
  | [], _ => by simp [PyData.canLayAll0]
  | x :: xs, h => by simp only [PyData.canLayAll0, h x List.mem_cons_self, lay_all (xs := xs) fun y hy => h y (List.mem_cons_of_mem _ hy), Bool.and_true]
theorem show_all : ∀ {xs : List PyData}, (∀ x ∈ xs, x.showable = true) → PyData.showableAll xs = true
  | [], _ => by simp [PyData.showableAll]
  | x :: xs, h => by simp only [PyData.showableAll, h x List.mem_cons_self, show_all (xs := xs) fun y hy => h y (List.mem_cons_of_mem _ hy), Bool.and_true]
theorem depth_all {D : Nat} : ∀ {xs : List PyData}, (∀ x ∈ xs, x.depth ≤ D) → PyData.depthAll xs ≤ D
  | [], _ => by simp [PyData.depthAll]
  | x :: xs, h => by
    have h1 := h x List.mem_cons_self
    have h2 := depth_all (xs := xs) fun y hy => h y (List.mem_cons_of_mem _ hy)
    simp only [PyData.depthAll]
    omega
theorem shown_map : ∀ xs : List PyData, PyData.shownAll xs = xs.map PyData.shown
  | [] => by simp [PyData.shownAll]
  | x :: xs => by simp only [PyData.shownAll, List.map_cons, shown_map xs]
/-- a tuple's length, by a bound for each of its items -/
theorem shown_sum {α : Type} {g : α → PyData} {f : α → Nat} {m : Nat} : ∀ {xs : List α}, (∀ x ∈ xs, (g x).shown.length ≤ m * f x) → ((PyData.shownAll (xs.map g)).map (·.length)).sum ≤ m * (xs.map f).sum
  | [], _ => by simp [PyData.shownAll]
  | x :: xs, h => by
    have h1 := h x List.mem_cons_self
    have h2 := shown_sum (xs := xs) fun y hy => h y (List.mem_cons_of_mem _ hy)
    simp only [List.map_cons, PyData.shownAll, List.sum_cons, Nat.mul_add]
    omega
theorem shown_cnt {α : Type} {g : α → PyData} (xs : List α) : (PyData.shownAll (xs.map g)).length = xs.length := by
  rw [shown_map, List.length_map, List.length_map]
theorem len_le_sum {α : Type} {f : α → Nat} : ∀ {xs : List α}, (∀ x ∈ xs, 1 ≤ f x) → xs.length ≤ (xs.map f).sum
  | [], _ => by simp
  | x :: xs, h => by
    have h1 := h x List.mem_cons_self
    have h2 := len_le_sum (xs := xs) fun y hy => h y (List.mem_cons_of_mem _ hy)
    simp only [List.map_cons, List.sum_cons, List.length_cons]
    omega
def gA (ns : List (List Nat)) : PyData := .tuple (sD ns)
def gF : M.Fact → PyData
  | .alw c => .tuple [.str (S (M.q "always")), cd c]
  | .mk a b c => .tuple [.str (S (M.q "makes")), .str (S a), .str (S b), cd c]
def gU (x : List Nat × List (List Nat)) : PyData := .tuple [.str (S x.1), gA x.2]
def gT (t : M.Trace) : PyData := .tuple [gA t.1, .list (t.2.map gU)]
def gX (x : M.Addr') : PyData := .tuple [.str (S x.1), .tuple (x.2.map fun k => .int (k : Nat))]
theorem gA_ok {ns : List (List Nat)} (h : ∀ n ∈ ns, M.Nm n) : Good (gA ns) 1 (20 * (M.shA ns).length + 20) := by
  refine ⟨?_, ?_, ?_, ?_⟩
  · show PyData.canLay0 (.tuple (sD ns)) = true
    simp only [PyData.canLay0]
    exact sD_lay h
  · show PyData.showable (.tuple (sD ns)) = true
    simp only [PyData.showable]
    exact show_all fun x hx => by
      obtain ⟨n, _, rfl⟩ := List.mem_map.mp hx
      simp [PyData.showable]
  · show PyData.depth (.tuple (sD ns)) ≤ 1
    simp only [PyData.depth, sD_depth]
    omega
  · show (PyData.shown (.tuple (sD ns))).length ≤ _
    simp only [PyData.shown]
    have h1 := tupleText_len_le (PyData.shownAll (sD ns))
    have h2 : ((PyData.shownAll (sD ns)).map (·.length)).sum ≤ 12 * (ns.map (·.length)).sum := shown_sum (g := fun n => PyData.str (S n)) (f := fun n : List Nat => n.length) fun n hn => by
      simp only [PyData.shown]
      have h3 := rt_len (nm_ok (h n hn))
      have h4 := (h n hn).pos
      omega
    have h3 : (PyData.shownAll (sD ns)).length = ns.length := shown_cnt (g := fun n => PyData.str (S n)) ns
    have h4 := len_le_sum (f := fun n : List Nat => n.length) fun n hn => (h n hn).pos
    rw [h3] at h1
    unfold M.shA
    by_cases hz : ns = []
    · subst hz
      rw [if_pos rfl]
      have h5 : (M.q "-").length = 1 := by decide
      simp at h2 h1 ⊢
      omega
    · rw [if_neg hz]
      have h5 := joinL_len [43] ns
      have h6 : ([43] : List Nat).length = 1 := rfl
      rw [h6] at h5
      have h7 : 1 ≤ ns.length := List.length_pos_iff.mpr hz
      have h8 : (ns.map (·.length)).sum ≤ (TL.joinL [43] ns).length := by omega
      generalize (ns.map (·.length)).sum = z at h2 h4 h8
      omega
theorem cd_good {c : M.Cond} (h : c.wf) : Good (cd c) (M.om c.sh + 1) (100 * c.sh.length) := ⟨cd_lay c h, cd_show c, cd_deep c, cd_len c h⟩
theorem ok_alw : PyData.strOk (S (M.q "always")) = true := okS _ (by decide)
theorem ok_mks : PyData.strOk (S (M.q "makes")) = true := okS _ (by decide)
theorem gF_ok : ∀ {f : M.Fact}, f.wf → Good (gF f) (M.om f.sh + 2) (100 * f.sh.length)
  | .alw c, h => by
    have h' : c.wf := h
    obtain ⟨h1, h2, h3, h4⟩ := cd_good h'
    have hs := sh_alw (c := c)
    have hl : (M.Fact.alw c).sh.length = 7 + c.sh.length := by rw [alS_sh, List.length_append]; rfl
    refine ⟨?_, ?_, ?_, ?_⟩
    · simp only [gF, PyData.canLay0, PyData.canLayAll0, ok_alw, h1, Bool.and_true]
    · simp [gF, PyData.showable, PyData.showableAll, h2]
    · simp only [gF, PyData.depth, PyData.depthAll]
      omega
    · simp only [gF, PyData.shown, PyData.shownAll]
      have := tt2 (reprText (S (M.q "always"))) (cd c).shown
      have := rt_len ok_alw
      have : (M.q "always").length = 6 := by decide
      omega
  | .mk a b c, h => by
    have h' : M.Nm a ∧ M.Nm b ∧ c.wf := h
    obtain ⟨na, nb, hw⟩ := h'
    obtain ⟨h1, h2, h3, h4⟩ := cd_good hw
    have hs := sh_mk (a := a) (b := b) (c := c)
    have hl : (M.Fact.mk a b c).sh.length = 8 + a.length + b.length + c.sh.length := by
      show (M.q "makes" ++ (M.q " " ++ (a ++ (M.q " " ++ (b ++ (M.q " " ++ c.sh)))))).length = _
      simp only [List.length_append]
      have q1 : (M.q "makes").length = 5 := by decide
      have q2 : (M.q " ").length = 1 := by decide
      omega
    refine ⟨?_, ?_, ?_, ?_⟩
    · simp only [gF, PyData.canLay0, PyData.canLayAll0, ok_mks, nm_ok na, nm_ok nb, h1, Bool.and_true]
    · simp [gF, PyData.showable, PyData.showableAll, h2]
    · simp only [gF, PyData.depth, PyData.depthAll]
      omega
    · simp only [gF, PyData.shown, PyData.shownAll]
      have := tt4 (reprText (S (M.q "makes"))) (reprText (S a)) (reprText (S b)) (cd c).shown
      have := rt_len ok_mks
      have := rt_len (nm_ok na)
      have := rt_len (nm_ok nb)
      have : (M.q "makes").length = 5 := by decide
      omega
theorem gU_ok {x : List Nat × List (List Nat)} (h : M.Nm x.1) (h2 : ∀ n ∈ x.2, M.Nm n) : Good (gU x) 2 (40 * (M.turnS x).length) := by
  obtain ⟨a1, a2, a3, a4⟩ := gA_ok h2
  have hl : (M.turnS x).length = x.1.length + 2 + (M.shA x.2).length := by
    unfold M.turnS
    simp only [List.length_append]
    have q1 : (M.q "> ").length = 2 := by decide
    omega
  refine ⟨?_, ?_, ?_, ?_⟩
  · simp only [gU, PyData.canLay0, PyData.canLayAll0, nm_ok h, a1, Bool.and_true]
  · simp [gU, PyData.showable, PyData.showableAll, a2]
  · simp only [gU, PyData.depth, PyData.depthAll]
    omega
  · simp only [gU, PyData.shown, PyData.shownAll]
    have := tt2 (reprText (S x.1)) (gA x.2).shown
    have := rt_len (nm_ok h)
    omega
theorem gT_ok {t : M.Trace} (h : M.TrOk t) : Good (gT t) 4 (50 * (M.shT t).length + 50) := by
  obtain ⟨a1, a2, a3, a4⟩ := gA_ok h.1.nm
  have hu : ∀ x ∈ t.2, Good (gU x) 2 (40 * (M.turnS x).length) := fun x hx => gU_ok (h.2 x hx).1 (h.2 x hx).2.nm
  refine ⟨?_, ?_, ?_, ?_⟩
  · have := lay_all (xs := t.2.map gU) fun y hy => by
      obtain ⟨x, hx, rfl⟩ := List.mem_map.mp hy
      exact (hu x hx).1
    simp only [gT, PyData.canLay0, PyData.canLayAll0, a1, this, Bool.and_true]
  · have := show_all (xs := t.2.map gU) fun y hy => by
      obtain ⟨x, hx, rfl⟩ := List.mem_map.mp hy
      exact (hu x hx).2.1
    simp only [gT, PyData.showable, PyData.showableAll, a2, this, Bool.and_true]
  · have := depth_all (D := 2) (xs := t.2.map gU) fun y hy => by
      obtain ⟨x, hx, rfl⟩ := List.mem_map.mp hy
      exact (hu x hx).2.2.1
    simp only [gT, PyData.depth, PyData.depthAll]
    omega
  · simp only [gT, PyData.shown, PyData.shownAll]
    have h1 := tt2 (gA t.1).shown (listText (PyData.shownAll (t.2.map gU)))
    have h2 := listText_len_le (PyData.shownAll (t.2.map gU))
    have h3 := shown_sum (g := gU) (f := fun x => (M.turnS x).length) (m := 40) fun x hx => (hu x hx).2.2.2
    rw [shown_cnt] at h2
    have h4 := joinL_len (M.q " ") (M.shA t.1 :: t.2.map M.turnS)
    have q1 : (M.q " ").length = 1 := by decide
    rw [q1] at h4
    have e : ((M.shA t.1 :: t.2.map M.turnS).map (·.length)).sum = (M.shA t.1).length + (t.2.map fun x => (M.turnS x).length).sum := by
      rw [List.map_cons, List.sum_cons, List.map_map]
      rfl
    rw [e] at h4
    have e2 : (M.shA t.1 :: t.2.map M.turnS).length = t.2.length + 1 := by rw [List.length_cons, List.length_map]
    rw [e2] at h4
    show _ ≤ 50 * (TL.joinL (M.q " ") (M.shA t.1 :: t.2.map M.turnS)).length + 50
    generalize (t.2.map fun x => (M.turnS x).length).sum = z at h3 h4
    generalize ((PyData.shownAll (t.2.map gU)).map (·.length)).sum = z2 at h2 h3
    omega
theorem gX_ok {x : M.Addr'} (h : x.1 = [] ∨ M.Nm x.1) (h2 : ∀ k ∈ x.2, k < 1000000000) : Good (gX x) 2 (20 * (M.shX x).length + 30) := by
  have hn : PyData.strOk (S x.1) = true := by
    rcases h with h | h
    · rw [h]
      exact okS _ rfl
    · exact nm_ok h
  refine ⟨?_, ?_, ?_, ?_⟩
  · have := lay_all (xs := x.2.map fun k => PyData.int (k : Nat)) fun y hy => by
      obtain ⟨k, hk, rfl⟩ := List.mem_map.mp hy
      simp [PyData.canLay0]
    simp only [gX, PyData.canLay0, PyData.canLayAll0, hn, this, Bool.and_true]
  · have := show_all (xs := x.2.map fun k => PyData.int (k : Nat)) fun y hy => by
      obtain ⟨k, hk, rfl⟩ := List.mem_map.mp hy
      have := num_log' (h2 k hk)
      simp only [PyData.showable, decide_eq_true this]
    simp only [gX, PyData.showable, PyData.showableAll, this, Bool.and_true]
  · have := depth_all (D := 0) (xs := x.2.map fun k => PyData.int (k : Nat)) fun y hy => by
      obtain ⟨k, hk, rfl⟩ := List.mem_map.mp hy
      simp [PyData.depth]
    simp only [gX, PyData.depth, PyData.depthAll]
    omega
  · simp only [gX, PyData.shown, PyData.shownAll]
    have h3 := tt2 (reprText (S x.1)) (tupleText (PyData.shownAll (x.2.map fun k => PyData.int (k : Nat))))
    have h4 := rt_len hn
    have h5 := tupleText_len_le (PyData.shownAll (x.2.map fun k => PyData.int (k : Nat)))
    have h6 := shown_sum (g := fun k : Nat => PyData.int (k : Nat)) (f := fun k => (TL.numL k).length) (m := 1) (xs := x.2) fun k hk => by
      have h7 : (Str.ofString (toString ((k : Nat) : Int))).length = (TL.numL k).length := by rw [SX.num_S k, HL.S_len]
      have h8 : (Str.ofString (toString ((k : Nat) : Int))).length ≤ 1 * (TL.numL k).length := by omega
      simp only [PyData.shown]
      exact h8
    rw [shown_cnt] at h5
    have h8 := joinL_len (M.q ".") (x.2.map TL.numL)
    have q1 : (M.q ".").length = 1 := by decide
    rw [q1, List.map_map, List.length_map] at h8
    have h8 : (x.2.map fun k => (TL.numL k).length).sum + x.2.length * 1 ≤ (TL.joinL (M.q ".") (x.2.map TL.numL)).length + 1 := h8
    unfold M.shX
    simp only [List.length_append]
    generalize (x.2.map fun k => (TL.numL k).length).sum = z at h6 h8
    generalize ((PyData.shownAll (x.2.map fun k => PyData.int (k : Nat))).map (·.length)).sum = z2 at h5 h6
    omega
section
variable {K : PySem.W.Frag}
theorem gA_dp {H : Hp} {ns : List (List Nat)} {v : V} (h : AAt H ns v) : Dp K H v (gA ns) := by
  obtain ⟨t, rfl, h⟩ := h
  exact .tup (sqt h) (sD_dp ns)
theorem gF_dp {H : Hp} {f : M.Fact} {v : V} (h : FAt H f v) : Dp K H v (gF f) := by
  cases f with
  | alw c => obtain ⟨a, u, rfl, h1, h2⟩ := h; exact .tup (sqt h1) (.cons (.str _) (.cons h2.dp .nil))
  | mk x y c => obtain ⟨a, u, rfl, h1, h2⟩ := h; exact .tup (sqt h1) (.cons (.str _) (.cons (.str _) (.cons (.str _) (.cons h2.dp .nil))))
theorem gU_dp {H : Hp} {x : List Nat × List (List Nat)} {v : V} (h : UAt H x v) : Dp K H v (gU x) := by
  obtain ⟨u, t, rfl, h1, h2⟩ := h
  exact .tup (sqt h1) (.cons (.str _) (.cons (gA_dp ⟨t, rfl, h2⟩) .nil))
theorem gUs_dp {H : Hp} : ∀ {us : List V} {xs : List (List Nat × List (List Nat))}, All2 (fun v x => UAt H x v) us xs → DpAll K H us (xs.map gU)
  | [], [], _ => .nil
  | u :: us, x :: xs, h => .cons (gU_dp h.1) (gUs_dp h.2)
  | [], _ :: _, h => h.elim
  | _ :: _, [], h => h.elim
theorem gT_dp {H : Hp} {t : M.Trace} {v : V} (h : RAt H t v) : Dp K H v (gT t) := by
  obtain ⟨p, t0, l, us, rfl, h1, h2, h3, h4⟩ := h
  exact .tup (sqt h1) (.cons (gA_dp ⟨t0, rfl, h2⟩) (.cons (.lst (sql h3) (gUs_dp h4)) .nil))
theorem iV_dp {H : Hp} : ∀ ks : List Nat, DpAll K H (iV ks) (ks.map fun k => .int (k : Nat))
  | [] => .nil
  | k :: ks => .cons (.int _) (iV_dp ks)
theorem gX_dp {H : Hp} {x : M.Addr'} {v : V} (h : XAt H x v) : Dp K H v (gX x) := by
  obtain ⟨p, t, rfl, h1, h2⟩ := h
  exact .tup (sqt h1) (.cons (.str _) (.cons (.tup (sqt h2) (iV_dp _)) .nil))
/-- what is due, as data -/
def dG {α : Type} (g : α → PyData) : Option α → PyData
  | none => .tuple [.str (S (M.q "none")), .none]
  | some c => .tuple [.str (S (M.q "told")), g c]
theorem dG_dp {α : Type} {At : Hp → α → V → Prop} {g : α → PyData} {H : Hp} {u : Addr} {r : Option α} (h : Due At H u r) (hg : ∀ c v, At H c v → Dp K H v (g c)) : Dp K H (.ref u) (dG g r) := by
  cases r with
  | none => exact .tup (sqt h) (.cons (.str _) (.cons .non .nil))
  | some c => obtain ⟨v, h1, h2⟩ := h; exact .tup (sqt h1) (.cons (.str _) (.cons (hg _ _ h2) .nil))
theorem dG_ok {α : Type} {g : α → PyData} {r : Option α} {D L : Nat} (h : ∀ c, r = some c → Good (g c) D L) : Good (dG g r) (D + 1) (L + 100) := by
  have t1 := rt_len ok_told
  have t2 := rt_len ok_none
  have l1 : (M.q "told").length = 4 := by decide
  have l2 : (M.q "none").length = 4 := by decide
  cases r with
  | none =>
    refine ⟨?_, ?_, ?_, ?_⟩
    · simp only [dG, PyData.canLay0, PyData.canLayAll0, ok_none, Bool.and_true]
    · simp [dG, PyData.showable, PyData.showableAll]
    · simp [dG, PyData.depth, PyData.depthAll]
    · simp only [dG, PyData.shown, PyData.shownAll]
      have := tt2 (reprText (S (M.q "none"))) ("None" : Str)
      have h3 : (Str.ofString "None").length = 4 := by rw [ofq, S_len]; decide
      have h4 : ("None" : Str).length = 4 := h3
      omega
  | some c =>
    obtain ⟨h1, h2, h3, h4⟩ := h c rfl
    refine ⟨?_, ?_, ?_, ?_⟩
    · simp only [dG, PyData.canLay0, PyData.canLayAll0, ok_told, h1, Bool.and_true]
    · simp [dG, PyData.showable, PyData.showableAll, h2]
    · simp only [dG, PyData.depth, PyData.depthAll]
      omega
    · simp only [dG, PyData.shown, PyData.shownAll]
      have := tt2 (reprText (S (M.q "told"))) (g c).shown
      omega
theorem four_ok {a b c d : PyData} (ha : Good a 150 150000) (hb : Good b 150 150000) (hc : Good c 150 150000) (hd : Good d 150 150000) :
    (PyData.list [a, b, c, d]).canLay0 = true ∧ (PyData.list [a, b, c, d]).showable = true ∧ (PyData.list [a, b, c, d]).depth ≤ 200 ∧ (PyData.list [a, b, c, d]).shown.length ≤ sizeLine := by
  obtain ⟨a1, a2, a3, a4⟩ := ha
  obtain ⟨b1, b2, b3, b4⟩ := hb
  obtain ⟨c1, c2, c3, c4⟩ := hc
  obtain ⟨d1, d2, d3, d4⟩ := hd
  refine ⟨?_, ?_, ?_, ?_⟩
  · simp only [PyData.canLay0, PyData.canLayAll0, a1, b1, c1, d1, Bool.and_true]
  · simp only [PyData.showable, PyData.showableAll, a2, b2, c2, d2, Bool.and_true]
  · simp only [PyData.depth, PyData.depthAll]
    omega
  · simp only [PyData.shown, PyData.shownAll]
    have := listText_len_le [a.shown, b.shown, c.shown, d.shown]
    simp at this
    exact small (by omega)
theorem Good.mono {d : PyData} {D D' L L' : Nat} (h : Good d D L) (h1 : D ≤ D') (h2 : L ≤ L') : Good d D' L' := ⟨h.1, h.2.1, Nat.le_trans h.2.2.1 h1, Nat.le_trans h.2.2.2 h2⟩
/-! ### the text that is read, and what it tells -/
structure Res where
  a : Option (List (List Nat))
  f : Option M.Fact
  t : Option M.Trace
  x : Option M.Addr'
def resOf (s : List Nat) : Res := ⟨M.rdA s, M.readF 140 s, M.rdT s, M.rdX s⟩
def resNo : Res := ⟨none, none, none, none⟩
def TV (H : Hp) (b : Addr) (v : V) (r : Res) : Prop :=
  (∃ s, v = .str (S s) ∧ s.length ≤ 1040 ∧ M.om s ≤ 136 ∧ s.count 43 ≤ 62 ∧ r = resOf s) ∨ (NoTx H b v ∧ r = resNo)
theorem Bag.ext {H H' : Hp} {b c : Addr} (h : Bag H b c) (e : LamX.ExtN H H') : Bag H' b c := let ⟨d, m, k, ks, h1, h2, h3, h4⟩ := h; ⟨d, m, k, ks, e _ _ h1 (fun _ z => nomatch z), e _ _ h2 (fun _ z => nomatch z), h3, h4⟩
theorem NoTx.ext {H H' : Hp} {b : Addr} {v : V} (h : NoTx H b v) (e : LamX.ExtN H H') : NoTx H' b v := by
  rcases h with rfl | ⟨i, rfl⟩ | ⟨a, xs, rfl, h⟩ | ⟨a, xs, rfl, h, n⟩
  · exact .inl rfl
  · exact .inr (.inl ⟨i, rfl⟩)
  · exact .inr (.inr (.inl ⟨a, xs, rfl, e _ _ h (fun _ z => nomatch z)⟩))
  · exact .inr (.inr (.inr ⟨a, xs, rfl, e _ _ h (fun _ z => nomatch z), n⟩))
theorem TV.ext {H H' : Hp} {b : Addr} {v : V} {r : Res} (h : TV H b v r) (e : LamX.ExtN H H') : TV H' b v r := by
  rcases h with h | ⟨h, h2⟩
  · exact .inl h
  · exact .inr ⟨h.ext e, h2⟩
theorem TV.is {H : Hp} {b : Addr} {v : V} {r : Res} (h : TV H b v r) : (∃ s, v = .str (S s)) ∨ NoTx H b v := by
  rcases h with ⟨s, h, _⟩ | ⟨h, _⟩
  · exact .inl ⟨s, h⟩
  · exact .inr h
theorem TV.s {H : Hp} {b : Addr} {s : List Nat} {r : Res} (h : TV H b (.str (S s)) r) : s.length ≤ 1040 ∧ M.om s ≤ 136 ∧ s.count 43 ≤ 62 ∧ r = resOf s := by
  rcases h with ⟨s', h, h'⟩ | ⟨h, _⟩
  · injection h with h
    cases S_inj h
    exact h'
  · rcases h with h | ⟨_, h⟩ | ⟨_, _, h, _⟩ | ⟨_, _, h, _⟩ <;> cases h
theorem TV.n {H H1 : Hp} {b : Addr} {v : V} {r : Res} (h : TV H b v r) (hn : NoTx H1 b v) : r = resNo := by
  rcases h with ⟨s, rfl, _⟩ | ⟨_, h⟩
  · rcases hn with h | ⟨_, h⟩ | ⟨_, _, h, _⟩ | ⟨_, _, h, _⟩ <;> cases h
  · exact h
theorem TV.ga {H : Hp} {b : Addr} {v : V} {r : Res} (h : TV H b v r) : ∀ c, r.a = some c → v = .str (S (M.shA c)) ∧ (M.shA c).length ≤ 1040 ∧ ∀ n ∈ c, M.Nm n := fun c hc => by
  rcases h with ⟨s, rfl, h1, h2, h3, rfl⟩ | ⟨h, rfl⟩
  · obtain ⟨e1, e2⟩ := M.rdA_sh (show M.rdA s = some c from hc)
    rw [e1]
    exact ⟨rfl, h1, e2.nm⟩
  · cases hc
theorem TV.gf {H : Hp} {b : Addr} {v : V} {r : Res} (h : TV H b v r) : ∀ c, r.f = some c → v = .str (S c.sh) ∧ c.sh.length ≤ 1040 ∧ M.om c.sh ≤ 136 ∧ c.wf := fun c hc => by
  rcases h with ⟨s, rfl, h1, h2, h3, rfl⟩ | ⟨h, rfl⟩
  · have hc : M.readF 140 s = some c := hc
    rw [M.readF_eq (n' := 140) (m := s.length) (by omega) (by omega) (Nat.le_refl _)] at hc
    obtain ⟨e1, e2⟩ := M.lawF_sh hc
    rw [e1]
    exact ⟨rfl, h1, h2, e2⟩
  · cases hc
theorem TV.gt {H : Hp} {b : Addr} {v : V} {r : Res} (h : TV H b v r) : ∀ c, r.t = some c → v = .str (S (M.shT c)) ∧ (M.shT c).length ≤ 1040 ∧ M.TrOk c := fun c hc => by
  rcases h with ⟨s, rfl, h1, h2, h3, rfl⟩ | ⟨h, rfl⟩
  · obtain ⟨e1, e2⟩ := M.rdT_sh (show M.rdT s = some c from hc)
    rw [e1]
    exact ⟨rfl, h1, e2⟩
  · cases hc
theorem TV.gx {H : Hp} {b : Addr} {v : V} {r : Res} (h : TV H b v r) : ∀ c, r.x = some c → v = .str (S (M.shX c)) ∧ (M.shX c).length ≤ 1040 ∧ (c.1 = [] ∨ M.Nm c.1) ∧ ∀ k ∈ c.2, k < 1000000000 := fun c hc => by
  rcases h with ⟨s, rfl, h1, h2, h3, rfl⟩ | ⟨h, rfl⟩
  · obtain ⟨e1, e2, e3⟩ := M.rdX_sh (show M.rdX s = some c from hc)
    rw [e1]
    exact ⟨rfl, h1, e2, e3⟩
  · cases hc
def dAll (r : Res) : PyData := .list [dG gA r.a, dG gF r.f, dG gT r.t, dG gX r.x]
theorem TV.good {H : Hp} {b : Addr} {v : V} {r : Res} (h : TV H b v r) : (dAll r).canLay0 = true ∧ (dAll r).showable = true ∧ (dAll r).depth ≤ 200 ∧ (dAll r).shown.length ≤ sizeLine :=
  four_ok ((dG_ok (D := 10) (L := 140000) fun c hc => let ⟨_, h1, h2⟩ := h.ga c hc; (gA_ok h2).mono (by omega) (by omega)).mono (by omega) (by omega))
    ((dG_ok (D := 149) (L := 140000) fun c hc => let ⟨_, h1, h2, h3⟩ := h.gf c hc; (gF_ok h3).mono (by omega) (by omega)).mono (by omega) (by omega))
    ((dG_ok (D := 10) (L := 140000) fun c hc => let ⟨_, h1, h2⟩ := h.gt c hc; (gT_ok h2).mono (by omega) (by omega)).mono (by omega) (by omega))
    ((dG_ok (D := 10) (L := 140000) fun c hc => let ⟨_, h1, h2, h3⟩ := h.gx c hc; (gX_ok h2 h3).mono (by omega) (by omega)).mono (by omega) (by omega))
/-! ### frames -/
theorem tabL {T : List (Addr × Str)} {b c : Addr} {H H' : Hp} (t : LamX.Tabs T H) (e : SameB b H H') (hB : Bag H b c) : LamX.Tabs T H' := fun x hx => by
  obtain ⟨xs, h⟩ := hB.lst
  obtain ⟨ps, h1, h2, h3⟩ := t x hx
  refine ⟨ps, e _ _ h1 (fun z => by rw [z, h] at h1; cases h1), h2, fun pos cv hc => ?_⟩
  obtain ⟨c, e1, e2⟩ := h3 pos cv hc
  exact ⟨c, e1, e _ _ e2 (fun z => by rw [z, h] at e2; exact codeO_lst (Option.some.inj e2).symm)⟩
theorem extMut {H H5 H6 : Hp} {l : Addr} {o : HO} (e1 : LamX.ExtN H H5) (h5 : H5 l = none) (e2 : LamX.ExtN H5 H6) : LamX.ExtN H (upd H6 l o) := fun b o' h n => by
  have z := e1 b o' h n
  rw [upd_ne (ne_of_none z h5)]
  exact e2 b o' z n
theorem tabU {T : List (Addr × Str)} {l : Addr} {xs : List V} {o : HO} {H : Hp} (t : LamX.Tabs T H) (h : H l = some (.lst xs)) : LamX.Tabs T (upd H l o) := fun x hx => by
  obtain ⟨ps, h1, h2, h3⟩ := t x hx
  refine ⟨ps, by rw [upd_ne (fun z => by rw [z, h] at h1; cases h1)]; exact h1, h2, fun pos cv hc => ?_⟩
  obtain ⟨c, e1, e2⟩ := h3 pos cv hc
  exact ⟨c, e1, by rw [upd_ne (fun z => by rw [z, h] at e2; exact codeO_lst (Option.some.inj e2).symm)]; exact e2⟩
/-- is it a text? -/
theorem is_str {H : Hp} {b : Addr} {v : V} {Q : VK} (h1 : ∀ s, v = .str (S s) → Q (.bl true) H) (h2 : NoTx H b v → Q (.bl false) H) (h : (∃ s, v = .str (S s)) ∨ NoTx H b v) : rIsi K [v, .ty "str"] H Q := by
  rcases h with ⟨s, rfl⟩ | h
  · exact ⟨_, _, _, _, true, rfl, .ty _, .base (.str _), kit_ty (by decide +kernel), h1 s rfl⟩
  · obtain ⟨t, ht, hk⟩ := h.no (K := K)
    exact ⟨_, _, _, _, false, rfl, .ty _, ht, hk, h2 h⟩
end
end K92
end

section
set_option Elab.async false
set_option linter.all false
set_option maxRecDepth 100000
set_option maxHeartbeats 8000000
/-! k92: the law. -/
namespace K92
open PySem PySem.Spec PyProof.Rows L2 He HL
theorem funD_ne {K : PySem.W.Frag} {x1 q1 x2 q2 : Str} {p1 p2 : Arguments} {b1 b2 : List Stmt} {s1 s2 : Scope} {d1 d2 : List V} {k1 k2 : List (Str × V)} {f1 f2 : Addr} {fd1 fd2 : FuncData} (F1 : FunD K x1 q1 p1 b1 s1 d1 k1 f1 fd1) (F2 : FunD K x2 q2 p2 b2 s2 d2 k2 f2 fd2) (n : x1 ≠ x2) : f1 ≠ f2 := fun e => by
  obtain ⟨oc, od, dV, kV, doc, pm, an, cdv, ct, osl, rfl, lk, _⟩ := F1.ex
  obtain ⟨oc2, od2, dV2, kV2, doc2, pm2, an2, cdv2, ct2, osl2, rfl, lk2, _⟩ := F2.ex
  rw [e, lk2] at lk
  injection lk with lk
  injection lk with _ _ lk _
  injection lk with lk
  injection lk with lk
  exact n lk.symm
/-- the four that show -/
def sShow (K : PySem.W.Frag) : Addr → Option Sp := fun f => if f = fAd K d_show_answers.at_ then some spShA else if f = fAd K d_show_fact.at_ then some (spShF 140) else if f = fAd K d_show_trace.at_ then some spShT else if f = fAd K d_show_address.at_ then some spShX else none
theorem extMut2 {H H5 H6 : Hp} {l : Addr} {o : HO} (e1 : LamX.ExtN H H5) (h5 : H5 l = none) (e2 : LamX.ExtN H H6) : LamX.ExtN H (upd H6 l o) := fun b o' h n => by
  rw [upd_ne (ne_of_none (e1 b o' h n) h5)]
  exact e2 b o' h n
section
variable {w : World} {K : PySem.W.Frag} {mg : Str → Option Value} {base : Heap}
theorem sShow_ok (W : Wl K mg) : sShow K (fAd K d_show_answers.at_) = some spShA ∧ sShow K (fAd K d_show_fact.at_) = some (spShF 140) ∧ sShow K (fAd K d_show_trace.at_) = some spShT ∧ sShow K (fAd K d_show_address.at_) = some spShX := by
  obtain ⟨_, A⟩ := W.D_show_answers
  obtain ⟨_, F⟩ := W.D_show_fact
  obtain ⟨_, T⟩ := W.D_show_trace
  obtain ⟨_, X⟩ := W.D_show_address
  have n1 := funD_ne F A (by decide)
  have n2 := funD_ne T A (by decide)
  have n3 := funD_ne T F (by decide)
  have n4 := funD_ne X A (by decide)
  have n5 := funD_ne X F (by decide)
  have n6 := funD_ne X T (by decide)
  unfold sShow
  refine ⟨by rw [if_pos rfl], by rw [if_neg n1, if_pos rfl], by rw [if_neg n2, if_neg n3, if_pos rfl], by rw [if_neg n4, if_neg n5, if_neg n6, if_pos rfl]⟩
theorem held_of {k : Nat} {at_ : Str × Option Str} {ps : List Str} {sp : Sp} (O : HL.Ok P0 w K mg base CX0 k at_ ps sp) (h : k ≤ 145) : L2.Held P0 w K mg base 145 (fAd K at_) sp := by
  obtain ⟨fd, F, b⟩ := O.ex
  exact ⟨⟨fd, ps, F.mono h, O.kp, b⟩⟩
theorem sShow_held (W : Wl K mg) : ∀ f sp, sShow K f = some sp → L2.Held P0 w K mg base 145 f sp := fun f sp h => by
  unfold sShow at h
  split at h
  · cases h
    rename_i e
    rw [e]
    exact held_of (o_show_answers W) (by omega)
  split at h
  · cases h
    rename_i e
    rw [e]
    exact held_of (o_show_fact W 140 (by decide)) (by omega)
  split at h
  · cases h
    rename_i e
    rw [e]
    exact held_of (o_show_trace W) (by omega)
  split at h
  · cases h
    rename_i e
    rw [e]
    exact held_of (o_show_address W) (by omega)
  · cases h
/-- one of the texts is read -/
theorem lam_G {α : Type} {At : Hp → α → V → Prop} {sp : Sp} {rd : List Nat → Option α} {σ : L2.St} {H : Hp} {b : Addr} {v : V} {r : Res} {pr : Res → Option α} {Q : VK} (hT : LamX.Tabs (TK K) H) (hσ : σ[3]? = some (some v)) (hv : TV H b v r) (hpr : ∀ s, pr (resOf s) = rd s) (hno : pr resNo = none)
    (hsp : ∀ H1 Q' E', LamX.Tabs (TK K) H1 → ((∃ s, v = .str (S s) ∧ s.length ≤ 1040 ∧ M.om s ≤ 136 ∧ s.count 43 ≤ 62 ∧ (rd s = none → ∀ H', LamX.ExtN H1 H' → LamX.Tabs (TK K) H' → E' (.ref (CN K)) none H') ∧ (∀ ns, rd s = some ns → ∀ u H', LamX.ExtN H1 H' → LamX.Tabs (TK K) H' → At H' ns u → Q' u H')) ∨ (NoStr K H1 v ∧ E' (.ref (CN K)) none H1)) → sp [v] H1 Q' E')
    (hk : ∀ H1 H2 c v, Same H1 H2 → At H1 c v → At H2 c v)
    (h : ∀ p H', LamX.ExtN H H' → LamX.Tabs (TK K) H' → Due At H' p (pr r) → Q (.ref p) H') :
    LamX.tLam (TK K) (TTr K) (fun E' => tCall sp [] E' (tCons (tVar 3) tNil)) σ H Q := by
  refine ⟨hT, fun H1 e1 T1 => ?_⟩
  refine ⟨v, hσ, ?_⟩
  have fr : ∀ H2 p o, LamX.ExtN H1 H2 → H2 p = none → LamX.ExtN H (upd H2 p o) := fun H2 p o e hp => (e1.trans e).trans (.of (same_new hp))
  refine hsp _ _ _ T1 ?_
  rcases hv.ext e1 with ⟨s, rfl, h1, h2, h3, rfl⟩ | ⟨hn, rfl⟩
  · refine .inl ⟨s, rfl, h1, h2, h3, fun hc H2 e2 T2 => ⟨rfl, rfl, fun p hp => ?_⟩, fun c hc u H2 e2 T2 hAt => ⟨by show 2 ≤ sizeLine; decide, fun p hp => ?_⟩⟩
    · exact h p _ (fr H2 p _ e2 hp) (T2.ext (same_new hp)) (by rw [hpr, hc]; exact due_none)
    · exact h p _ (fr H2 p _ e2 hp) (T2.ext (same_new hp)) (by rw [hpr, hc]; exact due_some (hk _ _ _ _ (same_new hp) hAt))
  · exact .inr ⟨hn.no, rfl, rfl, fun p hp => h p _ (fr H1 p _ (.refl _) hp) (T1.ext (same_new hp)) (by rw [hno]; exact due_none)⟩
theorem lam_a {σ : L2.St} {H : Hp} {b : Addr} {v : V} {r : Res} {Q : VK} (hT : LamX.Tabs (TK K) H) (hσ : σ[3]? = some (some v)) (hv : TV H b v r) (h : ∀ p H', LamX.ExtN H H' → LamX.Tabs (TK K) H' → Due AAt H' p r.a → Q (.ref p) H') :
    LamX.tLam (TK K) (TTr K) (fun E' => tCall (spRdA K) [] E' (tCons (tVar 3) tNil)) σ H Q :=
  lam_G (rd := M.rdA) (pr := Res.a) hT hσ hv (fun _ => rfl) rfl (fun H1 Q' E' T1 h => ⟨v, rfl, h.imp (fun ⟨s, e, h1, h2, h3, h4, h5⟩ => ⟨s, e, by omega, by omega, fun z H' e => h4 z H' (.of e) (T1.ext e), fun ns z u H' e => h5 ns z u H' (.of e) (T1.ext e)⟩) id⟩) (fun _ _ _ _ e h => h.keep (.of e)) h
theorem lam_f {σ : L2.St} {H : Hp} {b : Addr} {v : V} {r : Res} {Q : VK} (hT : LamX.Tabs (TK K) H) (hσ : σ[3]? = some (some v)) (hv : TV H b v r) (h : ∀ p H', LamX.ExtN H H' → LamX.Tabs (TK K) H' → Due FAt H' p r.f → Q (.ref p) H') :
    LamX.tLam (TK K) (TTr K) (fun E' => tCall (spRdF K 140) [] E' (tCons (tVar 3) tNil)) σ H Q :=
  lam_G (rd := M.readF 140) (pr := Res.f) hT hσ hv (fun _ => rfl) rfl (fun H1 Q' E' T1 h => ⟨v, rfl, T1, h.imp (fun ⟨s, e, h1, h2, h3, h4, h5⟩ => ⟨s, e, by omega, by omega, h4, h5⟩) id⟩) (fun _ _ _ _ e h => h.keep (.of e)) h
theorem lam_x {σ : L2.St} {H : Hp} {b : Addr} {v : V} {r : Res} {Q : VK} (hT : LamX.Tabs (TK K) H) (hσ : σ[3]? = some (some v)) (hv : TV H b v r) (h : ∀ p H', LamX.ExtN H H' → LamX.Tabs (TK K) H' → Due XAt H' p r.x → Q (.ref p) H') :
    LamX.tLam (TK K) (TTr K) (fun E' => tCall (spRdX K) [] E' (tCons (tVar 3) tNil)) σ H Q :=
  lam_G (rd := M.rdX) (pr := Res.x) hT hσ hv (fun _ => rfl) rfl (fun H1 Q' E' T1 h => ⟨v, rfl, h.imp (fun ⟨s, e, h1, h2, h3, h4, h5⟩ => ⟨s, e, by omega, fun z H' e => h4 z H' (.of e) (T1.ext e), fun ns z u H' e => h5 ns z u H' (.of e) (T1.ext e)⟩) id⟩) (fun _ _ _ _ e h => h.keep (.of e)) h
theorem Due.imp {α : Type} {At At' : Hp → α → V → Prop} {H : Hp} {u : Addr} {r : Option α} (h : Due At H u r) (hk : ∀ c v, At H c v → At' H c v) : Due At' H u r := by
  cases r with
  | none => exact h
  | some c => obtain ⟨v, h1, h2⟩ := h; exact ⟨v, h1, hk _ _ h2⟩
/-- a heap without its tables -/
def noTbl (H : Hp) : Hp := fun a => match H a with
  | some (.tbl _) => none
  | o => o
theorem noTbl_some {H : Hp} {a : Addr} {o : HO} (h : H a = some o) (n : ∀ ps, o ≠ .tbl ps) : noTbl H a = some o := by
  unfold noTbl
  rw [h]
  cases o with
  | tbl ps => exact absurd rfl (n ps)
  | _ => rfl
theorem extMut3 {H H5 H6 : Hp} {l : Addr} {o : HO} (e1 : LamX.ExtN H H5) (h5 : noTbl H5 l = none) (e2 : LamX.ExtN H H6) : LamX.ExtN H (upd H6 l o) := fun b o' h n => by
  have z := noTbl_some (e1 b o' h n) n
  rw [upd_ne (fun q => by rw [q, h5] at z; cases z)]
  exact e2 b o' h n
theorem turns_few {t : M.Trace} : t.2.length ≤ (M.shT t).length := by
  have h4 := joinL_len (M.q " ") (M.shA t.1 :: t.2.map M.turnS)
  have q1 : (M.q " ").length = 1 := by decide
  rw [q1, List.length_cons, List.length_map] at h4
  show _ ≤ (TL.joinL (M.q " ") (M.shA t.1 :: t.2.map M.turnS)).length
  omega
/-- a trace that was read; its list is new -/
def RAtN (H0 H : Hp) (t : M.Trace) (v : V) : Prop := ∃ p t0 l us, v = .ref p ∧ H p = some (.tup [.ref t0, .ref l]) ∧ H t0 = some (.tup (sV t.1)) ∧ H l = some (.lst us) ∧ All2 (fun v x => UAt H x v) us t.2 ∧ H0 l = none
theorem RAtN.at {H0 H : Hp} {t : M.Trace} {v : V} (h : RAtN H0 H t v) : RAt H t v := let ⟨p, t0, l, us, r, h1, h2, h3, h4, _⟩ := h; ⟨p, t0, l, us, r, h1, h2, h3, h4⟩
theorem RAtN.keep {H0 H H' : Hp} {t : M.Trace} {v : V} (h : RAtN H0 H t v) (e : TupK H H') (e2 : ∀ a us, H a = some (.lst us) → H0 a = none → H' a = some (.lst us)) : RAtN H0 H' t v := let ⟨p, t0, l, us, r, h1, h2, h3, h4, h5⟩ := h; ⟨p, t0, l, us, r, e _ _ h1, e _ _ h2, e2 _ _ h3 h5, h4.imp fun _ _ z => z.keep e, h5⟩
theorem lam_t {σ : L2.St} {H : Hp} {b : Addr} {v : V} {r : Res} {Q : VK} (hT : LamX.Tabs (TK K) H) (hσ : σ[3]? = some (some v)) (hv : TV H b v r) (h : ∀ p H', LamX.ExtN H H' → LamX.Tabs (TK K) H' → Due (RAtN (noTbl H)) H' p r.t → Q (.ref p) H') :
    LamX.tLam (TK K) (TTr K) (fun E' => tCall (spRdT K) [] E' (tCons (tVar 3) tNil)) σ H Q := by
  refine ⟨hT, fun H1 e1 T1 => ?_⟩
  refine ⟨v, hσ, v, rfl, ?_⟩
  have fr : ∀ H2 p o, Same H1 H2 → H2 p = none → LamX.ExtN H (upd H2 p o) := fun H2 p o e hp => (e1.trans (.of e)).trans (.of (same_new hp))
  rcases hv.ext e1 with ⟨s, rfl, h1, h2, h3, rfl⟩ | ⟨hn, rfl⟩
  · refine .inl ⟨s, rfl, by omega, by omega, fun hc H2 e2 => ⟨rfl, rfl, fun p hp => ?_⟩, fun t ht q t0 l us H2 e2 hl0 hq ht0 hl hA => ⟨by show 2 ≤ sizeLine; decide, fun p hp => ?_⟩⟩
    · exact h p _ (fr H2 p _ e2 hp) ((T1.ext e2).ext (same_new hp)) (by show Due _ _ _ (M.rdT s); rw [hc]; exact due_none)
    · have e3 := same_new (o := .tup [V.str (Str.ofString "told"), .ref q]) hp
      have hfr : noTbl H l = none := by
        unfold noTbl
        cases hz : H l with
        | none => rfl
        | some o =>
          cases o with
          | tbl ps => rfl
          | _ => exact absurd (e1 _ _ hz nofun) (by rw [hl0]; nofun)
      refine h p _ (fr H2 p _ e2 hp) ((T1.ext e2).ext e3) (by show Due _ _ _ (M.rdT s); rw [ht]; exact due_some ⟨q, t0, l, us, rfl, e3 _ _ hq, e3 _ _ ht0, e3 _ _ hl, hA.imp fun _ _ z => z.keep (.of e3), hfr⟩)
  · exact .inr ⟨hn.no, rfl, rfl, fun p hp => h p _ (fr H1 p _ (.refl _) hp) (T1.ext (same_new hp)) due_none⟩
abbrev n_law : List Str := ["_law_script", "_law_bag_here", "_law_turn", "_law_text_here", "_law_again", "_law_dues", "_law_found", "_law_shown", "_law_k"]
theorem sc_law : FnScope n_law ["_law_script"] (defScope s_law) := ⟨rfl, rfl, rfl, by decide +kernel, rfl, by decide +kernel, by decide +kernel⟩
theorem bi_law : ∀ (kV doc pm : Value) (an : Option Addr) (cdv ct : Value) (us : List Value), us.length = 1 → bindArgs (PySem.W.fnOf d_law.name d_law.qual d_law.params d_law.body d_law.scope .none kV doc pm an cdv ct) ⟨us, []⟩ = pure ([("_law_script" : Str)].zip us) := fun kV doc pm an cdv ct us hu => by
  match us, hu with
  | [u0], _ => rfl
abbrev LX (w : World) (K : PySem.W.Frag) (mg : Str → Option Value) (base : Heap) (fa' : Addr) (outer : List Env) (s : Shared) (H : Hp) (E : L2.XK) : Cx := (cxOf (CXN w) P0 w K mg base n_law d_law.qual d_law.scope fa' (.ref (He.cT K ("law", none)).1) callerA outer s H E).nox
def spLaw (K : PySem.W.Frag) (ts : List Addr) : Sp := fun vs H Q _ => ∃ (a : Addr) (ns : List Int), vs = [.ref a] ∧ SqL K H a (ns.map V.int) ∧ ns.length ≤ 63 ∧ (∀ t ∈ ts, H t = some (.tbl #[])) ∧ ∀ H', Q (.bl true) H'
theorem law_body (W : Wl K mg) (B : Tb K mg base) {outer : List Env} {s : Shared} {H : Hp} {vs : List V} {Q : VK} {E : L2.XK} {fa' : Addr} (hr : Room 170 (LX w K mg base fa' outer s H E).A) (h : spLaw K ((TK K).map (·.1)) vs H Q E) :
    ∃ t, PSs (LX w K mg base fa' outer s H E) d_law.body t ∧ t { nx := fun _ H' => Q .non H', rt := Q } (L2.start n_law vs) H := by
  have nd := sc_law.nd
  have O__law_bag := o_bag (w := w) (base := base) W
  have O__law_text := o_text (w := w) (base := base) W
  have O__law_take := o_take (w := w) (base := base) W
  have O__law_spoilt := o_spoilt (w := w) (base := base) W
  have O__law_answers_read := o_laread (w := w) (base := base) W
  have O__law_fact_read := o_lfread (w := w) (base := base) W 140 (by decide)
  have O__law_trace_read := o_ltread (w := w) (base := base) W
  have O__law_address_read := o_lxread (w := w) (base := base) W
  have O_read_answers := o_read_answers (w := w) (base := base) W
  have O_read_fact := o_read_fact (w := w) (base := base) W B 140 (by decide)
  have O_read_trace := o_read_trace (w := w) (base := base) W
  have O_read_address := o_read_address (w := w) (base := base) W
  obtain ⟨fdA, DA⟩ := W.D_law_alike
  have bA : L2.Binds K fdA ["_law_found", "_law_due"] [] := DA.bindsN bi_law_alike
  have lenA : ∀ vs H Q E, spAlike K 0 vs H Q E → vs.length = (["_law_found", "_law_due"] : List Str).length := fun vs H Q E ⟨_, _, _, h, _⟩ => by rw [h]; rfl
  have hbA : ∀ (cdv : Value) (s' : Shared) (H' : Hp) (vs : List V) (Q : VK), Room 5 ((LX w K mg base fa' outer s H E).A.deeper (envOfC d_law_alike.qual d_law_alike.scope s'.heap.objs.size (fAd K d_law_alike.at_) cdv)) → spAlike K 0 vs H' Q L2.E0 →
      ∃ t, PSs (cxOf CX0 P0 w K mg base n_law_alike d_law_alike.qual d_law_alike.scope (fAd K d_law_alike.at_) cdv (LX w K mg base fa' outer s H E).A (LX w K mg base fa' outer s H E).stack s' H' L2.E0) d_law_alike.body t ∧ t { nx := fun _ H' => Q .non H', rt := Q } (L2.start n_law_alike vs) H' :=
    fun cdv s' H' vs Q _ h => alike_body W rfl (by have := hr.un; omega) h
  have hCF := sShow_held (w := w) (base := base) W
  obtain ⟨fdR, DR⟩ := W.D_law_read
  obtain ⟨ocR, odR, dVR, kVR, docR, pmR, anR, cdvR, ctR, oslR, rfl, lkR, hcgR, _, _⟩ := id DR.ex
  have bR : L2.Binds K _ ["_law_act"] [] := DR.bindsN bi_law_read
  refine ⟨_, (pss_cons (ps_set (i := 1) nd rfl (Or.inl rfl) (pe_cal O__law_bag (hr.mono (by omega)) W.g__law_bag pass0 (pa_cons (pv 0) pa_nil)))
    (pss_cons (ps_for PassesOwn.never rfl (pi_range1 (by rfl) W.f_range (pa_cons pe_int pa_nil)) (pg_name (i := 2) nd rfl (Or.inl rfl)) (pss_cons (ps_set (i := 3) nd rfl (Or.inr rfl) (pe_cal O__law_text (hr.mono (by omega)) W.g__law_text pass0 (pa_cons (pv 1) pa_nil)))
      (pss_cons (ps_for PassesOwn.never rfl (pi_range1 (by rfl) W.f_range (pa_cons (pe_op op_mul (pe_ix ix_list (pe_lst (pa_cons pe_int (pa_cons pe_int (pa_cons pe_int (pa_cons pe_int pa_nil))))) (pe_cal O__law_take (hr.mono (by omega)) W.g__law_take pass0 (pa_cons (pv 1) (pa_cons pe_int pa_nil))) (fun _ _ => rfl)) (pe_callTy call_int1 (by rfl) W.f_int (by decide +kernel) (pa_cons (pe_callB call_isi (by rfl) W.f_isinstance (by decide +kernel) (pa_cons (pv 3) (pa_cons (pe_bltn (v := .ty "str") (by rfl) W.f_str (by decide +kernel) rfl) pa_nil))) pa_nil))) pa_nil)) (pg_name (i := 4) nd rfl (Or.inl rfl)) (pss_one (ps_set (i := 3) nd rfl (Or.inr rfl) (pe_cal O__law_spoilt (hr.mono (by omega)) W.g__law_spoilt pass0 (pa_cons (pv 1) (pa_cons (pv 3) pa_nil))))))
      (pss_cons (ps_set (i := 5) nd rfl (Or.inl rfl) (pe_op op_rep (pe_lst (pa_cons (pe_tup (pa_cons pe_str (pa_cons pe_non pa_nil))) pa_nil)) pe_int))
      (pss_cons (ps_if (pt_val (pe_callB call_isi (by rfl) W.f_isinstance (by decide +kernel) (pa_cons (pv 3) (pa_cons (pe_bltn (v := .ty "str") (by rfl) W.f_str (by decide +kernel) rfl) pa_nil)))) (pss_one (ps_set (i := 5) nd rfl (Or.inl rfl) (pe_lst (pa_cons (pe_cal O__law_answers_read (hr.mono (by omega)) W.g__law_answers_read pass0 (pa_cons (pv 3) pa_nil)) (pa_cons (pe_cal O__law_fact_read (hr.mono (by omega)) W.g__law_fact_read pass0 (pa_cons (pv 3) pa_nil)) (pa_cons (pe_cal O__law_trace_read (hr.mono (by omega)) W.g__law_trace_read pass0 (pa_cons (pv 3) pa_nil)) (pa_cons (pe_cal O__law_address_read (hr.mono (by omega)) W.g__law_address_read pass0 (pa_cons (pv 3) pa_nil)) pa_nil))))))) pss_nil)
      (pss_cons (ps_for PassesOwn.never rfl (pi_range1 (by rfl) W.f_range (pa_cons pe_int pa_nil)) (pg_name (i := 4) nd rfl (Or.inl rfl)) (pss_cons (ps_set (i := 6) nd rfl (Or.inl rfl) (pe_lst (pa_cons (LamX.pe_lamcall (T := TK K) (TT := TTr K) (x := "_law_read") (a := "_law_act") (g := ga K "_law_read") (c := (He.cT K ("law", none)).1) (P := (He.cT K ("law", none)).2) (k := 160) (t := fun E' => tCall (spRdA K) [] E' (tCons (tVar 3) tNil)) rfl W.g__law_read DR.kp lkR hcgR bR sc_law_read rfl (.inl rfl) (read_gives W) (B.tab _ (by simp [tf])) rfl (by simp [TK]; right; rfl) (tab_uniq W.nodT (by simp [TK]; right; rfl)) (hr.mono (by omega)) (show LamX.LamS (defScope s_law) _ from LamX.lamS_by (by decide +kernel)) rfl (fun _ _ _ _ _ => rfl) (fun A' outer' s' H' E' f c' hr2 => pe_cal O_read_answers (hr2.mono (by omega)) W.g_read_answers (passes_call (takes_of rfl rfl rfl rfl) (fun _ _ _ _ h => h)) (pa_cons (pv 3) pa_nil))) pa_nil)))
        (pss_cons (ps_expr (pe_bm PySem.F.plainAttrs_list PySem.F.slot_list_append PySem.F.type_list_append mt_append (pv 6) (pa_cons (LamX.pe_lamcall (T := TK K) (TT := TTr K) (x := "_law_read") (a := "_law_act") (g := ga K "_law_read") (c := (He.cT K ("law", none)).1) (P := (He.cT K ("law", none)).2) (k := 160) (t := fun E' => tCall (spRdF K 140) [] E' (tCons (tVar 3) tNil)) rfl W.g__law_read DR.kp lkR hcgR bR sc_law_read rfl (.inl rfl) (read_gives W) (B.tab _ (by simp [tf])) rfl (by simp [TK]; right; rfl) (tab_uniq W.nodT (by simp [TK]; right; rfl)) (hr.mono (by omega)) (show LamX.LamS (defScope s_law) _ from LamX.lamS_by (by decide +kernel)) rfl (fun _ _ _ _ _ => rfl) (fun A' outer' s' H' E' f c' hr2 => pe_cal O_read_fact (hr2.mono (by omega)) W.g_read_fact (passes_call (takes_of rfl rfl rfl rfl) (fun _ _ _ _ h => h)) (pa_cons (pv 3) pa_nil))) pa_nil)))
        (pss_cons (ps_expr (pe_bm PySem.F.plainAttrs_list PySem.F.slot_list_append PySem.F.type_list_append mt_append (pv 6) (pa_cons (LamX.pe_lamcall (T := TK K) (TT := TTr K) (x := "_law_read") (a := "_law_act") (g := ga K "_law_read") (c := (He.cT K ("law", none)).1) (P := (He.cT K ("law", none)).2) (k := 160) (t := fun E' => tCall (spRdT K) [] E' (tCons (tVar 3) tNil)) rfl W.g__law_read DR.kp lkR hcgR bR sc_law_read rfl (.inl rfl) (read_gives W) (B.tab _ (by simp [tf])) rfl (by simp [TK]; right; rfl) (tab_uniq W.nodT (by simp [TK]; right; rfl)) (hr.mono (by omega)) (show LamX.LamS (defScope s_law) _ from LamX.lamS_by (by decide +kernel)) rfl (fun _ _ _ _ _ => rfl) (fun A' outer' s' H' E' f c' hr2 => pe_cal O_read_trace (hr2.mono (by omega)) W.g_read_trace (passes_call (takes_of rfl rfl rfl rfl) (fun _ _ _ _ h => h)) (pa_cons (pv 3) pa_nil))) pa_nil)))
        (pss_cons (ps_expr (pe_bm PySem.F.plainAttrs_list PySem.F.slot_list_append PySem.F.type_list_append mt_append (pv 6) (pa_cons (LamX.pe_lamcall (T := TK K) (TT := TTr K) (x := "_law_read") (a := "_law_act") (g := ga K "_law_read") (c := (He.cT K ("law", none)).1) (P := (He.cT K ("law", none)).2) (k := 160) (t := fun E' => tCall (spRdX K) [] E' (tCons (tVar 3) tNil)) rfl W.g__law_read DR.kp lkR hcgR bR sc_law_read rfl (.inl rfl) (read_gives W) (B.tab _ (by simp [tf])) rfl (by simp [TK]; right; rfl) (tab_uniq W.nodT (by simp [TK]; right; rfl)) (hr.mono (by omega)) (show LamX.LamS (defScope s_law) _ from LamX.lamS_by (by decide +kernel)) rfl (fun _ _ _ _ _ => rfl) (fun A' outer' s' H' E' f c' hr2 => pe_cal O_read_address (hr2.mono (by omega)) W.g_read_address (passes_call (takes_of rfl rfl rfl rfl) (fun _ _ _ _ h => h)) (pa_cons (pv 3) pa_nil))) pa_nil)))
        (pss_cons (ps_if (pt_not (pt_val (XP.pe_calA (CX := CX0) (E := L2.E0) (k := 5) DA bA sc_law_alike lenA (hr.mono (by omega)) W.g__law_alike pass0 (pa_cons (pv 6) (pa_cons (pv 5) pa_nil)) hbA))) (pss_one (ps_ret pe_bl)) pss_nil)
        (pss_one (ps_if (pt_cmpR op_eq (pe_ix ix_tup (pe_ix ix_list (pv 6) pe_int (fun _ _ => rfl)) pe_int (fun _ _ => rfl)) pe_str (nomark _)) (pss_one (ps_expr (pe_bm PySem.F.plainAttrs_list PySem.F.slot_list_append PySem.F.type_list_append mt_append (pe_ix ix_tup (pe_ix ix_tup (pe_ix ix_list (pv 6) pe_int (fun _ _ => rfl)) pe_int (fun _ _ => rfl)) pe_int (fun _ _ => rfl)) (pa_cons pe_non pa_nil)))) pss_nil))))))))
      (pss_cons (ps_set (i := 7) nd rfl (Or.inl rfl) (pe_lst (pa_cons (pe_glob (v := .ref (He.ga _ "show_answers")) (by rfl) W.g_show_answers rfl) (pa_cons (pe_glob (v := .ref (He.ga _ "show_fact")) (by rfl) W.g_show_fact rfl) (pa_cons (pe_glob (v := .ref (He.ga _ "show_trace")) (by rfl) W.g_show_trace rfl) (pa_cons (pe_glob (v := .ref (He.ga _ "show_address")) (by rfl) W.g_show_address rfl) pa_nil))))))
      (pss_one (ps_for PassesOwn.never rfl (pi_range1 (by rfl) W.f_range (pa_cons pe_int pa_nil)) (pg_name (i := 8) nd rfl (Or.inl rfl)) (pss_one (ps_if (PW.pt (pw_and (pt_cmpR op_eq (pe_ix ix_tup (pe_ix ix_list (pv 5) (pv 8) (fun _ _ => rfl)) pe_int (fun _ _ => rfl)) pe_str (nomark _)) (pw_and1 (pt_cmpR op_ne (XP.pe_callF hCF (hr.mono (by omega)) (pe_ix ix_list (pv 7) (pv 8) (fun _ _ => rfl)) (pa_cons (pe_ix ix_tup (pe_ix ix_list (pv 5) (pv 8) (fun _ _ => rfl)) pe_int (fun _ _ => rfl)) pa_nil)) (pv 3) (nomark _))))) (pss_one (ps_ret pe_bl)) pss_nil)))))))))))
    (pss_one (ps_ret pe_bl)))), ?_⟩
  obtain ⟨a, ns, rfl, ha, hn, hts, hq⟩ := h
  have hT0 : LamX.Tabs (TK K) H := fun p hp => LamX.TabS.nil (hts _ (List.mem_map.mpr ⟨p, hp, rfl⟩))
  refine ⟨_, rfl, a, ns, rfl, ha, hn, fun b c H1 e1 hb hB1 => ?_⟩
  have hT1 := hT0.ext e1
  refine ⟨12, rfl, by decide, by decide, for_range (lo := 0) (n := 12) (fun _ σ H2 => ∃ x2 x3 x4 x5 x6 x7 x8, σ = [some (.ref a), some (.ref b), x2, x3, x4, x5, x6, x7, x8] ∧ Bag H2 b c ∧ LamX.Tabs (TK K) H2) ⟨none, none, none, none, none, none, none, rfl, hB1, hT1⟩ ?_ ?_⟩
  rotate_left
  · rintro σ H2 _
    exact hq _
  rintro i σ H2 _ ⟨x2, x3, x4, x5, x6, x7, x8, rfl, hB2, hT2⟩
  refine ⟨_, rfl, b, c, rfl, hB2, fun v H3 e3 hB3 hv3 => ?_⟩
  have hT3 := tabL hT2 e3 hB2
  dsimp only [gName]
  refine seq_cont (fun σ' H' => ∃ x4 v r, σ' = [some (.ref a), some (.ref b), some (.int (0 + (i : Int))), some v, x4, x5, x6, x7, x8] ∧ Bag H' b c ∧ LamX.Tabs (TK K) H' ∧ TV H' b v r) (fun N hN => ?_) (fun σ' H' hR => ?_)
  · -- the spoiling
    refine ⟨by show 4 ≤ sizeLine; decide, fun l hl => ⟨_, rfl, b, c, 4, rfl, by decide, by decide, hB3.keep (same_new hl), fun n H4 hn4 e4 hB4 => ?_⟩⟩
    have nl := (hB3.ne hl).1
    have e34 : SameB b H3 H4 := (SameB.of (same_new hl)).trans e4
    have key : ∃ k : Nat, atI [V.int 0, V.int 1, V.int 1, V.int 2] ((n : Nat) : Int) = some (V.int (k : Nat)) ∧ k ≤ 2 := by
      have h4 : n = 0 ∨ n = 1 ∨ n = 2 ∨ n = 3 := by omega
      rcases h4 with rfl | rfl | rfl | rfl
      · exact ⟨0, at0, by decide⟩
      · exact ⟨1, at1, by decide⟩
      · exact ⟨1, at2, by decide⟩
      · exact ⟨2, at3, by decide⟩
    obtain ⟨k, hk, hk2⟩ := key
    have hT4 := tabL hT3 e34 hB3
    refine ⟨l, _, _, _, rfl, rfl, sql (e4 _ _ upd_same nl), hk, _, rfl, ?_⟩
    have tx4 : Tx H4 b v := by
      rcases hv3 with h | h
      · exact .inl h
      · exact .inr (h.keepB hB3 e34)
    dsimp only [tCons, tC, tNil]
    refine is_str (b := b) (fun s hs => ?_) (fun hno => ?_) (tx4.imp (fun ⟨s, h, _⟩ => ⟨s, h⟩) id)
    · obtain ⟨s', hs', hl1, ho1, hc1⟩ : ∃ s', v = .str (S s') ∧ s'.length ≤ 1000 ∧ M.om s' ≤ 130 ∧ s'.count 43 ≤ 60 := by
        rcases tx4 with h | h
        · exact h
        · subst hs
          rcases h with h | ⟨_, h⟩ | ⟨_, _, h, _⟩ | ⟨_, _, h, _⟩ <;> cases h
      subst hs'
      refine .inr ⟨true, rfl, _, _, rfl, rfl, .inl ⟨by omega, by omega⟩, _, rfl, by simp <;> omega, by simp <;> omega, ?_⟩
      have ek : ((k : Int) * (if true = true then 1 else 0)).toNat = k := by simp
      rw [ek]
      refine for_range (lo := 0) (n := k) (D := { nx := N, rt := Q }) (g := gName 4) (fun j σ H5 => ∃ x4 s, σ = [some (.ref a), some (.ref b), some (.int (0 + (i : Int))), some (.str (S s)), x4, x5, x6, x7, x8] ∧ Bag H5 b c ∧ LamX.Tabs (TK K) H5 ∧ s.length ≤ 1000 + 20 * j ∧ M.om s ≤ 130 + 3 * j ∧ s.count 43 ≤ 60 + j) ⟨_, s', rfl, hB4, hT4, hl1, ho1, hc1⟩ ?_ ?_
      · rintro j σ H5 hj ⟨x4, s, rfl, hB5, hT5, h1, h2, h3⟩
        refine ⟨_, rfl, _, rfl, b, c, s, rfl, hB5, by omega, fun s2 H6 e6 hB6 hl6 ho6 hc6 => ?_⟩
        exact ⟨_, s2, rfl, hB6, tabL hT5 e6 hB5, by omega, by omega, by omega⟩
      · rintro σ H5 ⟨x4, s, rfl, hB5, hT5, h1, h2, h3⟩
        exact hN _ _ ⟨x4, _, _, rfl, hB5, hT5, .inl ⟨s, rfl, by omega, by omega, by omega, rfl⟩⟩
    · refine .inr ⟨false, rfl, _, _, rfl, rfl, .inl ⟨by omega, by omega⟩, _, rfl, by simp, by simp, ?_⟩
      have ek : ((k : Int) * (if false = true then 1 else 0)).toNat = 0 := by simp
      rw [ek]
      refine for_range (lo := 0) (n := 0) (D := { nx := N, rt := Q }) (g := gName 4) (fun j σ H5 => σ = [some (.ref a), some (.ref b), some (.int (0 + (i : Int))), some v, x4, x5, x6, x7, x8] ∧ H5 = H4) ⟨rfl, rfl⟩ (fun j σ H5 hj _ => by omega) ?_
      rintro σ H5 ⟨rfl, rfl⟩
      exact hN _ _ ⟨x4, v, resNo, rfl, hB4, hT4, .inr ⟨hno, rfl⟩⟩
  obtain ⟨x4', v', r, rfl, hB5, hT5, hv5⟩ := hR
  clear hv3 hT3 hB3 e3
  -- what is due
  refine ⟨by show 2 ≤ sizeLine; decide, fun w1 hw1 => ⟨by show 1 ≤ sizeLine; decide, fun w2 hw2 => ⟨w2, 4, [V.ref w1], rfl, rfl, upd_same, by decide, by decide, by show 4 ≤ sizeLine; decide, fun w3 hw3 => ?_⟩⟩⟩
  have s1 := same_new (o := .tup [V.str (Str.ofString "none"), V.non]) hw1
  have s2 := same_new (o := .lst [V.ref w1]) hw2
  have s3 := same_new (o := .lst (List.replicate (4 : Int).toNat [V.ref w1]).flatten) hw3
  have v1 := s3 _ _ (s2 _ _ (upd_same (H := H') (a := w1) (o := .tup [V.str (Str.ofString "none"), V.non])))
  have v3 := upd_same (H := upd (upd H' w1 (.tup [V.str (Str.ofString "none"), V.non])) w2 (.lst [V.ref w1])) (a := w3) (o := .lst (List.replicate (4 : Int).toNat [V.ref w1]).flatten)
  have s6 := s1.trans (s2.trans s3)
  generalize upd (upd (upd H' w1 (.tup [V.str (Str.ofString "none"), V.non])) w2 (.lst [V.ref w1])) w3 (.lst (List.replicate (4 : Int).toNat [V.ref w1]).flatten) = H6 at v1 v3 s6 ⊢
  clear s1 s2 s3 hw1 hw2 hw3
  replace v3 : H6 w3 = some (.lst [V.ref w1, V.ref w1, V.ref w1, V.ref w1]) := v3
  rw [sq "none"] at v1
  dsimp only [gName]
  refine seq_cont (fun σ' H8 => ∃ D u1 u2 u3 u4, σ' = [some (.ref a), some (.ref b), some (.int (0 + (i : Int))), some v', x4', some (.ref D), x6, x7, x8] ∧ Same H' H8 ∧ H8 D = some (.lst [.ref u1, .ref u2, .ref u3, .ref u4]) ∧ Due AAt H8 u1 r.a ∧ Due FAt H8 u2 r.f ∧ Due RAt H8 u3 r.t ∧ Due XAt H8 u4 r.x) (fun N hN => ?_) (fun σ' H8 hR => ?_)
  · refine ⟨_, rfl, ?_⟩
    dsimp only [tCons, tC, tNil]
    refine is_str (b := b) (fun s hs => ⟨true, rfl, iteT ?_⟩) (fun hno => ⟨false, rfl, iteF ?_⟩) (hv5.ext (.of s6)).is
    · subst hs
      obtain ⟨h1, h2, h3, rfl⟩ := hv5.s
      refine ⟨_, rfl, s, rfl, by omega, by omega, fun u1 H7 e7 d1 => ?_⟩
      refine ⟨_, rfl, s, rfl, by omega, by omega, fun u2 H9 e9 d2 => ?_⟩
      refine ⟨_, rfl, s, rfl, by omega, by omega, fun u3 H10 e10 d3 => ?_⟩
      refine ⟨_, rfl, s, rfl, by omega, fun u4 H11 e11 d4 => ?_⟩
      refine ⟨by show 4 ≤ sizeLine; decide, fun D hD => ?_⟩
      rw [← M.readF_eq (n := 140) (by omega) (by omega) (Nat.le_refl _)] at d2
      have eD := same_new (o := .lst [V.ref u1, V.ref u2, V.ref u3, V.ref u4]) hD
      exact hN _ _ ⟨D, u1, u2, u3, u4, rfl, (s6.trans (e7.trans (e9.trans (e10.trans e11)))).trans eD, upd_same, d1.keep (.of (e9.trans (e10.trans (e11.trans eD)))) fun _ _ z => z.keep (.of (e9.trans (e10.trans (e11.trans eD)))), d2.keep (.of (e10.trans (e11.trans eD))) fun _ _ z => z.keep (.of (e10.trans (e11.trans eD))), d3.keep (.of (e11.trans eD)) fun _ _ z => z.keep (.of (e11.trans eD)), d4.keep (.of eD) fun _ _ z => z.keep (.of eD)⟩
    · obtain rfl := hv5.n hno
      exact hN _ _ ⟨w3, w1, w1, w1, w1, rfl, s6, v3, v1, v1, v1, v1⟩
  obtain ⟨D, u1, u2, u3, u4, rfl, s8, hD, d1, d2, d3, d4⟩ := hR
  clear v1 v3 s6
  have hB8 := hB5.keep s8
  have hT8 := hT5.ext s8
  have hv8 := hv5.ext (.of s8)
  have dC := hv8.good
  refine seq_cont (fun σ' H9 => ∃ x4 x6, σ' = [some (.ref a), some (.ref b), some (.int (0 + (i : Int))), some v', x4, some (.ref D), x6, x7, x8] ∧ LamX.ExtN H8 H9 ∧ LamX.Tabs (TK K) H9) (fun N hN => ?_) (fun σ' H9 hR => ?_)
  · refine ⟨_, rfl, by decide, by decide, ?_⟩
    refine for_range (lo := 0) (n := 2) (g := gName 4) (fun j σ H9 => ∃ x4 x6, σ = [some (.ref a), some (.ref b), some (.int (0 + (i : Int))), some v', x4, some (.ref D), x6, x7, x8] ∧ LamX.ExtN H8 H9 ∧ LamX.Tabs (TK K) H9) ⟨_, _, rfl, .refl _, hT8⟩ ?_ (fun σ H9 h => hN _ _ h)
    rintro j σ H9 hj ⟨x4, x6, rfl, e9, hT9⟩
    dsimp only [gName]
    refine lam_a hT9 rfl (hv8.ext e9) fun p1 H10 e10 hT10 f1 => ⟨by show 1 ≤ sizeLine; decide, fun l hl => ?_⟩
    have s11 := same_new (o := .lst [V.ref p1]) hl
    have e11 := LamX.ExtN.of s11
    have hT11 := hT10.ext s11
    have hl11 : upd H10 l (.lst [V.ref p1]) l = some (.lst [V.ref p1]) := upd_same
    replace f1 := f1.keep (.of s11) fun _ _ z => z.keep (.of s11)
    generalize upd H10 l (.lst [V.ref p1]) = H11 at s11 e11 hT11 hl11 f1 ⊢
    refine ⟨_, rfl, .inl ⟨rfl, _, sql hl11⟩, ?_⟩
    refine lam_f hT11 rfl (hv8.ext (e9.trans (e10.trans e11))) fun p2 H12 e12 hT12 f2 => ?_
    have hl12 := e12 _ _ hl11 nofun
    refine ⟨l, [V.ref p1], _, rfl, rfl, hl12, by show 1 < sizeLine; decide, ?_⟩
    have g13 : LamX.ExtN H10 (upd H12 l (.lst ([V.ref p1] ++ [V.ref p2]))) := extMut2 (.refl _) hl (e11.trans e12)
    have hT13 := tabU (o := .lst ([V.ref p1] ++ [V.ref p2])) hT12 hl12
    have up13 : TupK H12 (upd H12 l (.lst ([V.ref p1] ++ [V.ref p2]))) := (TupK.refl H12).mut hl12 (fun xs q => nomatch q)
    have hl13 : upd H12 l (.lst ([V.ref p1] ++ [V.ref p2])) l = some (.lst ([V.ref p1] ++ [V.ref p2])) := upd_same
    replace f1 := f1.keep ((extT e12).trans up13) fun _ _ z => z.keep ((extT e12).trans up13)
    replace f2 := f2.keep up13 fun _ _ z => z.keep up13
    generalize upd H12 l (.lst ([V.ref p1] ++ [V.ref p2])) = H13 at g13 hT13 up13 hl13 f1 f2 ⊢
    refine ⟨_, rfl, .inl ⟨rfl, _, sql hl13⟩, ?_⟩
    refine lam_t hT13 rfl (hv8.ext (e9.trans (e10.trans g13))) fun p3 H14 e14 hT14 f3 => ?_
    have hl14 := e14 _ _ hl13 nofun
    refine ⟨l, [V.ref p1] ++ [V.ref p2], _, rfl, rfl, hl14, by show 2 < sizeLine; decide, ?_⟩
    have g15 : LamX.ExtN H10 (upd H14 l (.lst (([V.ref p1] ++ [V.ref p2]) ++ [V.ref p3]))) := extMut2 (.refl _) hl (g13.trans e14)
    have hT15 := tabU (o := .lst (([V.ref p1] ++ [V.ref p2]) ++ [V.ref p3])) hT14 hl14
    have up15 : TupK H14 (upd H14 l (.lst (([V.ref p1] ++ [V.ref p2]) ++ [V.ref p3]))) := (TupK.refl H14).mut hl14 (fun xs q => nomatch q)
    have hl15 : upd H14 l (.lst (([V.ref p1] ++ [V.ref p2]) ++ [V.ref p3])) l = some (.lst (([V.ref p1] ++ [V.ref p2]) ++ [V.ref p3])) := upd_same
    have nll : noTbl H13 l = some (.lst ([V.ref p1] ++ [V.ref p2])) := noTbl_some hl13 nofun
    replace f1 := f1.keep ((extT e14).trans up15) fun _ _ z => z.keep ((extT e14).trans up15)
    replace f2 := f2.keep ((extT e14).trans up15) fun _ _ z => z.keep ((extT e14).trans up15)
    replace f3 := f3.keep up15 fun _ _ z => z.keep up15 fun a us h h0 => by
      rw [upd_ne (fun q => by rw [q, nll] at h0; cases h0)]
      exact h
    generalize upd H14 l (.lst (([V.ref p1] ++ [V.ref p2]) ++ [V.ref p3])) = H15 at g15 hT15 up15 hl15 f1 f2 f3 ⊢
    refine ⟨_, rfl, .inl ⟨rfl, _, sql hl15⟩, ?_⟩
    refine lam_x hT15 rfl (hv8.ext (e9.trans (e10.trans g15))) fun p4 H16 e16 hT16 f4 => ?_
    have hl16 := e16 _ _ hl15 nofun
    refine ⟨l, ([V.ref p1] ++ [V.ref p2]) ++ [V.ref p3], _, rfl, rfl, hl16, by show 3 < sizeLine; decide, ?_⟩
    have g17 : LamX.ExtN H10 (upd H16 l (.lst ((([V.ref p1] ++ [V.ref p2]) ++ [V.ref p3]) ++ [V.ref p4]))) := extMut2 (.refl _) hl (g15.trans e16)
    have hT17 := tabU (o := .lst ((([V.ref p1] ++ [V.ref p2]) ++ [V.ref p3]) ++ [V.ref p4])) hT16 hl16
    have up17 : TupK H16 (upd H16 l (.lst ((([V.ref p1] ++ [V.ref p2]) ++ [V.ref p3]) ++ [V.ref p4]))) := (TupK.refl H16).mut hl16 (fun xs q => nomatch q)
    have hl17 : upd H16 l (.lst ((([V.ref p1] ++ [V.ref p2]) ++ [V.ref p3]) ++ [V.ref p4])) l = some (.lst ((([V.ref p1] ++ [V.ref p2]) ++ [V.ref p3]) ++ [V.ref p4])) := upd_same
    replace f1 := f1.keep ((extT e16).trans up17) fun _ _ z => z.keep ((extT e16).trans up17)
    replace f2 := f2.keep ((extT e16).trans up17) fun _ _ z => z.keep ((extT e16).trans up17)
    replace f3 := f3.keep ((extT e16).trans up17) fun _ _ z => z.keep ((extT e16).trans up17) fun a us h h0 => by
      rw [upd_ne (fun q => by rw [q, nll] at h0; cases h0)]
      exact e16 _ _ h nofun
    replace f4 := f4.keep up17 fun _ _ z => z.keep up17
    generalize upd H16 l (.lst ((([V.ref p1] ++ [V.ref p2]) ++ [V.ref p3]) ++ [V.ref p4])) = H17 at g17 hT17 up17 hl17 f1 f2 f3 f4 ⊢
    replace hl17 : H17 l = some (.lst [V.ref p1, V.ref p2, V.ref p3, V.ref p4]) := hl17
    have e817 := e9.trans (e10.trans g17)
    have hD17 := e817 _ _ hD nofun
    have tk := extT e817
    have ft : Due RAt H17 p3 r.t := f3.imp fun _ _ z => z.at
    refine ⟨_, rfl, _, rfl, l, D, dAll r, rfl, .lst (sql hl17) (.cons (dG_dp f1 fun _ _ z => gA_dp z) (.cons (dG_dp f2 fun _ _ z => gF_dp z) (.cons (dG_dp ft fun _ _ z => gT_dp z) (.cons (dG_dp f4 fun _ _ z => gX_dp z) .nil)))),
      .lst (sql hD17) (.cons (dG_dp (d1.keep tk fun _ _ z => z.keep tk) fun _ _ z => gA_dp z) (.cons (dG_dp (d2.keep tk fun _ _ z => z.keep tk) fun _ _ z => gF_dp z) (.cons (dG_dp (d3.keep tk fun _ _ z => z.keep e817) fun _ _ z => gT_dp z) (.cons (dG_dp (d4.keep tk fun _ _ z => z.keep tk) fun _ _ z => gX_dp z) .nil)))), dC.1, dC.2.1, dC.2.2.1, dC.2.2.2, true, rfl, iteF ?_⟩
    cases hrt : r.t with
    | none =>
      rw [hrt] at f3
      exact ⟨_, rfl, l, _, _, _, rfl, rfl, sql hl17, at2, p3, _, _, _, rfl, rfl, sqt f3, at0, rfl, _, rfl, iteE false ntold (iteF ⟨_, _, rfl, e817, hT17⟩)⟩
    | some tr =>
      rw [hrt] at f3
      obtain ⟨v3, h3, q, t0, l3, us, rfl, hq3, ht0, hl3, hA3, hnew⟩ := f3
      have hft := (hv8.gt tr hrt).2.1
      have hfew := turns_few (t := tr)
      have hAl := hA3.length
      refine ⟨_, rfl, l, _, _, _, rfl, rfl, sql hl17, at2, p3, _, _, _, rfl, rfl, sqt h3, at0, rfl, _, rfl, iteE true ytold (iteT ?_)⟩
      refine ⟨_, rfl, l, _, _, _, rfl, rfl, sql hl17, at2, p3, _, _, _, rfl, rfl, sqt h3, at1, q, _, _, _, rfl, rfl, sqt hq3, at1, .inl ⟨rfl, _, sql hl3⟩, l3, us, _, rfl, rfl, hl3, Nat.lt_of_lt_of_le (show us.length < 1000000 by omega) (by decide), ?_⟩
      exact ⟨_, _, rfl, e9.trans (extMut3 (e10.trans g13) hnew (e10.trans g17)), tabU hT17 hl3⟩
  obtain ⟨x4, x6, rfl, e9, hT9⟩ := hR
  have hD9 := e9 _ _ hD nofun
  have tk9 := extT e9
  have hB9 := hB8.ext e9
  refine ⟨by show 4 ≤ sizeLine; decide, fun sl hsl => ?_⟩
  have ss := same_new (o := .lst [V.ref (ga K "show_answers"), V.ref (ga K "show_fact"), V.ref (ga K "show_trace"), V.ref (ga K "show_address")]) hsl
  have hsl1 : upd H9 sl (.lst [V.ref (ga K "show_answers"), V.ref (ga K "show_fact"), V.ref (ga K "show_trace"), V.ref (ga K "show_address")]) sl = some (.lst [V.ref (ga K "show_answers"), V.ref (ga K "show_fact"), V.ref (ga K "show_trace"), V.ref (ga K "show_address")]) := upd_same
  have hB10 := hB9.keep ss
  have hT10 := hT9.ext ss
  have hD10 := ss _ _ hD9
  have e10 : LamX.ExtN H8 (upd H9 sl (.lst [V.ref (ga K "show_answers"), V.ref (ga K "show_fact"), V.ref (ga K "show_trace"), V.ref (ga K "show_address")])) := e9.trans (.of ss)
  generalize upd H9 sl (.lst [V.ref (ga K "show_answers"), V.ref (ga K "show_fact"), V.ref (ga K "show_trace"), V.ref (ga K "show_address")]) = H10 at ss hsl1 hB10 hT10 hD10 e10 ⊢
  obtain ⟨z1, z2, z3, z4⟩ := sShow_ok W
  dsimp only [gName]
  refine ⟨_, rfl, by decide, by decide, ?_⟩
  refine for_range (lo := 0) (n := 4) (g := gName 8) (fun j σ Hi => ∃ x8, σ = [some (.ref a), some (.ref b), some (.int (0 + (i : Int))), some v', x4, some (.ref D), x6, some (.ref sl), x8] ∧ Same H10 Hi) ⟨_, rfl, .refl _⟩ ?_ ?_
  · rintro j σ Hi hj ⟨x8', rfl, si⟩
    dsimp only [gName]
    have ei : LamX.ExtN H8 Hi := e10.trans (.of si)
    have pack : ∃ (α : Type) (At : Hp → α → V → Prop) (r0 : Option α) (u f : Addr) (sp : Sp) (sh : α → List Nat), Due At Hi u r0 ∧ atI [V.ref u1, V.ref u2, V.ref u3, V.ref u4] (0 + (j : Int)) = some (.ref u) ∧ atI [V.ref (ga K "show_answers"), V.ref (ga K "show_fact"), V.ref (ga K "show_trace"), V.ref (ga K "show_address")] (0 + (j : Int)) = some (.ref f) ∧ sShow K f = some sp ∧
        (∀ c, r0 = some c → v' = .str (S (sh c)) ∧ ∀ v Q E, At Hi c v → (∀ H', Same Hi H' → Q (.str (S (sh c))) H') → sp [v] Hi Q E) := by
      have hj4 : j = 0 ∨ j = 1 ∨ j = 2 ∨ j = 3 := by omega
      rcases hj4 with rfl | rfl | rfl | rfl
      · exact ⟨_, AAt, r.a, u1, _, _, M.shA, d1.keep (extT ei) fun _ _ z => z.keep (extT ei), rfl, rfl, z1, fun c hc => ⟨(hv8.ga c hc).1, fun v Q E ⟨t, e, h⟩ hQ => ⟨t, c, by rw [e], h, by have := (hv8.ga c hc).2.1; omega, hQ⟩⟩⟩
      · exact ⟨_, FAt, r.f, u2, _, _, M.Fact.sh, d2.keep (extT ei) fun _ _ z => z.keep (extT ei), rfl, rfl, z2, fun c hc => ⟨(hv8.gf c hc).1, fun v Q E h hQ => ⟨v, c, rfl, h, by have := (hv8.gf c hc).2.2.1; omega, by have := (hv8.gf c hc).2.1; omega, hQ⟩⟩⟩
      · exact ⟨_, RAt, r.t, u3, _, _, M.shT, d3.keep (extT ei) fun _ _ z => z.keep ei, rfl, rfl, z3, fun c hc => ⟨(hv8.gt c hc).1, fun v Q E h hQ => ⟨v, c, rfl, h, by have := (hv8.gt c hc).2.1; omega, hQ⟩⟩⟩
      · exact ⟨_, XAt, r.x, u4, _, _, M.shX, d4.keep (extT ei) fun _ _ z => z.keep (extT ei), rfl, rfl, z4, fun c hc => ⟨(hv8.gx c hc).1, fun v Q E h hQ => ⟨v, c, rfl, h, (hv8.gx c hc).2.2.2, by have := (hv8.gx c hc).2.1; omega, hQ⟩⟩⟩
    obtain ⟨α, At, r0, u, f, sp, sh, hd, hau, haf, hS, hr0⟩ := pack
    have hDi := si _ _ hD10
    have hsi := si _ _ hsl1
    cases r0 with
    | none =>
      exact ⟨_, rfl, _, rfl, D, _, _, _, rfl, rfl, sql hDi, hau, u, _, _, _, rfl, rfl, sqt hd, at0, rfl, _, rfl, iteE false ntold (iteF (iteF ⟨_, rfl, si⟩))⟩
    | some c1 =>
      obtain ⟨rfl, hsp⟩ := hr0 c1 rfl
      obtain ⟨v, hu, hAt⟩ := hd
      refine ⟨_, rfl, _, rfl, D, _, _, _, rfl, rfl, sql hDi, hau, u, _, _, _, rfl, rfl, sqt hu, at0, rfl, _, rfl, iteE true ytold (iteT ?_)⟩
      refine ⟨_, rfl, _, rfl, sl, _, _, _, rfl, rfl, sql hsi, haf, f, sp, rfl, hS, ?_⟩
      refine ⟨_, rfl, _, rfl, D, _, _, _, rfl, rfl, sql hDi, hau, u, _, _, _, rfl, rfl, sqt hu, at1, ?_⟩
      exact hsp v _ _ hAt fun H' e => ⟨_, rfl, rfl, _, rfl, iteE false (by rw [decide_eq_true rfl] <;> rfl) (iteF ⟨_, rfl, si.trans e⟩)⟩
  · rintro σ Hi ⟨x8', rfl, si⟩
    exact ⟨_, _, _, _, _, _, _, rfl, hB10.keep si, hT10.ext si⟩
end
end K92
end

section
set_option Elab.async false
set_option linter.all false
set_option maxRecDepth 100000
set_option maxHeartbeats 0
namespace K92
open PySem PySem.Spec PyProof.Rows L2 He HL
abbrev Says (w : World) (h : Heap) (K : PySem.W.Frag) : Prop := HY.SaysY fa fn tf xs ks "/claim/cut.py" w h K
theorem room_c : Room 171 callerA := ⟨rfl, by decide +kernel, by decide +kernel⟩
theorem law_runs {w : World} {K : PySem.W.Frag} {h : Heap} {mg : Str → Option Value} {fa' : Addr} (X : K.In h) (G : h.Ns mainGlobals mg) (hfa : mg "law" = some (.ref fa')) (c : Says w h K) :
    EG.LawG PySem.Challenge.rw_bynamealone_k92_small_texts_spoilt w K (L2.CX PySem.Challenge.pw_bynamealone_k92_small_texts_spoilt w) 63 "_law_script" mg fa' h := by
  have W : Wl K mg := ⟨⟨w, h, X, G, c⟩⟩
  obtain ⟨fd, D⟩ := W.D_law
  have hfa2 : fa' = fAd K d_law.at_ := by
    have := W.g_law
    rw [hfa] at this
    exact Value.ref.inj (Option.some.inj this)
  subst hfa2
  obtain ⟨oc, od, dV, kV, doc, pm, an, cdv, ct, osl, rfl, lk, hcd, hDf, hKw⟩ := id D.ex
  obtain ⟨cc, rfl⟩ := He.codeIn_ref hcd
  have hc : He.codeOf K d_law.at_ = cc := He.codeOf_eq lk rfl
  have hdv : dV = .none := by
    rcases hDf with ⟨_, e⟩ | ⟨e, _⟩
    · exact e
    · exact absurd rfl e
  subst hdv
  refine ⟨_, tf.map (He.cT K), spLaw K ((TK K).map (·.1)), fun p hp => ?_, fun p hp => ?_, fun p hp => ?_, fun s u => .of_eq (bi_law kV doc pm an (.ref cc) ct [u] rfl), fun H a ns hn _ hts hs => ?_, fun base KB GB hT => ⟨fun outer s H args us vs Q E e0 hb hv hsp => ?_⟩⟩
  · obtain ⟨q, hq, rfl⟩ := List.mem_map.mp hp
    exact c.empty q hq
  · obtain ⟨q, hq, rfl⟩ := List.mem_map.mp hp
    exact c.out q hq
  · obtain ⟨q, hq, rfl⟩ := List.mem_map.mp hp
    exact PySem.W.codeHd_of_K X (c.hd q hq)
  · refine ⟨a, ns, rfl, hs, hn, fun t ht => ?_, fun H' => rfl⟩
    simp only [TK, List.map_cons, List.map_nil, List.mem_cons, List.not_mem_nil, or_false] at ht
    rcases ht with rfl | rfl
    · exact hts _ (List.mem_map.mpr ⟨("Reader", some "condition_here"), by simp [tf], rfl⟩)
    · exact hts _ (List.mem_map.mpr ⟨("law", none), by simp [tf], rfl⟩)
  · have B : Tb K mg base := ⟨fun p hp => hT _ (List.mem_map.mpr ⟨p, hp, rfl⟩)⟩
    subst hc
    refine LamX.run_ofS (k := 170) lk hcd sc_law room_c e0 hb hv (by obtain ⟨a, ns, rfl, _⟩ := hsp; rfl) fun hr => ?_
    obtain ⟨t, h1, h2⟩ := law_body (w := w) (outer := outer) (s := s) (fa' := fAd K d_law.at_) W B (E := E) (hr.mono (Nat.le_refl _)) hsp
    exact ⟨t, h1.nox, h2⟩
end K92
open PySem PySem.W PySem.Calls PyProof.Rows
theorem PySem.Challenge.cw_bynamealone_k92_small_texts_spoilt_holds : PySem.Challenge.rw_bynamealone_k92_small_texts_spoilt.Holds := by
  w_on; o_law
  refine HandSHeadRun.head_any (r := OpenLaw.row PySem.Challenge.rw_bynamealone_k92_small_texts_spoilt) (q := view (OpenLaw.row PySem.Challenge.rw_bynamealone_k92_small_texts_spoilt).prog [56]) (H := K92.hk) (ob := K92.ob) (M := 4000) (loose := K92.loose) (d := HandSHeadRun.topDef (OpenLaw.row PySem.Challenge.rw_bynamealone_k92_small_texts_spoilt).prog 56) (kwd := []) K92.ob_eq
    (by kernel_rfl) (fun s => by kernel_rfl) K92.run (by kernel_rfl) (by kernel_rfl) (by kernel_rfl) (by rfl) (by first | assumption | decide +kernel) (by decide +kernel) ⟨rfl, rfl, rfl, rfl, rfl, by decide +kernel⟩ ?hw ?hc
  case hw => w_witness2
  case hc =>
    refine EG.walkG (l := PySem.Challenge.rw_bynamealone_k92_small_texts_spoilt) (n := 63) (x := "_law_script") (CX := fun w => L2.CX PySem.Challenge.pw_bynamealone_k92_small_texts_spoilt w) rfl (by decide) (by kernel_rfl) ?F (fun w H s e s' h => ?E)
    case E =>
      obtain ⟨_, _, _, _, _, _, _, _, _, _, _, _, z⟩ := h
      exact z
    case F =>
      intro w mg fa h Y G hmg0
      obtain ⟨K, KX, c⟩ := Y
      have hmg : mg ("law" : PySem.Str) = some (.ref fa) := by
        have e : (HandSHeadRun.topDef (OpenLaw.row PySem.Challenge.rw_bynamealone_k92_small_texts_spoilt).prog 56).name = ("law" : PySem.Str) := by kernel_rfl
        rw [← e]
        exact hmg0
      exact ⟨K, KX, K92.law_runs KX G hmg c⟩
end
