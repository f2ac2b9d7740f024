import PyProof.Rows.All
import Wide.All
import OpenK.AllK
import Wide.FinOn
import KE.KStateDown
import Lean
import HandS.ForMost
import HandS.Exc
import HandS.ExcOwn
import HandS.ExcSuper
import HandS.ExcIs
import HandS.TryOnly
import HandS.WordsExc
import HandS.Defaults
import HandS.MakeKw
import HandS.MakeKwOnly
import HandS.More
import HandS.Star
import HandS.IsInst
import HandS.FStr
import HandS.Wide
import HandS.OwnEq
import HandS.SlotsOwn
import HandS.Evl
import HandS.Head0
import HandS.Head1
import HandS.Head2
import HandS.HeadEnd
import HandS.HeadHook1
import HandS.HeadHook2
import HandS.HeadHook3
import HandS.HeadHook4
import HandS.ExcInit
import HandS.ExcField
import KE.KExcSuper
import KE.KSuper
import HandS.Deep
import HandS.DictTup
import KE.KDictKeyed
import KE.KDictItemsList
import HandS.Conv
import HandS.Codes
import HandS.Walk
import HandS.RaiseMore
import HandS.TupAny
import HandS.ExcInitHot
import HandS.HotCalls
import HandS.RaiseFrom
import HandS.SuiteRaise
import HandS.ExcCtx
import KE.KExcIs
import PySem.Challenge.RW_lostleast_k71_whole_lines_of_plans_are_r
set_option Elab.async false
set_option linter.all false
set_option maxRecDepth 100000
set_option maxHeartbeats 0
set_option exponentiation.threshold 20000
/-! an exception class of the program's whose __init__ says super().__init__(text); self.f = x -/
namespace SupX
open PySem PySem.W PySem.Calls PyProof.Rows PySem.Spec
section
variable {P : Program} {w : World} {A : Around} {h : Heap} {g : Array GenState} {d : Drawn} {t : Nat} {os : OsState} {K : Frag} {mg mb : Str → Option Value}
variable {C fI cc cda e t0 : Addr} {f x : Str} {v : Value} {oc ccl cl : Value} {od cdd cld : Option Addr} {osl ccs csl : Array (Option Value)} {vs : Array Value} {file : Str} {tf : Tok}
variable {name qual : Str} {params : Arguments} {body : List Stmt} {scope : Scope} {dV kV doc pm ct : Value} {an : Option Addr} {ar : Arg}
variable {p0 p1 p2 p3 p4 p5 p6 p7 p8 p9 : Pos} {txt : Str} {ck : Nat}
theorem init_run {R : Result → Shared → Prop} (hroom : A.depth < recursionLimit) (X : K.In h) (hlim : h.NoLimit) (G : h.Ns mainGlobals mg) (hms : mg "super" = none) (B : h.Ns builtinsNs mb) (hbs : mb "super" = some (.type "super"))
    (T : L2.OexC K C) (lk : K.lookup fI = some ⟨oc, od, .func (ksFn name qual params body scope dV kV doc pm an (.ref cda) ct cc), osl⟩) (hcd : codeIn K (.ref cda) qual = true)
    (hcode : K.lookup cda = some ⟨ccl, cdd, .fields vs, ccs⟩) (hvs : vs[2]? = some (.str file tf)) (hfile : ((P.main.file : Str) == file) = true) (hcell : K.lookup cc = some ⟨cl, cld, .cell (some (.ref C)), csl⟩)
    (hsup : ks_superIn K C C "__init__" = some (some (.builtin "ValueError.__init__"))) (hsub : mroIn K C (.ref C) = some true) (hVE : subIn K (.ref C) (.type "ValueError") = some true) (hany : nsIn K cStatics "thirdparty.any" = some none)
    (hf : findIn K (.ref C) f = some none) (hcls : ∃ oC cd, h.get? C = some oC ∧ oC.data = .cls cd)
    (htop : (P.main.scope.names.lookup ("super" : Str)).isSome = false)
    (hb : ∀ s : Shared, BindsTo s (ksFn name qual params body scope dV kV doc pm an (.ref cda) ct cc) ⟨[.ref e, v], []⟩ [("self", .ref e), (x, v)])
    (hp : (params.posonlyargs ++ params.args).head? = some ar) (har : ar.arg = ("self" : Str))
    (hbody : body = [.Expr (.Call (.Attribute (.Call (.Name "super" p0) [] [] p1) "__init__" p2) [.Constant (.str txt) ck p3] [] p4) p5, .Assign [.Attribute (.Name "self" p6) f p7] (.Name x p8) p9])
    (sk : scope.kind = .function) (sco : scope.isCoroutine = false) (sge : scope.isGenerator = false) (ss : scope.names.lookup ("super" : Str) = some .globalImplicit) (sc : scope.names.lookup ("__class__" : Str) = some .free)
    (sl : scope.names.lookup ("self" : Str) = some .local) (sx : scope.names.lookup x = some .local) (scell : ∀ y ∈ scope.names, y.2 ≠ .cell) (hxs : ¬ x = ("self" : Str)) (hxd : (x == ("__debug__" : Str)) = false)
    (k1 : ∀ L, interactive (ksEnv qual scope L fI (.ref cda) cc) = false)
    (k2 : ∃ pl : Sem Bool, ∀ L, eval (.Call (.Attribute (.Call (.Name "super" p0) [] [] p1) "__init__" p2) [.Constant (.str txt) ck p3] [] p4) (ksEnv qual scope L fI (.ref cda) cc) = (do
      let ov ← attributeBase (.Call (.Name "super" p0) [] [] p1) "__init__" (ksEnv qual scope L fI (.ref cda) cc) (eval (.Call (.Name "super" p0) [] [] p1) (ksEnv qual scope L fI (.ref cda) cc))
      standAt p2.atName
      let (f, first) ← holding [ov] (getMethod ov "__init__" pl)
      callWith p4 f first (backTo p4 (starEach [.Constant (.str txt) ck p3] (ksEnv qual scope L fI (.ref cda) cc))) []))
    (k3 : ∀ L, swapsWith (.Call (.Attribute (.Call (.Name "super" p0) [] [] p1) "__init__" p2) [.Constant (.str txt) ck p3] [] p4) none p5.line (ksEnv qual scope L fI (.ref cda) cc) = pure false)
    (k4 : ∀ L, swapsWith (.Name x p8) (some (.Attribute (.Name "self" p6) f p7)) p9.line (ksEnv qual scope L fI (.ref cda) cc) = pure false)
    (he : h.get? e = some (HandSPX.excO C t0)) (hKe : ∀ o, K.lookup e ≠ some o)
    (hq : ∀ h' t' dx t1, (∀ b o, b ≠ e → h.get? b = some o → h'.get? b = some o) → h.objs.size ≤ dx → dx ≠ e → h'.get? e = some { cls := .ref C, dict := some dx, data := .fields #[.ref t1, .none, .none, .none, .bool false, .none] } →
      h'.Ns1 dx (fun y => if y = f then some v else none) → R (.ok (.ret .none)) ⟨h', g, d, t', os⟩) :
    codeAny (model P w) A (.call (.ref fI) ⟨[.ref e, v], []⟩) R ⟨h, g, d, t, os⟩ := by
  have hloc : ∀ y ∈ [(("self" : Str), Value.ref e), (x, v)], scope.names.lookup y.1 = some .local := by
    intro y hy
    simp only [List.mem_cons, List.not_mem_nil, or_false] at hy
    rcases hy with rfl | rfl
    · exact sl
    · exact sx
  refine ks_codeAny_call_defAt (body := body) hroom (X _ _ lk) rfl hlim (codeRec_of X hcd) rfl (hb _) scell hloc (fun h0 hns k0 => ?_) sco sge sk
  subst hbody
  have X0 : K.In h0 := X.keeps k0
  have eC := k0 _ _ he
  obtain ⟨oC, cdC, hC1, hC2⟩ := hcls
  have hnL : h0.Ns h.objs.size (fun y => [(("self" : Str), Value.ref e), (x, v)].reverse.lookup y) := hns
  have em : ∀ y, [(("self" : Str), Value.ref e), (x, v)].reverse.lookup y = if y = x then some v else if y = ("self" : Str) then some (.ref e) else none := by
    intro y
    show [(x, v), (("self" : Str), Value.ref e)].lookup y = _
    by_cases h1 : y = x
    · subst h1; simp [List.lookup]
    · have e1 : (y == x) = false := by simpa using h1
      rw [if_neg h1]
      by_cases h2 : y = ("self" : Str)
      · subst h2; simp [List.lookup, e1]
      · have e2 : (y == ("self" : Str)) = false := by simpa using h2
        rw [if_neg h2]
        simp [List.lookup, e1, e2]
  have hns1 : h0.Ns h.objs.size (fun y => if y = x then some v else if y = ("self" : Str) then some (.ref e) else none) := by
    have := hnL
    rw [show (fun y => [(("self" : Str), Value.ref e), (x, v)].reverse.lookup y) = _ from funext em] at this
    exact this
  have hself : (fun y => if y = x then some v else if y = ("self" : Str) then some (Value.ref e) else none) ("self" : Str) = some (.ref e) := by
    show (if ("self" : Str) = x then _ else _) = _
    rw [if_neg (fun z => hxs z.symm), if_pos rfl]
  have hxv : (fun y => if y = x then some v else if y = ("self" : Str) then some (Value.ref e) else none) x = some v := if_pos rfl
  obtain ⟨pl, hpl⟩ := k2
  have hLe : h.objs.size ≠ e := Nat.ne_of_gt (Heap.lt_size he)
  refine ks_wpAt_execs_cons (ks_wpAt_Expr_any (ks_wpAt_MethodCall (pl := pl) ?_ (hpl _)) (k1 _) (k3 _))
  · refine ks_wpAt_super_base (env := callEnv (ksFn name qual params _ scope dV kV doc pm an (.ref cda) ct cc) h.objs.size fI) ss sc (by decide) rfl (X0 _ _ lk) rfl hp rfl (X0 _ _ hcode) rfl hvs hfile htop ?_
    refine ks_loadName_global sk ss (loadGlobal_builtin (G.keeps k0) hms (B.keeps k0) hbs ⟨rfl, ?_⟩)
    refine wpAny_loadName_free sk sc (c := cc) (v := .ref C) rfl ⟨_, X0 _ _ hcell, rfl⟩ ?_
    rw [har]
    refine wpAny_loadName_local sk sl hns1 (v := .ref e) hself ?_
    refine ks_wpAny_isType_cls (k0 _ _ hC1) hC2 ⟨rfl, ?_⟩
    refine ks_wpAny_call_super (k0 _ _ hC1) hC2 eC rfl (fun c z => nomatch z) (looks_mroIn X0 hsub) fun h1 hso k1' => ?_
    have X1 : K.In h1 := X0.keeps k1'
    have e1 := k1' _ _ eC
    have ns1 := hns1.keeps k1'
    -- the method
    have I1 : InstAt h1 e (HandSPX.excO C t0) C none := ⟨e1, rfl, rfl, trivial⟩
    have hI : Looks (model P w) h1 (isInstance (.ref e) (.type "ValueError")) true := I1.type.andThen (looks_subIn X1 hVE)
    cases hc : clsIn K C with
    | none => unfold ks_superIn at hsup; rw [hc] at hsup; cases hsup
    | some cd =>
      have hsup' := hsup
      unfold ks_superIn at hsup'
      rw [hc] at hsup'
      refine kxs_getMethod kxs_ValueError hso (looks_opaque X1 hany) (l₀ := cd.mro) ?_ rfl X1 hsup' hI (ks_ne X1 I1 hc) (by decide) ?_
      · exact fun A Q E s k q => wpAny_bind ((looks_clsIn X1 hc) A _ E s k (wpAny_pure q))
      -- the call
      have k2 : ∀ b o, h1.get? b = some o → (h1.push (kxs_mw "ValueError.__init__" e)).get? b = some o := fun b o z => Heap.get?_push_of_some _ z
      have hmw : (h1.push (kxs_mw "ValueError.__init__" e)).get? h1.objs.size = some (kxs_mw "ValueError.__init__" e) := Heap.get?_push_size _ rfl
      refine kxs_callWith (i := "ValueError.__init__") (x := e) rfl (evalArgs_plain ?_)
      refine spliced_cons (Constant_str (k := ck) (pos := p3) (spliced_nil ⟨hmw, ?_⟩))
      obtain ⟨nm, q, N, bs, bm, sn, sub, ab, col, dd, z0, z1, z2, z3, z5, hCl, hbm⟩ := T.cls
      have FB := F.excBase_ValueError
      have X2 : K.In (h1.push (kxs_mw "ValueError.__init__" e)) := X1.keeps k2
      have e2 := k2 _ _ e1
      have ns2 := ns1.keeps k2
      have k02 : ∀ b o, h.get? b = some o → (h1.push (kxs_mw "ValueError.__init__" e)).get? b = some o := fun b o z => k2 b o (k1' b o (k0 b o z))
      generalize h1.push (kxs_mw "ValueError.__init__" e) = h2 at X2 e2 ns2 k02 hmw ⊢
      refine wpAny_call (codeAny_of_tree ?_)
      show wpAny _ _ (callAny (.ref h1.objs.size) ⟨_, []⟩) _ _ _
      simp only [callAny]
      refine wpAny_bind (wpAny_load hmw ?_)
      simp only [kxs_mw, show (Value.type "method-wrapper" == Value.type "method" || Value.type "method-wrapper" == Value.type "builtin_function_or_method" || Value.type "method-wrapper" == Value.type "method-wrapper") = true by decide, if_true]
      refine KFB.if_so (by decide) ?_
      refine wpAny_bind (check_bound_init FB.toExcCallFacts (X2 _ _ hCl) e2 rfl ?_)
      refine wpAny_bind (wpAny_pure (wpAny_pure ?_))
      refine ⟨plainId_quiet FB.init.plain _, codeAny_builtin FB.initEntry ?_⟩
      refine exc_init_tree (cls := .ref C) (t0 := t0) (dv := none) (c2 := .none) (c3 := .none) (b4 := .bool false) e2 (by show 1 ≤ sizeLine; decide) fun h3 kk3 e3 _ => ?_
      -- self.f = x
      have X3 : K.In h3 := fun b o z => by
        refine kk3 b o (fun y => ?_) (X2 _ _ z)
        subst y
        exact hKe o z
      have ns3 : h3.Ns h.objs.size _ := let ⟨oL, es, ep, hL, r⟩ := ns2; ⟨oL, es, ep, kk3 _ _ hLe hL, r⟩
      have k03 : ∀ b o, b ≠ e → h.get? b = some o → h3.get? b = some o := fun b o y z => kk3 b o y (k02 b o z)
      refine wpAt_of_wpAny (wpAny_execs_cons (plainObj_wpAny_Assign_Attribute ?_ (k4 _)))
      refine wpAny_Name (wpAny_loadName_local sk sx ns3 (v := v) hxv ?_) hxd
      refine wpAny_Name (wpAny_loadName_local sk sl ns3 (v := .ref e) hself ?_) (by decide)
      refine set_plain (ox := { cls := .ref C, data := .fields #[.ref h2.objs.size, .none, .none, .none, .bool false, .none] }) (od := none) X3 ⟨e3, rfl, rfl, trivial⟩ T.sa ?_
      have hcl : clsIn K C = some { name := nm, bases := bs, mro := .ref C :: bm, ns := N, qualname := q, hasDict := true, slotNames := sn, subclasses := sub, abstract := ab, collection := col, hasDel := false } := by unfold clsIn; rw [hCl] <;> rfl
      refine HandSPX.exc_osa X3 e3 hcl (show HandSPX.refsVE (.ref C :: bm) = true from hbm) rfl hf fun h4 t4 dx kk4 dn dne e4 ns4 => ?_
      refine wpAny_execs_nil (hq h4 _ dx _ (fun b o y z => kk4 b o y (k03 b o y z)) (Nat.le_trans ?_ dn) dne e4 ns4)
      obtain ⟨oL, es, ep, hL, r⟩ := ns3
      exact Nat.le_of_lt (Heap.lt_size hL)
end
/-! ### what is asked of the written part -/
def oexB (K : Frag) (C : Addr) : Bool := match K.lookup C with
  | some ⟨.type "type", _, .cls cd, sl⟩ => (match cd.mro, sl.toList with
    | .ref C' :: bm, [_, _, _, _, some (.builtin n), _] => C' == C && n == "ValueError.__new__" && !cd.hasDel && cd.hasDict && HandSPX.refsVE bm
    | _, _ => false)
  | _ => false
theorem oexB_ok {K : Frag} {C : Addr} (q : oexB K C = true) : ∃ nm q N bs bm sn sub ab col dd k0 k1 k2 k3 k5, K.lookup C = some (excClassObj nm q C N bs bm true sn sub ab col dd k0 k1 k2 k3 k5 "ValueError.__new__") ∧ HandSPX.refsVE bm = true := by
  unfold oexB at q
  split at q
  · rename_i dd cd sl ho
    split at q
    · rename_i C' bm k0 k1 k2 k3 n k5 hm hs
      simp only [Bool.and_eq_true, beq_iff_eq, Bool.not_eq_true'] at q
      obtain ⟨⟨⟨⟨rfl, rfl⟩, hdel⟩, hdi⟩, ht⟩ := q
      obtain ⟨nm, bs, mro, ns, qn, hd, sn, sub, ab, col, del⟩ := cd
      dsimp only at hm hdel hdi
      subst hm hdel hdi
      have hsl : sl = #[k0, k1, k2, k3, some (.builtin "ValueError.__new__"), k5] := by
        obtain ⟨l⟩ := sl
        simp only at hs
        rw [hs]
      subst hsl
      exact ⟨nm, qn, ns, bs, bm, sn, sub, ab, col, dd, k0, k1, k2, k3, k5, ho, ht⟩
    · cases q
  · cases q
abbrev FnZ : Type := Option (Str × Str × Arguments × FuncBody × Scope × Addr × List Str × Addr)
/-- the class's __init__, as it is written -/
def fz (K : Frag) (C : Addr) : FnZ := match findIn K (.ref C) "__init__" with
  | some (some (.ref fI)) => (match K.lookup fI with
    | some ⟨_, _, .func fd, _⟩ => some (fd.name, fd.qualname, fd.params, fd.body, fd.scope, fd.globals, fd.closure.map (·.1), fd.builtins)
    | _ => none)
  | _ => none
/-- the rest of what is asked of the function at fI -/
def fnB (file : Str) (K : Frag) (C fI : Addr) : Bool := match K.lookup fI with
  | some ⟨_, _, .func fd, _⟩ => (match fd.closure, fd.code, fd.defaults with
    | [(_, cc)], .ref cda, .none => codeIn K (.ref cda) fd.qualname && ((match K.lookup cda with
      | some ⟨_, _, .fields vs, _⟩ => (match (vs[2]? : Option Value) with
        | some (Value.str fl _) => file == fl
        | _ => false)
      | _ => false) && (match K.lookup cc with
      | some ⟨_, _, .cell (some (.ref C')), _⟩ => C' == C
      | _ => false))
    | _, _, _ => false)
  | _ => false
def eqT {α : Type} [DecidableEq α] (a b : α) : Bool := decide (a = b)
def eqV : Option (Option Value) → Option (Option Value) → Bool
  | none, none => true
  | some none, some none => true
  | some (some a), some (some b) => a == b
  | _, _ => false
def supB (file : Str) (K : Frag) (C : Addr) (f : Str) : Bool := oexB K C && ((match findIn K (.ref C) "__init__" with
  | some (some (.ref fI)) => fnB file K C fI && (typeIn K (.ref fI) == some (.type "function"))
  | _ => false) && ((match findIn K (.ref C) "__setattr__" with
  | some (some (.builtin n)) => n == "object.__setattr__"
  | _ => false) && ((subIn K (.ref C) (.type "BaseException") == some true) && ((typeIn K (.ref C) == some (.type "type")) && (keepIn K (.ref C) && ((match ks_superIn K C C "__init__" with
  | some (some (.builtin n)) => n == "ValueError.__init__"
  | _ => false) && ((mroIn K C (.ref C) == some true) && ((subIn K (.ref C) (.type "ValueError") == some true) && ((match nsIn K cStatics "thirdparty.any" with
  | some none => true
  | _ => false) && (match findIn K (.ref C) f with
  | some none => true
  | _ => false))))))))))
/-- a class whose __init__(self, x) says super().__init__(text); self.f = x -/
structure SupC (P : Program) (K : Frag) (C : Addr) (f : Str) : Prop where
  oex : L2.OexC K C
  fn : ∃ fI, findIn K (.ref C) "__init__" = some (some (.ref fI)) ∧ typeIn K (.ref fI) = some (.type "function") ∧ ∀ (w : World) (A : Around) (h : Heap) (g : Array GenState) (d : Drawn) (t : Nat) (os : OsState) (mg mb : Str → Option Value) (e t0 : Addr) (v : Value) (R : Result → Shared → Prop),
    A.depth < recursionLimit → K.In h → h.NoLimit → h.Ns mainGlobals mg → mg "super" = none → h.Ns builtinsNs mb → mb "super" = some (.type "super") → h.get? e = some (HandSPX.excO C t0) → (∀ o, K.lookup e ≠ some o) →
    (∀ h' t' dx t1, (∀ b o, b ≠ e → h.get? b = some o → h'.get? b = some o) → h.objs.size ≤ dx → dx ≠ e → h'.get? e = some { cls := .ref C, dict := some dx, data := .fields #[.ref t1, .none, .none, .none, .bool false, .none] } →
      h'.Ns1 dx (fun y => if y = f then some v else none) → R (.ok (.ret .none)) ⟨h', g, d, t', os⟩) → codeAny (model P w) A (.call (.ref fI) ⟨[.ref e, v], []⟩) R ⟨h, g, d, t, os⟩
theorem sup_of {P : Program} {K : Frag} {C : Addr} {f x : Str} {name qual : Str} {params : Arguments} {body : List Stmt} {scope : Scope} {ar : Arg} {p0 p1 p2 p3 p4 p5 p6 p7 p8 p9 : Pos} {txt : Str} {ck : Nat}
    (sb : supB P.main.file K C f = true) (ez : fz K C = some (name, qual, params, FuncBody.stmts body, scope, mainGlobals, [("__class__" : Str)], builtinsNs))
    (htop : (P.main.scope.names.lookup ("super" : Str)).isSome = false)
    (hb : ∀ (cl : List (Str × Addr)) (kV doc pm : Value) (an : Option Addr) (cdv ct : Value) (a b : Value), bindArgs (fnX name qual params body scope cl .none kV doc pm an cdv ct) ⟨[a, b], []⟩ = pure [(("self" : Str), a), (x, b)])
    (hp : (params.posonlyargs ++ params.args).head? = some ar) (har : ar.arg = ("self" : Str))
    (hbody : body = [.Expr (.Call (.Attribute (.Call (.Name "super" p0) [] [] p1) "__init__" p2) [.Constant (.str txt) ck p3] [] p4) p5, .Assign [.Attribute (.Name "self" p6) f p7] (.Name x p8) p9])
    (sk : scope.kind = .function) (sco : scope.isCoroutine = false) (sge : scope.isGenerator = false) (ss : scope.names.lookup ("super" : Str) = some .globalImplicit) (sc : scope.names.lookup ("__class__" : Str) = some .free)
    (sl : scope.names.lookup ("self" : Str) = some .local) (sx : scope.names.lookup x = some .local) (scell : ∀ y ∈ scope.names, y.2 ≠ .cell) (hxs : ¬ x = ("self" : Str)) (hxd : (x == ("__debug__" : Str)) = false)
    (k1 : ∀ L fI cdv cc, interactive (ksEnv qual scope L fI cdv cc) = false)
    (k2 : ∃ pl : Sem Bool, ∀ L fI cdv cc, eval (.Call (.Attribute (.Call (.Name "super" p0) [] [] p1) "__init__" p2) [.Constant (.str txt) ck p3] [] p4) (ksEnv qual scope L fI cdv cc) = (do
      let ov ← attributeBase (.Call (.Name "super" p0) [] [] p1) "__init__" (ksEnv qual scope L fI cdv cc) (eval (.Call (.Name "super" p0) [] [] p1) (ksEnv qual scope L fI cdv cc))
      standAt p2.atName
      let (f, first) ← holding [ov] (getMethod ov "__init__" pl)
      callWith p4 f first (backTo p4 (starEach [.Constant (.str txt) ck p3] (ksEnv qual scope L fI cdv cc))) []))
    (k3 : ∀ L fI cdv cc, swapsWith (.Call (.Attribute (.Call (.Name "super" p0) [] [] p1) "__init__" p2) [.Constant (.str txt) ck p3] [] p4) none p5.line (ksEnv qual scope L fI cdv cc) = pure false)
    (k4 : ∀ L fI cdv cc, swapsWith (.Name x p8) (some (.Attribute (.Name "self" p6) f p7)) p9.line (ksEnv qual scope L fI cdv cc) = pure false) : SupC P K C f := by
  simp only [supB, Bool.and_eq_true, beq_iff_eq] at sb
  obtain ⟨b1, b2, b3, b4, b5, b6, b7, b8, b9, b10, b11⟩ := sb
  have hcls := oexB_ok b1
  have T : L2.OexC K C := by
    refine ⟨hcls, ?_, b4, b5, b6⟩
    split at b3
    · rename_i n hn
      rw [hn, beq_iff_eq.mp b3]
    · cases b3
  have hsup : ks_superIn K C C "__init__" = some (some (.builtin "ValueError.__init__")) := by
    split at b7
    · rename_i n hn
      rw [hn, beq_iff_eq.mp b7]
    · cases b7
  have hany : nsIn K cStatics "thirdparty.any" = some none := by
    split at b10
    · assumption
    · cases b10
  have hf : findIn K (.ref C) f = some none := by
    split at b11
    · assumption
    · cases b11
  split at b2
  case h_2 => cases b2
  rename_i fI hfI
  obtain ⟨c1, c2⟩ := Bool.and_eq_true_iff.mp b2
  have hty : typeIn K (.ref fI) = some (.type "function") := beq_iff_eq.mp c2
  refine ⟨T, fI, hfI, hty, fun w A h g d t os mg mb e t0 v R hroom X hlim G hms B hbs he hKe hq => ?_⟩
  unfold fz at ez
  rw [hfI] at ez
  dsimp only at ez
  unfold fnB at c1
  cases lk : K.lookup fI with
  | none => rw [lk] at c1; cases c1
  | some o =>
    obtain ⟨oc, od, dt, osl⟩ := o
    rw [lk] at c1 ez
    cases dt with
    | func fd =>
      obtain ⟨n1, n2, n3, n4, n5, n6, n7, n8, n9, n10, n11, n12, n13, n14, n15⟩ := fd
      simp only [Option.some.injEq, Prod.mk.injEq] at ez
      obtain ⟨h1, h2, h3, h4, h5, h6, h7, h8⟩ := ez
      subst h1 h2 h3 h4 h5 h6 h8
      simp only at c1
      split at c1
      case h_2 => cases c1
      rename_i cn cc cda
      simp only [List.map_cons, List.map_nil, List.cons.injEq, and_true] at h7
      subst h7
      simp only [Bool.and_eq_true] at c1
      obtain ⟨d1, d2, d3⟩ := c1
      split at d2
      case h_2 => cases d2
      rename_i q1 q2 vs q3 hcode
      split at d2
      case h_2 => cases d2
      rename_i fl tf hvs
      split at d3
      case h_2 => cases d3
      rename_i r1 r2 C' r3 hcell
      have hCC : C' = C := beq_iff_eq.mp d3
      subst hCC
      obtain ⟨nm, q, N, bs, bm, sn, sub, ab, col, dd, z0, z1, z2, z3, z5, hCl, hbm⟩ := hcls
      exact init_run (x := x) (R := R) hroom X hlim G hms B hbs T lk d1 hcode hvs d2 hcell hsup b8 b9 hany hf ⟨_, _, X _ _ hCl, rfl⟩ htop (fun s => BindsTo.of_eq (hb _ _ _ _ _ _ _ _ _)) hp har hbody sk sco sge ss sc sl sx scell hxs hxd (fun L => k1 L _ _ _)
        (let ⟨pl, z⟩ := k2; ⟨pl, fun L => z L _ _ _⟩) (fun L => k3 L _ _ _) (fun L => k4 L _ _ _) he hKe hq
    | _ => cases c1
end SupX
namespace L2
open PySem PySem.Spec PyProof.Rows
/-- C(e) raised: the exception's field f is the value -/
def tMkS (C : Addr) (f : Str) (ta : TA) : L2.St → Hp → XK → Prop := fun σ H Q => ta σ H fun vs H1 => ∃ y, vs = [y] ∧ ∀ d, H1 d = none → Q (.ref C) (some d) (upd H1 d (.xd [(f, y)]))
section
variable {X : Cx} {e : Expr} {p pos : Pos} {ta : TA} {x f : Str} {C : Addr}
theorem pmk_sup (T : SupX.SupC X.prog X.K C f) (hms : X.mg "super" = none) (hr : Room 2 X.A) (hg : Gl X x) (hm : X.mg x = some (.ref C)) (ha : PA X [e] ta)
    (hdb : (x == ("__debug__" : Str)) = false := by decide) (he : starEach [e] X.env = (false, eval e X.env) :: starEach [] X.env := by rfl) (hpl : (backTo pos (starEach [] X.env)).any (·.1) = false := by rfl) :
    PMk X (.Call (.Name x p) [e] [] pos) (tMkS C f ta) := by
  intro pins s σ H Q I h
  obtain ⟨nm, q, N, bs, bm, sn, sub, ab, col, dd, k0, k1, k2, k3, k5, hC, hbm⟩ := T.oex.cls
  obtain ⟨fI, iC, tI, RUN⟩ := T.fn
  refine wpAny_Call_Name_kw (ld_glob I hg hm ?_ hdb)
  refine PySem.W.callWith_K (h₀ := X.base) I.ok.mod.kin T.oex.kC (thn (ha.run pos pins s σ H _ I h) fun us s1 ⟨vs, H1, I1, r1, y, ev, q1⟩ => ⟨I1.kIn, ?_⟩) he hpl
  subst ev
  obtain ⟨u, rfl, ry⟩ := vals1 r1
  show wpAny _ _ (call (.ref C) [u]) _ _ _
  obtain ⟨mb, hmb, hbl⟩ := I1.ok.mod.blt
  have G1 := I1.ok.mod.glob.keeps I1.bk
  have B1 := hmb.keeps I1.bk
  have lim := I1.nolimit
  have kb := I1.ok.mod.kin
  have bk := I1.bk
  have hsys := I1.big
  obtain ⟨hp, g, dr, tk, os⟩ := s1
  have hsz : hp.objs.size ≤ hp.objs.size + 1 := Nat.le_succ _
  have hn : H1 (hp.objs.size + 1) = none := I1.hok.fresh hsz
  have kk : ∀ b o, hp.get? b = some o → ((hp.push (PySem.W.kdv_tup [u])).push (PySem.HandSPX.excO C hp.objs.size)).get? b = some o := fun b o e => Heap.get?_push_of_some _ (Heap.get?_push_of_some _ e)
  have hget : ((hp.push (PySem.W.kdv_tup [u])).push (PySem.HandSPX.excO C hp.objs.size)).get? (hp.objs.size + 1) = some (PySem.HandSPX.excO C hp.objs.size) := by heap_get
  have hus : [u].length ≤ sizeLine := by show 1 ≤ sizeLine; decide
  have hKe : ∀ o, X.K.lookup (hp.objs.size + 1) ≠ some o := fun o z => by
    have := Heap.lt_size (bk _ _ (kb _ _ z))
    exact Nat.lt_irrefl _ (Nat.lt_of_succ_lt this)
  refine wpAny_call (PySem.HandSPX.call_own F.excBase_ValueError (fun Y => PySem.HandSPX.refsVE_contains Y bm hbm) (I1.kIn _ _ hC) (PySem.W.looks_findIn I1.kIn iC) (fun self => PySem.W.bind_fn I1.kIn self tI) hus
    (RUN _ _ _ _ _ _ _ X.mg mb _ _ u _ (hr.make C [u] []).depth (fun b o z => kk b o (I1.kIn b o z)) (lim.keeps kk) (G1.keeps kk) hms (B1.keeps kk) ((hbl _ (by decide)).trans (by decide +kernel)) hget hKe fun h2 t2 dx t1 k2 dn dne e2 ns2 => ⟨rfl, ?_⟩))
  have hnd : H1 dx = none := I1.hok.fresh (by
    have : hp.objs.size ≤ dx := by
      have h3 : ((hp.push (PySem.W.kdv_tup [u])).push (PySem.HandSPX.excO C hp.objs.size)).objs.size ≤ dx := dn
      have h4 : hp.objs.size ≤ ((hp.push (PySem.W.kdv_tup [u])).push (PySem.HandSPX.excO C hp.objs.size)).objs.size := Nat.le_of_lt (Nat.lt_of_succ_lt (Heap.lt_size hget))
      exact Nat.le_trans h4 h3
    exact this)
  have dgt : hp.objs.size + 1 < dx := Nat.lt_of_lt_of_le (Heap.lt_size hget) dn
  have old : ∀ {b : Addr} {o : Obj}, hp.get? b = some o → h2.get? b = some o := fun {b o} z => k2 b o (Nat.ne_of_lt (Nat.lt_of_lt_of_le (Heap.lt_size z) hsz)) (kk b o z)
  have oldn : ∀ {b : Addr} {o : Obj}, hp.get? b = some o → b ≠ hp.objs.size + 1 ∧ b ≠ dx := fun {b o} z => by
    have h1 := Heap.lt_size z
    have h2 : b < hp.objs.size + 1 := Nat.lt_of_lt_of_le h1 hsz
    exact ⟨Nat.ne_of_lt h2, Nat.ne_of_lt (Nat.lt_trans h2 dgt)⟩
  have H1n : ∀ {b : Addr}, b ≠ dx → b ≠ hp.objs.size + 1 → (upd (upd H1 dx (exd dx [(f, y)])) (hp.objs.size + 1) (exo (hp.objs.size + 1) C (some dx))) b = H1 b := fun {b} h1 h2 => by rw [upd_ne h2, upd_ne h1]
  have un2 : Un (frs X.stack) [] (upd H1 (hp.objs.size + 1) (exo (hp.objs.size + 1) C none)) (upd (upd H1 dx (exd dx [(f, y)])) (hp.objs.size + 1) (exo (hp.objs.size + 1) C (some dx))) ((hp.push (PySem.W.kdv_tup [u])).push (PySem.HandSPX.excO C hp.objs.size)) h2 := by
    refine ⟨fun b o z n _ _ => ?_, fun b o z n _ _ => ⟨o.slots, ?_⟩, fun b o z n _ => ?_, fun b o z _ => ?_, fun b xs z => ?_, fun b o v z => ?_, fun b ps z => ⟨#[], ?_⟩⟩
    · exact k2 b o (fun w => by rw [w, upd_same] at n; cases n) z
    · exact k2 b o (fun w => by rw [w, upd_same] at n; cases n) z
    · have hb : b ≠ hp.objs.size + 1 := fun w => by rw [w, upd_same] at n; cases n
      rw [upd_ne hb] at n ⊢
      have : b ≠ dx := Nat.ne_of_lt (Nat.lt_of_lt_of_le (Heap.lt_size z) dn)
      rw [upd_ne this]
      exact n
    · by_cases hb : b = hp.objs.size + 1
      · exact ⟨_, by rw [hb]; exact e2⟩
      · exact ⟨o, k2 b o hb z⟩
    · have hb : b ≠ hp.objs.size + 1 := fun w => by rw [w, upd_same] at z; exact exo_tup (Option.some.inj z)
      rw [upd_ne hb] at z ⊢
      rw [upd_ne (ne_of_none z hnd)]
      exact z
    · have hb : b ≠ hp.objs.size + 1 := fun w => by rw [w, upd_same] at z; exact exo_frz (Option.some.inj z)
      rw [upd_ne hb] at z ⊢
      rw [upd_ne (ne_of_none z hnd)]
      exact z
    · have hb : b ≠ hp.objs.size + 1 := fun w => by rw [w, upd_same] at z; exact exo_tbl (Option.some.inj z)
      rw [upd_ne hb] at z ⊢
      rw [upd_ne (ne_of_none z hnd), z]
      simp
  have hok2 : HOk X.prog X.w (upd (upd H1 dx (exd dx [(f, y)])) (hp.objs.size + 1) (exo (hp.objs.size + 1) C (some dx))) h2 := fun b o z => by
    by_cases hb : b = hp.objs.size + 1
    · subst hb
      rw [upd_same] at z
      cases z
      exact exo_ok e2
    · rw [upd_ne hb] at z
      by_cases hbd : b = dx
      · subst hbd
        rw [upd_same] at z
        cases z
        exact exd_ok ns2 (relO_put (fs := []) ry fun g => True.intro)
      · rw [upd_ne hbd] at z
        refine (I1.hok b o z).stay (fun c v hc w => old w) (fun c hc => ?_) fun c xs hc => ?_
        · have hn' : c ≠ hp.objs.size + 1 := fun w => by rw [w, hn] at hc; cases hc
          rw [upd_ne hn', upd_ne (ne_of_none hc hnd)]
          exact hc
        · have hn' : c ≠ hp.objs.size + 1 := fun w => by rw [w, hn] at hc; cases hc
          rw [upd_ne hn', upd_ne (ne_of_none hc hnd)]
          exact hc
  have fin : upd (del (upd (upd H1 dx (exd dx [(f, y)])) (hp.objs.size + 1) (exo (hp.objs.size + 1) C (some dx))) (hp.objs.size + 1)) dx (.xd [(f, y)]) = upd H1 dx (.xd [(f, y)]) := by
    funext b
    by_cases hbd : b = dx
    · rw [hbd, upd_same, upd_same]
    · rw [upd_ne hbd, upd_ne hbd]
      by_cases hb : b = hp.objs.size + 1
      · rw [hb, del_same, hn]
      · rw [del_ne hb, upd_ne hb, upd_ne hbd]
  refine mk_end (Q := Q) (d := dx) (fs := [(f, y)]) (raises_own T.oex.exC T.oex.tyC) I1 hsz kk un2 hok2 rfl I1.bare upd_same ?_ hnd ?_
  · rw [upd_ne (Nat.ne_of_gt dgt), upd_same]
  · rw [fin]
    exact q1 dx hnd
end
end L2
namespace He
open PySem PySem.Spec PyProof.Rows L2 SupX
/-! ### the Hook: the inits of such classes beside hookX -/
def zsW (K : PySem.W.Frag) (zs : List Str) : List FnZ := zs.map fun x => fz K (ga K x)
def kY (n : Nat) (g : Addr → Option Obj) : PySem.W.Frag := frT g (PySem.cStatics :: asD g n)
def obsY (n : Nat) (fa : List Fa) (fn : List DefD) (ts : List Tab) (ex : PySem.W.Frag → Bool) (zs : List Str) (g : Addr → Option Obj) : AlX × List FnZ := ((obsT fa fn ts (kY n g), ex (kY n g)), zsW (kY n g) zs)
def hookY (n : Nat) (fa : List Fa) (fn : List DefD) (ts : List Tab) (ex : PySem.W.Frag → Bool) (zs : List Str) (zv : List FnZ) : PySem.W.Hook where
  α := AlX × List FnZ
  obs := fun s => obsY n fa fn ts ex zs s.heap.get?
  val := fun w => (valX fn ts w, zv)
  says := fun w h => ∃ K : PySem.W.Frag, K.In h ∧ SaysX fa fn ts [] ex w h K ∧ zsW K zs = zv
  of := fun _ _ e => ⟨_, frT_in, ⟨congrArg (fun z : AlX × List FnZ => z.1.1) e, congrArg (fun z : AlX × List FnZ => z.1.2) e, (fun _ h => nomatch h), (fun _ h => nomatch h), (fun _ h => nomatch h)⟩, congrArg (fun z : AlX × List FnZ => z.2) e⟩
  keeps := fun _ _ _ ⟨K, hK, c, z⟩ k => ⟨K, PySem.W.Frag.In.keeps hK k, ⟨c.t, c.more, c.hd, c.out, fun p hp => k _ _ (c.empty p hp)⟩, z⟩
theorem obsY_eq {n : Nat} {fa : List Fa} {fn : List DefD} {ts : List Tab} {ex : PySem.W.Frag → Bool} {zs : List Str} {zv : List FnZ} {g : Addr → Option Obj} {s : Shared} (h : ∀ a, g a = s.heap.get? a) :
    obsY n fa fn ts ex zs g = (hookY n fa fn ts ex zs zv).obs s := by
  have e : g = s.heap.get? := funext h
  rw [e] <;> rfl
theorem zsW_at {K : PySem.W.Frag} {zs : List Str} {zv : List FnZ} (h : zsW K zs = zv) (i : Nat) {x : Str} {v : FnZ} (e1 : zs[i]? = some x) (e2 : zv[i]? = some v) : fz K (ga K x) = v := by
  subst h
  unfold zsW at e2
  rw [List.getElem?_map, e1] at e2
  exact Option.some.inj e2
end He
/-! dicts whose keys are nested tuples of ints and texts, told as things of the heap by what is true of their object -/
namespace ND
open PySem PySem.Spec PyProof.Rows L2
/-- an entry: key, the place of the key's tuple, value -/
abbrev NE := NestedKey × Addr × V
abbrev NV : List NE → List (NestedKey × Addr × Value) → Prop := Paired fun p q => p.1 = q.1 ∧ p.2.1 = q.2.1 ∧ RelV p.2.2 q.2.2
def NRaw (P : Program) (w : World) (a : Addr) (kvs : List NE) (h : Heap) : Prop :=
  kvs.length ≤ sizeLine ∧ (a == sysModules) = false ∧ ∃ xs : List (NestedKey × Addr × Value), NV kvs xs ∧
    ∃ o es ep, h.get? a = some o ∧ o.ExactDict ∧ o.data = .dict es ep ∧ es.toList = xs.map (entryOfKey (nestedKind P w)) ∧ (xs.map (·.1)).Nodup
def NDo (P : Program) (w : World) (a : Addr) (kvs : List NE) : HO := .ext (NRaw P w a kvs)
theorem ndo_ok {P : Program} {w : World} {a : Addr} {kvs : List NE} {H : Hp} {h : Heap} (x : NRaw P w a kvs h) : ObjOk P w H h a (NDo P w a kvs) := by
  refine ⟨x, ?_, fun h1 h2 y k => ?_⟩
  · obtain ⟨_, _, _, _, o, _, _, e, _⟩ := x
    exact ⟨o, e⟩
  · obtain ⟨z, hd, xs, r, o, es, ep, e, c⟩ := y
    exact ⟨z, hd, xs, r, o, es, ep, k o e, c⟩
theorem ndo_raw {P : Program} {w : World} {a : Addr} {kvs : List NE} {H : Hp} {h : Heap} (x : ObjOk P w H h a (NDo P w a kvs)) : NRaw P w a kvs h := x.1
/-- the tuple at b is the key k -/
def KeyAt (K : PySem.W.Frag) (H : Hp) (b : Addr) (k : NestedKey) : Prop := (∃ ks, k = .tup ks) ∧ k.depth ≤ 8 ∧ Dp K H (.ref b) k.data
def KsAt (K : PySem.W.Frag) (H : Hp) (kvs : List NE) : Prop := ∀ e ∈ kvs, KeyAt K H e.2.1 e.1
section
variable {X : Cx} {pins : List (Addr × Obj)} {σ : L2.St} {H : Hp} {s : Shared}
mutual
theorem nis (I : Inv X pins σ H s) : ∀ (k : NestedKey) (v : V) (u : Value), Dp X.K H v k.data → RelV v u → NestedIs s.heap k u
  | .none, _, _, h, r => by
    rw [NestedKey.data] at h
    cases h
    cases r
    exact .none
  | .num i, _, _, h, r => by
    rw [NestedKey.data] at h
    cases h
    obtain ⟨t, rfl⟩ := r
    exact .int _ _
  | .text x, _, _, h, r => by
    rw [NestedKey.data] at h
    cases h
    obtain ⟨t, rfl⟩ := r
    exact .text _ _
  | .tup ks, _, _, h, r => by
    rw [NestedKey.data] at h
    cases h with
    | tup h1 h2 =>
      cases r
      obtain ⟨its, rv, ⟨o, ho, hc, n, hd⟩, _⟩ := I.tuple h1
      exact .tup ho hc hd (niss I ks _ _ h2 (by simpa using rv))
theorem niss (I : Inv X pins σ H s) : ∀ (ks : List NestedKey) (vs : List V) (us : List Value), DpAll X.K H vs (NestedKey.datas ks) → Vals vs us → NestedAll s.heap ks us
  | [], _, _, h, r => by
    rw [NestedKey.datas] at h
    cases h
    cases r
    exact .nil
  | k :: ks, _, _, h, r => by
    rw [NestedKey.datas] at h
    cases h with
    | cons h1 h2 =>
      cases r with
      | cons r1 r2 => exact .cons (nis I k _ _ h1 r1) (niss I ks _ _ h2 r2)
end
theorem key_is (I : Inv X pins σ H s) {b : Addr} {k : NestedKey} (h : KeyAt X.K H b k) : (nestedKind X.prog X.w).is s.heap k b := ⟨nis I k _ _ h.2.2 rfl, h.2.1⟩
theorem nv_mem {kvs : List NE} {xs : List (NestedKey × Addr × Value)} (r : NV kvs xs) : ∀ x ∈ xs, ∃ e ∈ kvs, e.1 = x.1 ∧ e.2.1 = x.2.1 := by
  induction r with
  | nil => exact fun _ h => nomatch h
  | @cons p q ps qs h t ih =>
    intro x hx
    rcases List.mem_cons.mp hx with rfl | hx
    · exact ⟨p, .head _, h.1, h.2.1⟩
    · obtain ⟨e, he, h1⟩ := ih x hx
      exact ⟨e, .tail _ he, h1⟩
theorem nd_h (I : Inv X pins σ H s) {a : Addr} {kvs : List NE} (x : NRaw X.prog X.w a kvs s.heap) (ks : KsAt X.K H kvs) : kvs.length ≤ sizeLine ∧ (a == sysModules) = false ∧ ∃ xs, NV kvs xs ∧ s.heap.DictOfH (nestedKind X.prog X.w) a xs := by
  obtain ⟨z, hd, xs, r, o, es, ep, h1, h2, h3, h4, h5⟩ := x
  refine ⟨z, hd, xs, r, o, es, ep, h1, h2, h3, h4, fun x hx => ?_, h5⟩
  obtain ⟨e, he, e1, e2⟩ := nv_mem r x hx
  rw [← e1, ← e2]
  exact key_is I (ks e he)
theorem nd_rd (I : Inv X pins σ H s) {a : Addr} {kvs : List NE} (e : Rd H a (NDo X.prog X.w a kvs)) (ks : KsAt X.K H kvs) : kvs.length ≤ sizeLine ∧ (a == sysModules) = false ∧ ∃ xs, NV kvs xs ∧ s.heap.DictOfH (nestedKind X.prog X.w) a xs :=
  nd_h I (ndo_raw (rd_of I.hok e)) ks
end
/-! ### look-ups -/
def nP (kvs : List NE) : List (NestedKey × V) := kvs.map fun e => (e.1, e.2.2)
def nGet (kvs : List NE) (k : NestedKey) : Option V := valV (nP kvs) k
def nPut (kvs : List NE) (k : NestedKey) (b : Addr) (v : V) : List NE := if (nGet kvs k).isSome then kvs.map (fun e => if e.1 = k then (e.1, e.2.1, v) else e) else kvs ++ [(k, b, v)]
theorem NV.val {kvs : List NE} {xs : List (NestedKey × Addr × Value)} (r : NV kvs xs) (k : NestedKey) : RelO (nGet kvs k) ((atKey xs k).map (·.2)) := by
  unfold nGet nP
  induction r with
  | nil => exact True.intro
  | @cons p q ps qs h t ih =>
    obtain ⟨h1, _, h2⟩ := h
    rw [List.map_cons]
    by_cases e : p.1 = k
    · have e' : q.1 = k := h1.symm.trans e
      have b : atKey (q :: qs) k = some q.2 := by simp [atKey, List.find?_cons, e']
      rw [valV_pos (p := (p.1, p.2.2)) e, b]; exact h2
    · have e' : ¬ q.1 = k := fun z => e (h1.trans z)
      have b : atKey (q :: qs) k = atKey qs k := by simp [atKey, List.find?_cons, e']
      rw [valV_neg (p := (p.1, p.2.2)) e, b]; exact ih
theorem NV.repl {kvs : List NE} {xs : List (NestedKey × Addr × Value)} (r : NV kvs xs) (k : NestedKey) {y : V} {u : Value} (ry : RelV y u) : NV (kvs.map fun e => if e.1 = k then (e.1, e.2.1, y) else e) (xs.map (putAt k u)) := by
  induction r with
  | nil => exact .nil
  | @cons p q ps qs h t ih =>
    rw [List.map_cons, List.map_cons]
    refine .cons ?_ ih
    obtain ⟨h1, h2, h3⟩ := h
    unfold putAt
    by_cases e : p.1 = k
    · rw [if_pos e, if_pos (h1.symm.trans e)]; exact ⟨h1, h2, ry⟩
    · rw [if_neg e, if_neg (fun z => e (h1.trans z))]; exact ⟨h1, h2, h3⟩
theorem NV.put {kvs : List NE} {xs : List (NestedKey × Addr × Value)} (r : NV kvs xs) (k : NestedKey) (b : Addr) {y : V} {u : Value} (ry : RelV y u) : NV (nPut kvs k b y) (storedH xs k b u) := by
  have e : (nGet kvs k).isSome = (atKey xs k).isSome := by rw [(NV.val r k).isSome_eq, Option.isSome_map]
  unfold nPut storedH
  rw [e]
  by_cases q : (atKey xs k).isSome = true
  · rw [if_pos q, if_pos q]; exact NV.repl r k ry
  · rw [if_neg q, if_neg q]; exact Paired.snoc r ⟨rfl, rfl, ry⟩
theorem nPut_len (kvs : List NE) (k : NestedKey) (b : Addr) (v : V) : (nPut kvs k b v).length ≤ kvs.length + 1 := by
  unfold nPut
  split
  · rw [List.length_map]; omega
  · rw [List.length_append, List.length_cons, List.length_nil]; omega
theorem nPut_new {kvs : List NE} {k : NestedKey} {b : Addr} {v : V} (h : nGet kvs k = none) : nPut kvs k b v = kvs ++ [(k, b, v)] := by
  unfold nPut
  rw [h]
  exact if_neg (by decide)
theorem nP_put (kvs : List NE) (k : NestedKey) (b : Addr) (v : V) : nP (nPut kvs k b v) = putK (nP kvs) k v := by
  unfold nPut putK
  rw [valV_any]
  by_cases q : (nGet kvs k).isSome = true
  · rw [if_pos q, if_pos (show (valV (nP kvs) k).isSome = true from q)]
    unfold nP
    rw [List.map_map, List.map_map]
    refine List.map_congr_left fun e _ => ?_
    by_cases z : e.1 = k <;> simp [z]
  · rw [if_neg q, if_neg (show ¬ (valV (nP kvs) k).isSome = true from q)]
    simp [nP]
theorem KsAt.put {K : PySem.W.Frag} {H : Hp} {kvs : List NE} (h : KsAt K H kvs) {k : NestedKey} {b : Addr} (hb : KeyAt K H b k) (v : V) : KsAt K H (nPut kvs k b v) := by
  intro e he
  unfold nPut at he
  split at he
  · obtain ⟨e', h1, rfl⟩ := List.mem_map.mp he
    split
    · exact h e' h1
    · exact h e' h1
  · rcases List.mem_append.mp he with he | he
    · exact h e he
    · rw [List.mem_singleton.mp he]; exact hb
/-! ### the rules -/
section
variable {X : Cx} {pins : List (Addr × Obj)} {σ : L2.St} {H : Hp} {s : Shared} {a b : Addr} {k : NestedKey} {kvs : List NE} {v : V} {u r : Value} {A : Around} {E : Value → Shared → Prop}
theorem room9 (hu : A.units + 64 < cLine) : (nestedKind X.prog X.w).room A.in1 := by
  show A.in1.units + 8 < cLine
  have : A.in1.units = A.units + 1 := rfl
  omega
theorem n_in {Q : Value → Shared → Prop} (hu : A.units + 64 < cLine) (I : Inv X pins σ H s) (g : Rd H a (NDo X.prog X.w a kvs)) (ks : KsAt X.K H kvs) (kb : KeyAt X.K H b k) (h : ∀ s', Inv X pins σ H s' → Q (.bool (nGet kvs k).isSome) s') :
    wpAny (model X.prog X.w) A (compareOp .In (.ref b) (.ref a)) Q E s := by
  obtain ⟨z, hd, xs, rel, dd⟩ := nd_rd I g ks
  refine wpAny_in_heap (room9 hu) (key_is I kb) hd dd ?_
  have q := (NV.val rel k).isSome_eq
  rw [Option.isSome_map] at q
  rw [← q]
  exact h _ (I.tok _)
theorem n_notIn {Q : Value → Shared → Prop} (hu : A.units + 64 < cLine) (I : Inv X pins σ H s) (g : Rd H a (NDo X.prog X.w a kvs)) (ks : KsAt X.K H kvs) (kb : KeyAt X.K H b k) (h : ∀ s', Inv X pins σ H s' → Q (.bool (!(nGet kvs k).isSome)) s') :
    wpAny (model X.prog X.w) A (compareOp .NotIn (.ref b) (.ref a)) Q E s := by
  obtain ⟨z, hd, xs, rel, dd⟩ := nd_rd I g ks
  refine wpAny_notIn_heap (room9 hu) (key_is I kb) hd dd ?_
  have q := (NV.val rel k).isSome_eq
  rw [Option.isSome_map] at q
  rw [← q]
  exact h _ (I.tok _)
theorem n_getItem {Q : Value → Shared → Prop} (hu : A.units + 64 < cLine) (I : Inv X pins σ H s) (g : Rd H a (NDo X.prog X.w a kvs)) (ks : KsAt X.K H kvs) (kb : KeyAt X.K H b k) (hv : nGet kvs k = some v) (h : ∀ w' s', Inv X pins σ H s' → RelV v w' → Q w' s') :
    wpAny (model X.prog X.w) A (getItem (.ref a) (.ref b)) Q E s := by
  obtain ⟨z, hd, xs, rel, dd⟩ := nd_rd I g ks
  obtain ⟨w', hw, rw'⟩ := RelO.some_of (v := v) (o := (atKey xs k).map (·.2)) (by rw [← hv]; exact NV.val rel k)
  obtain ⟨p, hp, hp2⟩ := Option.map_eq_some_iff.mp hw
  refine wpAny_getItem_heap (room9 hu) (key_is I kb) dd hp ?_
  rw [hp2]
  exact h w' _ (I.tok _) rw'
theorem n_get2 {Q : Value → Shared → Prop} {d : V} (hu : A.units + 64 < cLine) (I : Inv X pins σ H s) (g : Rd H a (NDo X.prog X.w a kvs)) (ks : KsAt X.K H kvs) (kb : KeyAt X.K H b k) (rd : RelV d r) (h : ∀ w' s', Inv X pins σ H s' → RelV ((nGet kvs k).getD d) w' → Q w' s') :
    wpAny (model X.prog X.w) A (call (.builtin "dict.get") [.ref a, .ref b, r]) Q E s := by
  obtain ⟨z, hd, xs, rel, dd⟩ := nd_rd I g ks
  refine call_meetsIn PySem.F.slot_dict_get dd.typeIs PySem.F.entry_dict_get (PySem.F.args_dict_get_3 _ _ _) (meetsH_dict_get_default (nestedKind X.prog X.w) a b hd r) ⟨room9 hu, k, xs, key_is I kb, dd, h _ _ (I.tok _) ?_⟩
  exact (NV.val rel k).getD rd
/-- the object at a changes -/
theorem nd_new {h' : Heap} {H' : Hp} {xs : List (NestedKey × Addr × Value)} (z : kvs.length ≤ sizeLine) (hd : (a == sysModules) = false) (rel : NV kvs xs) (dd : h'.DictOfH (nestedKind X.prog X.w) a xs) : ObjOk X.prog X.w H' h' a (NDo X.prog X.w a kvs) := by
  obtain ⟨o, es, ep, h1, h2, h3, h4, _, h5⟩ := dd
  exact ndo_ok ⟨z, hd, xs, rel, o, es, ep, h1, h2, h3, h4, h5⟩
theorem n_setItem {Q : Unit → Shared → Prop} (hu : A.units + 64 < cLine) (I : Inv X pins σ H s) (g : H a = some (NDo X.prog X.w a kvs)) (ks : KsAt X.K H kvs) (kb : KeyAt X.K H b k) (hl : kvs.length < sizeLine) (rv : RelV v r)
    (h : ∀ s', Inv X pins σ (upd H a (NDo X.prog X.w a (nPut kvs k b v))) s' → Q () s') : wpAny (model X.prog X.w) A (setItem (.ref a) (.ref b) r) Q E s := by
  obtain ⟨z, hd, xs, rel, dd⟩ := nd_rd I (.inl g) ks
  have hz : xs.length ≤ sizeLine := by rw [← Paired.length rel]; exact z
  have hl' : (nPut kvs k b v).length ≤ sizeLine := by have := nPut_len kvs k b v; omega
  refine wpAny_setItem_heap (hsz := hz) (room9 hu) (key_is I kb) dd fun h' dd' hs => h _ ?_
  obtain ⟨q, es, ep, hq, h2, h3, h4, h6, h5⟩ := id dd'
  exact d_write I (by rw [g]; exact True.intro) hs ⟨q, hq⟩ (nd_new hl' hd (NV.put rel k b rv) dd')
theorem nd_typeIs (I : Inv X pins σ H s) (g : Rd H a (NDo X.prog X.w a kvs)) : s.TypeIs (.ref a) "dict" ∧ ∀ b, Value.ref a = .ref b → ∃ ob, s.heap.get? b = some ob ∧ ob.dict = none := by
  obtain ⟨z, hd, xs, r, o, es, ep, h1, h2, _⟩ := ndo_raw (rd_of I.hok g)
  refine ⟨⟨o, h1, h2.1⟩, fun b q => ?_⟩
  cases q
  exact ⟨o, h1, h2.2.1⟩
end
/-- {}, to be a dict with nested keys -/
def tNew (P : Program) (w : World) : TE := fun _ H Q => ∀ p, H p = none → Q (.ref p) (upd H p (NDo P w p []))
theorem nd_empty {P : Program} {w : World} {H : Hp} (h : Heap) (hb : sysModules < h.objs.size) : ObjOk P w H (h.push { cls := .type "dict", data := .dict #[] }) h.objs.size (NDo P w h.objs.size []) :=
  ndo_ok ⟨Nat.zero_le _, beq_eq_false_iff_ne.mpr (Ne.symm (Nat.ne_of_lt hb)), [], .nil, _, #[], 0, Heap.get?_push_size _ rfl, ⟨rfl, rfl, rfl⟩, rfl, rfl, List.nodup_nil⟩
/-- y in d, y not in d, d[y], d[y] = v, d.get(y, x) -/
def tIn (P : Program) (w : World) (K : PySem.W.Frag) (ty td : TE) : TE := fun σ H Q => ty σ H fun y H1 => td σ H1 fun x H2 => ∃ a b k kvs, x = .ref a ∧ y = .ref b ∧ Rd H2 a (NDo P w a kvs) ∧ KsAt K H2 kvs ∧ KeyAt K H2 b k ∧ Q (.bl (nGet kvs k).isSome) H2
def tNotIn (P : Program) (w : World) (K : PySem.W.Frag) (ty td : TE) : TE := fun σ H Q => ty σ H fun y H1 => td σ H1 fun x H2 => ∃ a b k kvs, x = .ref a ∧ y = .ref b ∧ Rd H2 a (NDo P w a kvs) ∧ KsAt K H2 kvs ∧ KeyAt K H2 b k ∧ Q (.bl (!(nGet kvs k).isSome)) H2
def tGet (P : Program) (w : World) (K : PySem.W.Frag) (td ty : TE) : TE := fun σ H Q => td σ H fun x H1 => ty σ H1 fun y H2 => ∃ a b k kvs v, x = .ref a ∧ y = .ref b ∧ Rd H2 a (NDo P w a kvs) ∧ KsAt K H2 kvs ∧ KeyAt K H2 b k ∧ nGet kvs k = some v ∧ Q v H2
def tGet2 (P : Program) (w : World) (K : PySem.W.Frag) (td ty tx : TE) : TE := fun σ H Q => td σ H fun x H1 => ∃ a kvs, x = .ref a ∧ Rd H1 a (NDo P w a kvs) ∧ ty σ H1 fun y H2 => tx σ H2 fun d H3 => ∃ b k kvs, y = .ref b ∧ Rd H3 a (NDo P w a kvs) ∧ KsAt K H3 kvs ∧ KeyAt K H3 b k ∧ Q ((nGet kvs k).getD d) H3
def tPut (P : Program) (w : World) (K : PySem.W.Frag) (td ty tv : TE) : TS := fun D σ H => tv σ H fun v H1 => td σ H1 fun x H2 => ty σ H2 fun y H3 => ∃ a b k kvs, x = .ref a ∧ y = .ref b ∧ H3 a = some (NDo P w a kvs) ∧ KsAt K H3 kvs ∧ KeyAt K H3 b k ∧ kvs.length < sizeLine ∧
  D.nx σ (upd H3 a (NDo P w a (nPut kvs k b v)))
section
variable {X : Cx} {o i e f value : Expr} {pos pos' tpos apos cpos : Pos} {td ty tv tx : TE}
theorem pe_new : PE X (.Dict [] [] pos) (tNew X.prog X.w) := ⟨fun pins s σ H Q I h =>
  wpAny_Dict_empty ⟨.ref s.heap.objs.size, _, I.laid (a := s.heap.objs.size) (o := NDo X.prog X.w s.heap.objs.size []) (t' := s.toks) (fun _ _ q => Heap.get?_push_of_some _ q) (Nat.le_refl _) (nd_empty s.heap I.big), rfl, h _ (I.hok.fresh (Nat.le_refl _))⟩⟩
theorem pc_in (hu : X.A.units + 64 < cLine) (hi : PE X i ty) (ho : PE X o td) : PC X .In i o (tIn X.prog X.w X.K ty td) := by
  refine ⟨fun pins s σ H Q I h => ?_⟩
  refine thn (hi.run pins s σ H _ I h) fun iv s1 ⟨y, H1, I1, ry, q1⟩ => thn (ho.run pins s1 σ H1 _ I1 q1) fun u s2 ⟨x, H2, I2, rx, a, b, k, kvs, ex, ey, g, ks, kb, q2⟩ => ?_
  subst ex ey
  obtain rfl : u = Value.ref a := rx
  obtain rfl : iv = Value.ref b := ry
  exact n_in hu I2 g ks kb fun s3 I3 => ⟨.bl (nGet kvs k).isSome, H2, I3, rfl, q2⟩
theorem pc_notin (hu : X.A.units + 64 < cLine) (hi : PE X i ty) (ho : PE X o td) : PC X .NotIn i o (tNotIn X.prog X.w X.K ty td) := by
  refine ⟨fun pins s σ H Q I h => ?_⟩
  refine thn (hi.run pins s σ H _ I h) fun iv s1 ⟨y, H1, I1, ry, q1⟩ => thn (ho.run pins s1 σ H1 _ I1 q1) fun u s2 ⟨x, H2, I2, rx, a, b, k, kvs, ex, ey, g, ks, kb, q2⟩ => ?_
  subst ex ey
  obtain rfl : u = Value.ref a := rx
  obtain rfl : iv = Value.ref b := ry
  exact n_notIn hu I2 g ks kb fun s3 I3 => ⟨.bl (!(nGet kvs k).isSome), H2, I3, rfl, q2⟩
theorem pe_get (hu : X.A.units + 64 < cLine) (ho : PE X o td) (hi : PE X i ty) (hs : NoSl i) : PE X (.Subscript o i pos) (tGet X.prog X.w X.K td ty) := by
  refine ⟨fun pins s σ H Q I h => ?_⟩
  refine subD_of PySem.F.slot_dict_getitem.lookup hs (thn (ho.run pins s σ H _ I h) fun u s1 ⟨x, H1, I1, rx, q1⟩ => thn (hi.run pins s1 σ H1 _ I1 q1) fun iv s2 ⟨y, H2, I2, ry, a, b, k, kvs, v, ex, ey, g, ks, kb, hv, q2⟩ => ?_)
  subst ex ey
  obtain rfl : u = Value.ref a := rx
  obtain rfl : iv = Value.ref b := ry
  exact ⟨(nd_typeIs I2 g).1, n_getItem hu I2 g ks kb hv fun w' s3 I3 rw' => ⟨v, H2, I3, rw', q2⟩⟩
theorem pe_get2 (hu : X.A.units + 64 < cLine) (ho : PE X o td) (he : PE X e ty) (hf : PE X f tx) (m : M2 X o "get" apos e f cpos) : PE X (.Call (.Attribute o "get" apos) [e, f] [] cpos) (tGet2 X.prog X.w X.K td ty tx) := by
  refine ⟨fun pins s σ H Q I h => ?_⟩
  refine wpAny_Call_method m.base m.few m.line PySem.F.plainAttrs_dict PySem.F.slot_dict_get PySem.F.type_dict_get (thn (ho.run pins s σ H _ I h) fun u s1 ⟨x, H1, I1, rx, a, kvs0, ex, d, q1⟩ => ?_)
  subst ex
  obtain rfl : u = Value.ref a := rx
  obtain ⟨t1, t2⟩ := nd_typeIs I1 d
  refine ⟨t1, t2, ?_⟩
  rw [m.trees]
  refine Calls.callWith_builtin rfl (Calls.evalArgs_plain (Calls.spliced_cons (thn (he.run pins s1 σ H1 _ I1 q1) fun iv s2 ⟨y, H2, I2, ry, q2⟩ =>
    Calls.spliced_cons (thn (hf.run pins s2 σ H2 _ I2 q2) fun fv s3 ⟨z, H3, I3, rz, b, k, kvs, ey, g, ks, kb, q3⟩ => Calls.spliced_nil ?_))))
  subst ey
  obtain rfl : iv = Value.ref b := ry
  exact n_get2 hu I3 g ks kb rz fun w' s4 I4 rw' => ⟨_, H3, I4, rw', q3⟩
theorem ps_put (hu : X.A.units + 64 < cLine) (ho : PE X o td) (hi : PE X i ty) (hv : PE X value tv) (hs : swapsWith value (some (.Subscript o i pos')) pos.line X.env = pure false) :
    PS X (.Assign [.Subscript o i pos'] value pos) (tPut X.prog X.w X.K td ty tv) := by
  refine ⟨fun pins s σ H D I h => ?_⟩
  refine wpAny_Assign_Subscript (thn (hv.run pins s σ H _ I h) fun r s1 ⟨v, H1, I1, rv, q1⟩ => thn (ho.run pins s1 σ H1 _ I1 q1) fun u s2 ⟨x, H2, I2, rx, q2⟩ => thn (hi.run pins s2 σ H2 _ I2 q2) fun iv s3 ⟨y, H3, I3, ry, a, b, k, kvs, ex, ey, g, ks, kb, hl, q3⟩ => ?_) hs
  subst ex ey
  obtain rfl : u = Value.ref a := rx
  obtain rfl : iv = Value.ref b := ry
  exact n_setItem hu I3 g ks kb hl rv fun s4 I4 => ⟨σ, _, I4, q3⟩
end
end ND
/-! walks over such dicts, their items, dicts made of pairs, setdefault -/
namespace ND
open PySem PySem.Spec PyProof.Rows L2
theorem ent_get {P : Program} {w : World} {xs : List (NestedKey × Addr × Value)} {kvs : List NE} {es : Array DictEntry} (he : es.toList = xs.map (entryOfKey (nestedKind P w))) (r : NV kvs xs) :
    es.size = kvs.length ∧ ∀ (i : Nat) (e : NE), kvs[i]? = some e → ∃ en : DictEntry, es[i]? = some en ∧ en.key = .ref e.2.1 ∧ RelV e.2.2 en.val := by
  refine ⟨(size_of_entries he).trans (Paired.length r).symm, fun i e hi => ?_⟩
  obtain ⟨x, hx, e1, e2, e3⟩ := paired_get r hi
  have q := entry_at he i
  rw [hx] at q
  exact ⟨_, q, congrArg Value.ref e2.symm, e3⟩
section
variable {X : Cx} {pins : List (Addr × Obj)} {σ : L2.St} {H : Hp} {s : Shared} {d : Addr} {o : Obj} {kvs : List NE}
theorem frzN (I : Inv X pins σ H s) (h : H d = some (.frz o (NDo X.prog X.w d kvs))) :
    (d == sysModules) = false ∧ s.heap.get? d = some o ∧ o.ExactDict ∧ ∃ (es : Array DictEntry) (ep : Nat), o.data = .dict es ep ∧ es.size = kvs.length ∧
      ∀ (i : Nat) (e : NE), kvs[i]? = some e → ∃ en : DictEntry, es[i]? = some en ∧ en.key = .ref e.2.1 ∧ RelV e.2.2 en.val := by
  obtain ⟨hd, x⟩ := I.hok d _ h
  obtain ⟨z, hs, xs, r, o', es, ep, ho, hx, hdt, he, _⟩ := ndo_raw x
  rw [hd] at ho
  cases ho
  obtain ⟨h1, h2⟩ := ent_get he r
  exact ⟨hs, hd, hx, es, ep, hdt, h1, h2⟩
end
/-- the keys of the locked dict at d, in their order -/
def ItkN (P : Program) (w : World) (d : Addr) (o : Obj) (kvs : List NE) : It :=
  ⟨fun i H => H d = some (.frz o (NDo P w d kvs)) ∧ i < kvs.length, fun i H x H' => H' = H ∧ ∃ e : NE, kvs[i]? = some e ∧ x = .ref e.2.1, fun i H => H d = some (.frz o (NDo P w d kvs)) ∧ kvs.length ≤ i⟩
theorem turn_keysN {P : Program} {w : World} {K : PySem.W.Frag} {tg : Expr} {d : Addr} {o : Obj} {es : Array DictEntry} {ep : Nat} {kvs : List NE} (it : Addr) (hod : o.data = .dict es ep) : Turn P w K tg (ItkN P w d o kvs) [it] it (fun i h => h.IsKeyIter it d i kvs.length ep) where
  mem := by simp
  obj := fun i h st b hb => by
    have e : b = it := by simpa using hb
    subst e
    obtain ⟨oi, e, c, dd⟩ := st
    exact ⟨oi, e, fun v z => by rw [dd] at z; cases z⟩
  keep := fun i h h' st k => st.at fun oi e => k it (by simp) oi e
  item := by
    intro X hP hw hK hc i pins s σ H E I hf st hg
    subst hP hw hK
    obtain ⟨hd, hi⟩ := hg
    obtain ⟨f0, f1, f2, f3, f4, f5⟩ := hf it (by simp)
    obtain ⟨hs, hgd, hx, es', ep', hdt, hsz, ent⟩ := frzN I hd
    obtain ⟨rfl, rfl⟩ := dict_ep hod hdt
    obtain ⟨e0, hkv⟩ : ∃ p, kvs[i]? = some p := ⟨kvs[i], List.getElem?_eq_getElem hi⟩
    obtain ⟨en, hen, hkey, _⟩ := ent i e0 hkv
    refine next_key_item st hgd hdt hsz hen fun h' st' sb => ?_
    have I1 : Inv X pins σ H { s with heap := h' } := I.turned (t' := s.toks) (fun b ob hb e => (sb.2 b hb).trans e) f0 f1 f3 f4 f5
    obtain ⟨oi, e, c, dd⟩ := id st'
    exact ⟨en.key, rfl, go_of (s := { s with heap := h' }) e c dd (by decide) ⟨.ref e0.2.1, H, I1, hkey, ⟨rfl, e0, hkv, rfl⟩, st', fun b hb => (hf b hb).1⟩⟩
  done := by
    intro X hP hw hK hc i pins s σ H E I hf st hg
    subst hP hw hK
    obtain ⟨hd, hi⟩ := hg
    obtain ⟨f0, f1, f2, f3, f4, f5⟩ := hf it (by simp)
    obtain ⟨hs, hgd, hx, es', ep', hdt, hsz, ent⟩ := frzN I hd
    obtain ⟨rfl, rfl⟩ := dict_ep hod hdt
    exact next_key_end (I.ok.hd hc) st hgd hdt hsz hi fun h' eb => ⟨rfl, I.turned (t' := s.toks) (fun b ob hb e => eb b ob hb e) f0 f1 f3 f4 f5⟩
  self := fun A i s Q E st h => by
    refine wpAny_pyIter_slot st.typeIs F.slot_dict_keyiterator_iter (wpAny_call_entry F.slot_dict_keyiterator_iter st.typeIs F.entry_dict_keyiterator_iter ?_ (F.args_dict_keyiterator_iter_1 _))
    show wpAny _ _ (ret (.ref it)) _ _ s
    exact wpAny_pure ⟨_, rfl, "dict_keyiterator", _, st.typeIs, F.slot_dict_keyiterator_next.lookup, h⟩
/-- for k in d, locked -/
def iKeysN (P : Program) (w : World) (td : TE) : TI := fun σ H R => td σ H fun x H1 => ∃ d o kvs, x = .ref d ∧ H1 d = some (.frz o (NDo P w d kvs)) ∧ R (ItkN P w d o kvs) H1
section
variable {X : Cx} {tg e : Expr} {td : TE} {apos cpos : Pos}
theorem pi_keysN (he : PE X e td) : PI X tg e (iKeysN X.prog X.w td) := by
  refine ⟨fun pins s σ H R I h => ?_⟩
  refine thn (he.run pins s σ H _ I h) fun u s1 ⟨x, H1, I1, rx, d, o, kvs, ex, hd, q⟩ => ?_
  subst ex
  obtain rfl : u = Value.ref d := rx
  obtain ⟨hs, hgd, hx, es, ep, hdt, hsz, ent⟩ := frzN I1 hd
  refine iter_keys hs hgd hx hdt (pi_one (tk := s1.toks) I1 _ (turn_keysN _ hdt) ⟨_, Heap.get?_push_size _ rfl, rfl, ?_⟩ q)
  rw [hsz] <;> rfl
end
/-! ### d.items(), list(d.items()) -/
open DX in
def tItems (P : Program) (w : World) (td : TE) : TE := fun σ H Q => td σ H fun x H1 => ∃ a kvs, x = .ref a ∧ Rd H1 a (NDo P w a kvs) ∧ ∀ p, H1 p = none → Q (.ref p) (upd H1 p (itemsO p a))
section
variable {X : Cx} {o : Expr} {apos cpos : Pos} {td : TE}
theorem pe_items (ho : PE X o td) (hbase : attributeBase o "items" X.env (eval o X.env) = eval o X.env := by rfl) (hline : (apos.endLine == cpos.line) = true := by rfl) : PE X (.Call (.Attribute o "items" apos) [] [] cpos) (tItems X.prog X.w td) := by
  refine ⟨fun pins s σ H Q I h => ?_⟩
  refine wpAny_Call_method (T := "dict") (id := "dict.items") hbase rfl hline F.plainAttrs_dict F.slot_dict_items F.type_dict_items (thn (ho.run pins s σ H _ I h) fun u s1 ⟨x, H1, I1, rx, a, kvs, ex, hd, q⟩ => ?_)
  subst ex
  obtain rfl : u = Value.ref a := rx
  obtain ⟨t1, t2⟩ := nd_typeIs I1 hd
  refine ⟨t1, t2, ?_⟩
  obtain ⟨z, hs, xs, r, ob, es, ep, ho', hx, hdt, he, _⟩ := ndo_raw (rd_of I1.hok hd)
  show wpAny _ _ (callWith cpos (.builtin "dict.items") [.ref a] [] []) _ X.xe s1
  refine Calls.callWith_builtin rfl (PySem.evalArgs_none ?_)
  refine DT.callItems (es := es) (ep := ep) hs ⟨ob, ho', hx, hdt⟩ ?_
  exact ⟨.ref s1.heap.objs.size, upd H1 s1.heap.objs.size (DX.itemsO s1.heap.objs.size a), I1.laid (t' := s1.toks) (fun b u e => Heap.get?_push_of_some _ e) (Nat.le_refl _) (DX.itemsO_ok (Heap.get?_push_size _ rfl)), rfl, q _ (I1.hok.fresh (Nat.le_refl _))⟩
/-- the pairs at Ts are the entries -/
def PrsAt (H : Hp) (Ts : List Addr) (kvs : List NE) : Prop := Paired (fun T (e : NE) => H T = some (.tup [.ref e.2.1, e.2.2])) Ts kvs
def rListItems (P : Program) (w : World) : List V → Hp → VK → Prop := fun xs H Q => ∃ (p a : Addr) (kvs : List NE), xs = [.ref p] ∧ H p = some (DX.itemsO p a) ∧ Rd H a (NDo P w a kvs) ∧
  ∀ (H' : Hp) (l : Addr) (Ts : List Addr), Evl.Ex H H' → H l = none → H' l = some (.lst (Ts.map V.ref)) → (∀ T ∈ Ts, H T = none) → Ts.Nodup → PrsAt H' Ts kvs → Q (.ref l) H'
theorem prs_of {H : Hp} : ∀ {Ts : List Addr} {kvs : List NE}, Ts.length = kvs.length → (∀ (j : Nat) (T : Addr) (e : NE), Ts[j]? = some T → kvs[j]? = some e → H T = some (.tup [.ref e.2.1, e.2.2])) → PrsAt H Ts kvs
  | [], [], _, _ => .nil
  | [], _ :: _, h, _ => by simp at h
  | _ :: _, [], h, _ => by simp at h
  | T :: Ts, e :: kvs, h, f => .cons (f 0 T e rfl rfl) (prs_of (by simpa using h) fun j T' e' h1 h2 => f (j + 1) T' e' (by simpa using h1) (by simpa using h2))
theorem vrefs : ∀ as : List Addr, Vals (as.map V.ref) (as.map Value.ref)
  | [] => .nil
  | _ :: r => .cons rfl (vrefs r)
theorem call_list_items (hc : X.calm = true) : CallR X (.type "list") (rListItems X.prog X.w) := by
  intro pins s σ H xs us Q I r h
  obtain ⟨p, a, kvs, rfl, hp, hd, q⟩ := h
  obtain ⟨u, rfl, rx⟩ := vals1 r
  cases rx
  have view : s.heap.IsItemsView p a := (show ObjOk X.prog X.w H s.heap p (DX.itemsO p a) from I.hok p _ hp).1
  obtain ⟨z, hs, xs', rel, o, es, ep, ho, hx, hdt, he, _⟩ := ndo_raw (rd_of I.hok hd)
  obtain ⟨hsz, ent⟩ := ent_get he rel
  refine PySem.W.dil_call (es := es) (ep := ep) (I.ok.hd hc) view ⟨o, ho, hx, hdt⟩ (by omega) fun h' tk acc c as hk hS hl hG hacc => ?_
  have hS0 : H s.heap.objs.size = none := I.hok.fresh (Nat.le_refl _)
  have lz : (as.map V.ref).length ≤ sizeLine := by rw [List.length_map]; omega
  have I1 : Inv X pins σ (upd H s.heap.objs.size (.lst (as.map V.ref))) { s with heap := h', toks := tk } :=
    I.laid (t' := tk) (o := .lst (as.map V.ref)) hk (Nat.le_refl _) ⟨lz, acc.toList, c, by rw [hacc]; exact vrefs as, by rw [Array.toArray_toList]; exact hS⟩
  have nd : as.Nodup := List.Pairwise.imp (fun h => Nat.ne_of_lt h) hG.rise
  have hfr : ∀ T ∈ as, H T = none := fun T hT => I.hok.fresh (Nat.le_of_lt (hG.above T hT))
  obtain ⟨H2, I2, g, pr⟩ := DX.takeT (P := fun T vs => ∃ (j : Nat) (e : NE), as[j]? = some T ∧ kvs[j]? = some e ∧ vs = [.ref e.2.1, e.2.2]) I as _ I1 nd fun T hT => by
    refine ⟨Nat.le_of_lt (hG.above T hT), by rw [upd_ne (Nat.ne_of_gt (hG.above T hT))]; exact hfr T hT, ?_⟩
    obtain ⟨j, hj⟩ := List.mem_iff_getElem?.mp hT
    obtain ⟨hj', hg⟩ := hG.pairs j T hj
    have hjk : j < kvs.length := by omega
    obtain ⟨en, hen, k1, k2⟩ := ent j kvs[j] (List.getElem?_eq_getElem hjk)
    have een : es[j] = en := by
      rw [Array.getElem?_eq_getElem hj'] at hen
      exact Option.some.inj hen
    refine ⟨[.ref kvs[j].2.1, kvs[j].2.2], ⟨j, kvs[j], hj, List.getElem?_eq_getElem hjk, rfl⟩, fun H2 => ⟨by show 2 ≤ sizeLine; decide, [es[j].key, es[j].val], .cons ?_ (.cons ?_ .nil), ⟨_, hg, rfl, 0, rfl⟩⟩⟩
    · rw [een, k1]; exact rfl
    · rw [een]; exact k2
  have e01 : Evl.Ex H (upd H s.heap.objs.size (.lst (as.map V.ref))) := Evl.Ex.new hS0
  refine ⟨.ref s.heap.objs.size, H2, I2, rfl, q H2 _ as (fun b ob hb => g b ob (e01 b ob hb)) hS0 (g _ _ upd_same) hfr nd (prs_of (by omega) fun j T e h1 h2 => ?_)⟩
  obtain ⟨vs, ⟨j', e', h3, h4, rfl⟩, h5⟩ := pr T (List.mem_of_getElem? h1)
  have : j' = j := by
    have hj1 := (List.getElem?_eq_some_iff.mp h1)
    have hj3 := (List.getElem?_eq_some_iff.mp h3)
    obtain ⟨a1, b1⟩ := hj1
    obtain ⟨a3, b3⟩ := hj3
    have pw := List.pairwise_iff_getElem.mp hG.rise
    rcases Nat.lt_trichotomy j' j with h | h | h
    · have := pw j' j a3 a1 h
      rw [b3, b1] at this
      exact absurd this (Nat.lt_irrefl _)
    · exact h
    · have := pw j j' a1 a3 h
      rw [b3, b1] at this
      exact absurd this (Nat.lt_irrefl _)
  subst this
  rw [h2] at h4
  cases h4
  exact h5
/-! ### dict(pairs) -/
def nMerge (acc kvs : List NE) : List NE := kvs.foldl (fun acc e => nPut acc e.1 e.2.1 e.2.2) acc
theorem NV.merge : ∀ {kvs : List NE} {ys : List (NestedKey × Addr × Value)} {acc : List NE} {xs : List (NestedKey × Addr × Value)}, NV kvs ys → NV acc xs → NV (nMerge acc kvs) (storedAllH xs ys) := by
  intro kvs ys acc xs r
  induction r generalizing acc xs with
  | nil => exact fun q => q
  | @cons p q ps qs h t ih =>
    intro r0
    have e : NV (nPut acc p.1 p.2.1 p.2.2) (storedH xs q.1 q.2.1 q.2.2) := by
      have := NV.put r0 p.1 p.2.1 h.2.2
      rw [← h.1, ← h.2.1]
      exact this
    exact ih e
theorem nMerge_len : ∀ (kvs acc : List NE), (nMerge acc kvs).length ≤ acc.length + kvs.length
  | [], acc => Nat.le_refl _
  | p :: r, acc => by
    have h1 := nMerge_len r (nPut acc p.1 p.2.1 p.2.2)
    have h2 := nPut_len acc p.1 p.2.1 p.2.2
    show (nMerge (nPut acc p.1 p.2.1 p.2.2) r).length ≤ _
    rw [List.length_cons]; omega
theorem pairs_n {pins : List (Addr × Obj)} {σ : L2.St} {H : Hp} {s : Shared} (I : Inv X pins σ H s) : ∀ {Ts : List Addr} {kvs : List NE}, Paired (fun T (e : NE) => SqT X.K H T [.ref e.2.1, e.2.2]) Ts kvs →
    ∃ xs, NV kvs xs ∧ xs.length = Ts.length ∧ ∀ (j : Nat) (x : NestedKey × Addr × Value), xs[j]? = some x → ∃ T, Ts[j]? = some T ∧ s.heap.IsTuple T #[.ref x.2.1, x.2.2]
  | _, _, .nil => ⟨[], .nil, rfl, fun j x h => by simp at h⟩
  | _, _, .cons (a := T) (b := e) (l₁ := Ts) (l₂ := kvs) h t => by
    obtain ⟨xs, h1, h2, h3⟩ := pairs_n I t
    obtain ⟨its, rv, tp, _⟩ := I.tuple h
    cases rv with
    | cons r1 r2 =>
      cases r2 with
      | @cons _ u _ _ r2 r3 =>
        cases r3
        cases r1
        refine ⟨(e.1, e.2.1, u) :: xs, .cons ⟨rfl, rfl, r2⟩ h1, by simp [h2], fun j x hx => ?_⟩
        cases j with
        | zero =>
          simp only [List.getElem?_cons_zero, Option.some.injEq] at hx
          subst hx
          exact ⟨T, rfl, tp⟩
        | succ j =>
          simp only [List.getElem?_cons_succ] at hx ⊢
          exact h3 j x hx
def rDict (P : Program) (w : World) (K : PySem.W.Frag) : List V → Hp → VK → Prop := fun xs H Q => ∃ (a : Addr) (Ts : List Addr) (kvs : List NE), xs = [.ref a] ∧ SqL K H a (Ts.map V.ref) ∧ Paired (fun T (e : NE) => SqT K H T [.ref e.2.1, e.2.2]) Ts kvs ∧ KsAt K H kvs ∧
  ∀ p, H p = none → Q (.ref p) (upd H p (NDo P w p (nMerge [] kvs)))
theorem refs_at' : ∀ {Ts : List Addr} {its : List Value}, Vals (Ts.map V.ref) its → its = Ts.map Value.ref
  | [], _, h => by cases h; rfl
  | _ :: _, _, h => by
    cases h with
    | cons h1 h2 =>
      cases h1
      rw [refs_at' h2]
      rfl
theorem call_dictN (hc : X.calm = true) (hu : X.A.units + 64 < cLine) : CallR X (.type "dict") (rDict X.prog X.w X.K) := by
  intro pins s σ H xs us Q I r h
  obtain ⟨a, Ts, kvs, rfl, hq, hp, hks, q⟩ := h
  obtain ⟨u, rfl, rx⟩ := vals1 r
  cases rx
  obtain ⟨its, rv, ⟨o, n, ho, hcl, hd, hdat⟩, hz⟩ := I.list hq
  obtain rfl := refs_at' rv
  rw [List.length_map] at hz
  obtain ⟨ys, rel, hl, hpr⟩ := pairs_n I hp
  have hTs : Ts.length = kvs.length := Paired.length hp
  have hst := nestedKind_stays (prog := X.prog) (w := X.w)
  have room : (nestedKind X.prog X.w).room X.A.in1.in1 := by
    show X.A.in1.in1.units + 8 < cLine
    have : X.A.in1.in1.units = X.A.units + 1 + 1 := rfl
    omega
  refine call_dict_pairsH (knd := nestedKind X.prog X.w) (ps := ys) (PairArg.list a (Ts.map Value.ref).toArray (fun j => Ts.getD j 0) (ys.map fun x => (Value.ref x.2.1, x.2.2))) (I.ok.hd hc) room ⟨⟨o, n, ho, hcl, hd, hdat⟩, ?_, fun j k v e => ?_⟩ ⟨by rw [List.length_map], fun i key v e => ?_⟩ (fun h' hk x hx => ?_) (by rw [List.length_map, hl]; exact hz) fun h' tk hd' hk => ?_
  · rw [List.size_toArray, List.length_map, List.length_map, hl]
  · rw [List.getElem?_map] at e
    obtain ⟨x, hx, e⟩ := Option.map_eq_some_iff.mp e
    cases e
    obtain ⟨T, hT, ht⟩ := hpr j x hx
    have eT : Ts.getD j 0 = T := by rw [List.getD_eq_getElem?_getD, hT]; rfl
    refine ⟨?_, .inl (by show s.heap.IsTuple (Ts.getD j 0) _; rw [eT]; exact ht)⟩
    show (Ts.map Value.ref).toArray[j]? = some (Value.ref (Ts.getD j 0))
    rw [eT]
    rw [List.getElem?_toArray, List.getElem?_map, hT]
    rfl
  · have e' : (ys.map fun x => (Value.ref x.2.1, x.2.2))[i]? = some (key, v) := e
    rw [List.getElem?_map] at e'
    obtain ⟨x, hx, e'⟩ := Option.map_eq_some_iff.mp e'
    cases e'
    exact ⟨x.1, x.2.1, hx, rfl⟩
  · obtain ⟨e, he, e1, e2⟩ := nv_mem rel x hx
    rw [← e1, ← e2]
    exact hst.stays (fun b ob _ _ g _ => hk b ob (Nat.ne_of_lt (Heap.lt_size g)) (fun z => nomatch z) g) (key_is I (hks e he))
  · have hm : (s.heap.objs.size == sysModules) = false := beq_eq_false_iff_ne.mpr (Nat.ne_of_gt I.big)
    have hlen : (nMerge [] kvs).length ≤ sizeLine := by
      have := nMerge_len kvs []
      rw [List.length_nil] at this
      omega
    have hkk : ∀ b o, s.heap.get? b = some o → h'.get? b = some o := fun b o g => hk b o (fun z => nomatch z) g
    exact ⟨.ref s.heap.objs.size, upd H s.heap.objs.size (NDo X.prog X.w s.heap.objs.size (nMerge [] kvs)), I.laid (t' := tk) hkk (Nat.le_refl _) (nd_new hlen hm (NV.merge rel .nil) hd'), rfl, q _ (I.hok.fresh (Nat.le_refl _))⟩
end
/-! ### d.setdefault(k, x) -/
section
variable {X : Cx} {o e f : Expr} {apos cpos : Pos} {td ty tx : TE}
def tSetd (P : Program) (w : World) (K : PySem.W.Frag) (td ty tx : TE) : TE := fun σ H Q => td σ H fun x H1 => ∃ a kvs, x = .ref a ∧ Rd H1 a (NDo P w a kvs) ∧ ty σ H1 fun y H2 => tx σ H2 fun d H3 => ∃ b k kvs, y = .ref b ∧ H3 a = some (NDo P w a kvs) ∧ KsAt K H3 kvs ∧ KeyAt K H3 b k ∧ kvs.length < sizeLine ∧
  (∀ v, nGet kvs k = some v → Q v H3) ∧ (nGet kvs k = none → Q d (upd H3 a (NDo P w a (kvs ++ [(k, b, d)]))))
theorem pe_setd (hu : X.A.units + 64 < cLine) (ho : PE X o td) (he : PE X e ty) (hf : PE X f tx) (m : M2 X o "setdefault" apos e f cpos) : PE X (.Call (.Attribute o "setdefault" apos) [e, f] [] cpos) (tSetd X.prog X.w X.K td ty tx) := by
  refine ⟨fun pins s σ H Q I h => ?_⟩
  refine wpAny_Call_method m.base m.few m.line PySem.F.plainAttrs_dict PySem.F.slot_dict_setdefault PySem.F.type_dict_setdefault (thn (ho.run pins s σ H _ I h) fun u s1 ⟨x, H1, I1, rx, a, kvs0, ex, d, q1⟩ => ?_)
  subst ex
  obtain rfl : u = Value.ref a := rx
  obtain ⟨t1, t2⟩ := nd_typeIs I1 d
  refine ⟨t1, t2, ?_⟩
  rw [m.trees]
  refine Calls.callWith_builtin rfl (Calls.evalArgs_plain (Calls.spliced_cons (thn (he.run pins s1 σ H1 _ I1 q1) fun iv s2 ⟨y, H2, I2, ry, q2⟩ =>
    Calls.spliced_cons (thn (hf.run pins s2 σ H2 _ I2 q2) fun fv s3 ⟨z, H3, I3, rz, b, k, kvs, ey, g, ks, kb, hl, q3, q4⟩ => Calls.spliced_nil ?_))))
  subst ey
  obtain rfl : iv = Value.ref b := ry
  obtain ⟨zz, hd, xs, rel, dd⟩ := nd_rd I3 (.inl g) ks
  have hz : xs.length ≤ sizeLine := by rw [← Paired.length rel]; exact zz
  have rv := NV.val rel k
  refine call_setdefault_heap (hsz := hz) (room9 hu) (key_is I3 kb) hd dd (fun p hp => ?_) fun hn h' dd' hs => ?_
  · rw [hp] at rv
    cases hg : nGet kvs k with
    | none => rw [hg] at rv; exact (show False from rv).elim
    | some v =>
      rw [hg] at rv
      exact ⟨v, H3, I3.tok _, rv, q3 v hg⟩
  · rw [hn] at rv
    have hg : nGet kvs k = none := by
      cases hg : nGet kvs k with
      | none => rfl
      | some v => rw [hg] at rv; exact (show False from rv).elim
    obtain ⟨q, es, ep, hq, h2, h3, h4, h6, h5⟩ := id dd'
    have rel' := NV.put rel k b rz
    rw [nPut_new hg] at rel'
    exact ⟨z, _, d_write I3 (by rw [g]; exact True.intro) hs ⟨q, hq⟩ (nd_new (by rw [List.length_append]; simp; omega) hd rel' dd'), rz, q4 hg⟩
end
/-! ### list(d): the keys -/
section
variable {X : Cx}
def rListKeys (P : Program) (w : World) : List V → Hp → VK → Prop := fun xs H Q => ∃ (a : Addr) (kvs : List NE), xs = [.ref a] ∧ Rd H a (NDo P w a kvs) ∧ ∀ l, H l = none → Q (.ref l) (upd H l (.lst (kvs.map fun e => V.ref e.2.1)))
theorem call_list_keys (hc : X.calm = true) : CallR X (.type "list") (rListKeys X.prog X.w) := by
  intro pins s σ H xs us Q I r h
  obtain ⟨d, kvs, rfl, hd, q⟩ := h
  obtain ⟨u, rfl, rx⟩ := vals1 r
  cases rx
  obtain ⟨z, hs, ks, pr, o, es, ep, ho, hx, hdt, he, hn⟩ := ndo_raw (rd_of I.hok hd)
  obtain ⟨hsz, ent⟩ := ent_get he pr
  refine PySem.W.kdl_call (kdl_raw hs hx hdt) (I.ok.hd hc) ho (by omega) fun h' tk acc' c' kp e it => ?_
  have rv : Vals (kvs.map fun e => V.ref e.2.1) acc'.toList := by
    refine vals_of_at (by rw [List.length_map]; have h1 := it.1; have h2 : acc'.toList.length = acc'.size := (by simp); omega) fun j x u h1 h2 => ?_
    rw [List.getElem?_map] at h1
    obtain ⟨e0, he0, rfl⟩ := Option.map_eq_some_iff.mp h1
    obtain ⟨en, hen, hv⟩ := it.2 j u (by rw [← Array.getElem?_toList]; exact h2)
    obtain ⟨en', hen', k1, _⟩ := ent j e0 he0
    rw [hen] at hen'
    cases hen'
    rw [hv, k1]
    exact rfl
  have hz : (kvs.map fun e => V.ref e.2.1).length ≤ sizeLine := by rw [List.length_map]; exact z
  refine ⟨.ref s.heap.objs.size, _, I.laid (t' := tk) (o := .lst (kvs.map fun e => V.ref e.2.1)) kp (Nat.le_refl _) ?_, rfl, q _ (I.hok.fresh (Nat.le_refl _))⟩
  exact ⟨hz, acc'.toList, c', rv, by rw [Array.toArray_toList]; exact e⟩
end
end ND
namespace ND
open PySem PySem.Spec PyProof.Rows L2
section
variable {X : Cx}
def rIn (P : Program) (w : World) (K : PySem.W.Frag) : R2 := fun y x H Q => ∃ a b k kvs, x = .ref a ∧ y = .ref b ∧ Rd H a (NDo P w a kvs) ∧ KsAt K H kvs ∧ KeyAt K H b k ∧ Q (.bl (nGet kvs k).isSome) H
def rNotIn (P : Program) (w : World) (K : PySem.W.Frag) : R2 := fun y x H Q => ∃ a b k kvs, x = .ref a ∧ y = .ref b ∧ Rd H a (NDo P w a kvs) ∧ KsAt K H kvs ∧ KeyAt K H b k ∧ Q (.bl (!(nGet kvs k).isSome)) H
theorem op_in (hu : X.A.units + 64 < cLine) : OpR X (compareOp .In) (rIn X.prog X.w X.K) := by
  intro pins s σ H y x v u Q I ry rx h
  obtain ⟨a, b, k, kvs, ex, ey, g, ks, kb, q⟩ := h
  subst ex ey
  cases (show u = Value.ref a from rx)
  cases (show v = Value.ref b from ry)
  exact n_in hu I g ks kb fun s3 I3 => ⟨.bl (nGet kvs k).isSome, H, I3, rfl, q⟩
theorem op_notIn (hu : X.A.units + 64 < cLine) : OpR X (compareOp .NotIn) (rNotIn X.prog X.w X.K) := by
  intro pins s σ H y x v u Q I ry rx h
  obtain ⟨a, b, k, kvs, ex, ey, g, ks, kb, q⟩ := h
  subst ex ey
  cases (show u = Value.ref a from rx)
  cases (show v = Value.ref b from ry)
  exact n_notIn hu I g ks kb fun s3 I3 => ⟨.bl (!(nGet kvs k).isSome), H, I3, rfl, q⟩
end
end ND
/-! a != b of two instances of a class that has its own == ; get of a written dict -/
namespace NeX
open PySem PySem.W PyProof.Rows PySem.Spec
section
variable {prog : Program} {w : World} {A : Around} {E : Value → Shared → Prop} {s : Shared} {K : Frag} {x C L f : Addr} {h₀ : Heap} {m : Str → Option Value} {ox : Obj} {od : Option Obj} {b : Value}
theorem ifBound_ne {args : List Value} {Q : Option Value → Shared → Prop} (X : K.In s.heap) (I : InstAt s.heap x ox C od) (hs : findIn K (.ref C) "__ne__" = some (some (.builtin "object.__ne__")))
    (h : wpAny (model prog w) A (call (.builtin "object.__ne__") (.ref x :: args)) (fun v => Q (some v)) E s) : wpAny (model prog w) A (callSpecialIfBound? (.ref x) "__ne__" args) Q E s := by
  simp only [callSpecialIfBound?, bindSpecialIfBound?]
  refine wpAny_holding (wpAny_bind (wpAny_bind (wpAny_bind (I.type.here ((looks_findIn X hs).here ?_)))))
  refine wpAny_bind (wpAny_askSetting (wpAny_ite ?_))
  have fin : wpAny (model prog w) A (call (.builtin "object.__ne__") ([.ref x] ++ args) >>= fun v => pure (some v)) Q E s := wpAny_bind (wpAny_mono h (fun v s' h' => wpAny_pure h') fun _ _ h' => h')
  have hb := F.slot_object_ne.bind (.ref x)
  split
  · exact wpAny_bind (wpAny_of_eq hb (wpAny_pure (by exact fin)))
  · exact wpAny_tryCatch (wpAny_bind (wpAny_of_eq hb (wpAny_pure (by exact fin))))
theorem ne_K {y : Addr} {oy : Obj} {ody : Option Obj} {Q : Value → Shared → Prop} (hu : A.units + 1 < cLine) (X : K.In s.heap) (I : InstAt s.heap x ox C od) (J : InstAt s.heap y oy C ody)
    (hs : findIn K (.ref C) "__ne__" = some (some (.builtin "object.__ne__"))) (he : findIn K (.ref C) "__eq__" = some (some (.ref f))) (hf : isFn K (.ref f) = true) (ho : mroIn K C (.type "object") = some true)
    (h : wpAny (model prog w) A.in1 (call (.ref f) [.ref x, .ref y]) (fun v s' => ∃ c, v = .bool c ∧ Q (.bool (!c)) s') E s) : wpAny (model prog w) A (richCompare .NotEq (.ref x) (.ref y)) Q E s := by
  have one : wpAny (model prog w) A (tryCompare (.ref x) "__ne__" (.ref y)) (fun r s' => ∃ v, r = some v ∧ Q v s') E s := by
    unfold tryCompare
    refine wpAny_bind (ifBound_ne X I hs ?_)
    have sub : Looks (model prog w) s.heap (isInstance (.ref x) (.type "object")) true := I.type.andThen (looks_mroIn X ho)
    refine wpAny_call (codeAny_call_builtin F.slot_object_ne.plain F.entry_object_ne (@check_slot (model prog w) _ _ s "object.__ne__" "object" "__ne__" (.ref x) [.ref y] [] _ (by decide +kernel) (by decide +kernel) sub (F.args_object_ne_2 _ _) ?_))
    show wpAny _ _ (slotArgs "__ne__" 1 ⟨[.ref x, .ref y], []⟩ >>= _) _ _ s
    refine wpAny_bind (wpAny_of_eq (a := (.ref x, [.ref y])) rfl ?_)
    refine wpAny_bind (wpAny_cRoomFor (by show A.units + 1 < cLine; exact hu) ?_)
    refine wpAny_bind (ifBound_K X I he hf (wpAny_mono h (fun v s' hv => ?_) fun _ _ e => e))
    obtain ⟨c, rfl, hq⟩ := hv
    refine wpAny_bind (wpAny_truthy_bool (wpAny_pure ?_))
    exact wpAny_pure ⟨_, rfl, hq⟩
  unfold richCompare
  simp only [oneThing_ref]
  refine wpAny_holding (wpAny_bind (wpAny_cRoomFor (by omega) ?_))
  refine wpAny_bind (I.type.here (wpAny_bind (J.type.here ?_)))
  rw [if_neg (by simp)]
  refine wpAny_bind (wpAny_pure ?_)
  simp only [Bool.false_eq_true, if_false]
  refine wpAny_bind (wpAny_mono one (fun r s' z => ?_) fun _ _ e => e)
  obtain ⟨v, rfl, hq⟩ := z
  exact wpAny_pure hq
end
end NeX
namespace LL
open PySem PySem.Spec PyProof.Rows L2
section
variable {X : Cx} {CX : CXT} {n : Nat} {C g : Addr} {sp : Sp} {E : XK}
/-- a != b by the class's own == -/
def rOwnNe (C : Addr) (sp : Sp) (E : XK) : R2 := fun x y H Q => ∃ a dx fs b dy gs, x = .ref a ∧ y = .ref b ∧ H a = some (.ins C dx fs) ∧ H b = some (.ins C dy gs) ∧ sp [x, y] H (fun z H' => ∃ c, z = .bl c ∧ Q (.bl (!c)) H') E
theorem op_ownNe (hn : PySem.W.findIn X.K (.ref C) "__ne__" = some (some (.builtin "object.__ne__"))) (hs : PySem.W.findIn X.K (.ref C) "__eq__" = some (some (.ref g))) (hf : PySem.W.isFn X.K (.ref g) = true) (ho : PySem.W.mroIn X.K C (.type "object") = some true) (F : FnR X.prog X.w X.K X.mg X.base CX n g sp)
    (hr : Room (n + 1) X.A) (hx : Passes CX X E) : OpR X (compareOp .NotEq) (rOwnNe C sp E) := by
  intro pins s σ H x y v u Q I rx ry h
  obtain ⟨a, dx, fs, b, dy, gs, rfl, rfl, ha, hb, q⟩ := h
  cases (show v = Value.ref a from rx)
  cases (show u = Value.ref b from ry)
  obtain ⟨mA, O, _⟩ := ins_get I.hok ha
  obtain ⟨od, J, _⟩ := O.look
  obtain ⟨mB, O2, _⟩ := ins_get I.hok hb
  obtain ⟨od2, J2, _⟩ := O2.look
  show wpAny (model X.prog X.w) X.A (richCompare .NotEq (.ref a) (.ref b)) _ _ s
  refine NeX.ne_K (hu_of hr) I.kIn J J2 hn hs hf ho ?_
  have e0 : Env0 X.prog X.w X.K X.mg X.base X.A.in1 X.stack s H := by
    have e := I.env0
    exact ⟨e.frames, e.mod, e.bs, e.bsz, e.funs, e.frf, e.hok, e.bare⟩
  refine wpAny_call (codeAny_mono (F X.A.in1 X.stack s H [.ref a, .ref b] [.ref a, .ref b] _ E hr.in1 e0 (.cons rfl (.cons rfl .nil)) q) fun r s' hq => ?_)
  cases r with
  | error e => exact hx pins σ H s e s' I hq
  | ok fl =>
    cases fl with
    | ret w =>
      obtain ⟨z, H', I', rz, c, ez, ex⟩ := I.after hq
      subst ez
      cases rz
      exact ⟨c, rfl, .bl (!c), H', I', rfl, ex⟩
    | next => exact False.elim hq
    | brk => exact False.elim hq
    | cont => exact False.elim hq
end
/-! ### get of a written dict with text keys -/
def KGet (K : PySem.W.Frag) (w : World) (a : Addr) (x : Str) (o : Option V) : Prop :=
  ∃ es n u, K.lookup a = some ⟨.type "dict", none, .dict es n, #[]⟩ ∧ PySem.W.KeysLit w.params es.toList ∧ PySem.W.nsIn K a x = some u ∧ RelO o u
def tKGet2 (K : PySem.W.Frag) (w : World) (td ty tx : TE) : TE := fun σ H Q => td σ H fun x H1 => ∃ a, x = .ref a ∧ (∃ z o, KGet K w a z o) ∧ (a == sysModules) = false ∧ ty σ H1 fun y H2 => tx σ H2 fun d H3 => ∃ z o, y = .str z ∧ KGet K w a z o ∧ Q (o.getD d) H3
section
variable {X : Cx} {o e f : Expr} {apos cpos : Pos} {td ty tx : TE}
theorem pe_kget2 (ho : PE X o td) (he : PE X e ty) (hf : PE X f tx) (m : M2 X o "get" apos e f cpos) : PE X (.Call (.Attribute o "get" apos) [e, f] [] cpos) (tKGet2 X.K X.w td ty tx) := by
  refine ⟨fun pins s σ H Q I h => ?_⟩
  refine wpAny_Call_method m.base m.few m.line PySem.F.plainAttrs_dict PySem.F.slot_dict_get PySem.F.type_dict_get (thn (ho.run pins s σ H _ I h) fun u s1 ⟨x, H1, I1, rx, a, ex, ⟨z0, o0, es0, n0, u0, hl0, hk0, _⟩, hsys, q1⟩ => ?_)
  subst ex
  obtain rfl : u = Value.ref a := rx
  have hm := PySem.W.mapOf_K (prog := X.prog) (w := X.w) I1.kIn hl0 hk0
  refine ⟨hm.typeIs, hm.noDict, ?_⟩
  rw [m.trees]
  refine Calls.callWith_builtin rfl (Calls.evalArgs_plain (Calls.spliced_cons (thn (he.run pins s1 σ H1 _ I1 q1) fun iv s2 ⟨y, H2, I2, ry, q2⟩ =>
    Calls.spliced_cons (thn (hf.run pins s2 σ H2 _ I2 q2) fun fv s3 ⟨d, H3, I3, rd, z, oo, ey, ⟨es, n, uo, hl, hk, hn, ro⟩, q3⟩ => Calls.spliced_nil ?_))))
  subst ey
  obtain ⟨t, rfl⟩ := ry
  have hm3 := PySem.W.mapOf_K (prog := X.prog) (w := X.w) I3.kIn hl hk
  refine call_meetsIn PySem.F.slot_dict_get hm3.typeIs PySem.F.entry_dict_get (PySem.F.args_dict_get_3 _ _ _) (meets_dict_get_default (strKind X.prog X.w) a (strKind_is X.prog X.w z t) hsys fv) ⟨_, hm3, ⟨oo.getD d, H3, I3.tok _, ?_, q3⟩⟩
  rw [PySem.W.find_K hl hn]
  exact ro.getD rd
end
/-- what a written dict holds, from the head's facts -/
theorem kget_of {K : PySem.W.Frag} {w : World} {a : Addr} {kvs : List (Str × He.Dv)} (h : He.dicW K a = some (He.keysIn w.params (kvs.map (·.1)))) (hv : He.valsB K a kvs = true) :
    (a == sysModules) = false ∧ ∀ z : Str, KGet K w a z ((kvs.lookup z).map (He.Dv.v K)) := by
  have h0 := h
  unfold He.dicW at h
  cases q : K.lookup a with
  | none => rw [q] at h; cases h
  | some o =>
    obtain ⟨oc, od, dt, osl⟩ := o
    rw [q] at h
    cases oc with
    | type c =>
      cases od with
      | none =>
        cases dt with
        | dict es n =>
          have h1 : (match decide (c = "dict") && (osl.isEmpty && !(a == sysModules)) with
            | true => some (es.toList.map He.keyOf)
            | false => none) = some (He.keysIn w.params (kvs.map (·.1))) := h
          cases z : decide (c = "dict") && (osl.isEmpty && !(a == sysModules)) with
          | false => rw [z] at h1; cases h1
          | true =>
            rw [z] at h1
            obtain ⟨z1, z2⟩ := Bool.and_eq_true_iff.mp z
            obtain ⟨z3, z4⟩ := Bool.and_eq_true_iff.mp z2
            have e1 : c = "dict" := of_decide_eq_true z1
            have e2 : osl = #[] := Array.isEmpty_iff.mp z3
            subst e1 e2
            have hk := He.keysLit_of (Option.some.inj h1)
            refine ⟨by simpa using z4, fun x => ?_⟩
            have hkey : es.toList.map He.keyOf = He.keysIn w.params (kvs.map (·.1)) := Option.some.inj h1
            by_cases hx : ∃ p ∈ kvs, p.1 = x
            · -- there
              have hl : ∃ d, kvs.lookup x = some d ∧ (x, d) ∈ kvs := by
                clear hv h0 h h1 hkey hk
                induction kvs with
                | nil => obtain ⟨p, hp, _⟩ := hx; cases hp
                | cons p r ih =>
                  obtain ⟨p1, p2⟩ := p
                  by_cases e : x = p1
                  · subst e
                    exact ⟨p2, by simp [List.lookup], .head _⟩
                  · have e' : (x == p1) = false := by simpa using e
                    obtain ⟨d, h1, h2⟩ := ih (by
                      obtain ⟨p, hp, he⟩ := hx
                      rcases List.mem_cons.mp hp with rfl | hp
                      · exact absurd he.symm e
                      · exact ⟨p, hp, he⟩)
                    exact ⟨d, by simp [List.lookup, e', h1], .tail _ h2⟩
              obtain ⟨d, hl, hm⟩ := hl
              obtain ⟨u, hu, ru⟩ := He.valsB_ok hv hm
              rw [hl]
              exact ⟨es, n, some u, q, hk, hu, ru⟩
            · have hn : kvs.lookup x = none := by
                clear hv h0 h h1 hkey hk
                induction kvs with
                | nil => rfl
                | cons p r ih =>
                  obtain ⟨p1, p2⟩ := p
                  have e : ¬ x = p1 := fun e => hx ⟨_, .head _, e.symm⟩
                  have e' : (x == p1) = false := by simpa using e
                  have := ih fun ⟨p, hp, he⟩ => hx ⟨p, .tail _ hp, he⟩
                  simp [List.lookup, e', this]
              rw [hn]
              refine ⟨es, n, none, q, hk, ?_, True.intro⟩
              unfold PySem.W.nsIn
              rw [q]
              have keys : ∀ e ∈ es.toList, ∃ y t, e.key = .str y t ∧ y ∈ kvs.map (·.1) := by
                intro e he
                obtain ⟨y, t, e1, _⟩ := hk.all e he
                refine ⟨y, t, e1, ?_⟩
                have : He.keyOf e ∈ He.keysIn w.params (kvs.map (·.1)) := by rw [← hkey]; exact List.mem_map_of_mem he
                unfold He.keyOf at this
                rw [e1] at this
                unfold He.keysIn at this
                obtain ⟨k, hk1, hk2⟩ := List.mem_map.mp this
                have := (Prod.mk.inj (Option.some.inj hk2)).1
                rw [← this]
                exact hk1
              have f1 : es.toList.find? (·.key.isStr x) = none := List.find?_eq_none.mpr fun e he => by
                obtain ⟨y, t, e1, hy⟩ := keys e he
                rw [e1]
                intro hz
                have : y = x := by
                  simp only [Value.isStr] at hz
                  simpa using hz
                subst this
                obtain ⟨p, hp, he⟩ := List.mem_map.mp hy
                exact hx ⟨p, hp, he⟩
              have f2 : es.toList.any (·.refKey) = false := by
                rw [List.any_eq_false]
                intro e he
                obtain ⟨y, t, e1, _⟩ := keys e he
                simp [DictEntry.refKey, e1]
              simp only [f1, f2]
              rfl
        | _ => cases h
      | some b => cases dt <;> cases h
    | _ => cases od <;> cases dt <;> cases h
end LL
namespace LL
open PySem PySem.Spec PyProof.Rows L2 He
/-! ### the row's places (printed by gen.py) -/
abbrev R : PySem.W.OpenRow := PySem.W.OpenLaw.row PySem.Challenge.rw_lostleast_k71_whole_lines_of_plans_are_r
def PR : Program := R.prog
def top (i : Nat) : Stmt := PySem.Challenge.pw_lostleast_k71_whole_lines_of_plans_are_r.main.body.getD i (.Pass ⟨0, 0, 0, 0⟩)
abbrev s__wall : Stmt := top 0
abbrev n__wall : List Str := ["k"]
theorem sc__wall : FnScope n__wall ["k"] (defScope s__wall) := ⟨rfl, rfl, rfl, by decide +kernel, rfl, by decide +kernel, by decide +kernel⟩
abbrev s_Ratio_init : Stmt := inClass (top 12) 0
abbrev n_Ratio_init : List Str := ["self", "num", "den", "left", "right"]
theorem sc_Ratio_init : FnScope n_Ratio_init ["self", "num", "den"] (defScope s_Ratio_init) := ⟨rfl, rfl, rfl, by decide +kernel, rfl, by decide +kernel, by decide +kernel⟩
abbrev s_Ratio_add : Stmt := inClass (top 12) 1
abbrev n_Ratio_add : List Str := ["self", "other"]
theorem sc_Ratio_add : FnScope n_Ratio_add ["self", "other"] (defScope s_Ratio_add) := ⟨rfl, rfl, rfl, by decide +kernel, rfl, by decide +kernel, by decide +kernel⟩
abbrev s_Ratio_sub : Stmt := inClass (top 12) 2
abbrev n_Ratio_sub : List Str := ["self", "other"]
theorem sc_Ratio_sub : FnScope n_Ratio_sub ["self", "other"] (defScope s_Ratio_sub) := ⟨rfl, rfl, rfl, by decide +kernel, rfl, by decide +kernel, by decide +kernel⟩
abbrev s_Ratio_mul : Stmt := inClass (top 12) 3
abbrev n_Ratio_mul : List Str := ["self", "other"]
theorem sc_Ratio_mul : FnScope n_Ratio_mul ["self", "other"] (defScope s_Ratio_mul) := ⟨rfl, rfl, rfl, by decide +kernel, rfl, by decide +kernel, by decide +kernel⟩
abbrev s_Ratio_eq : Stmt := inClass (top 12) 4
abbrev n_Ratio_eq : List Str := ["self", "other"]
theorem sc_Ratio_eq : FnScope n_Ratio_eq ["self", "other"] (defScope s_Ratio_eq) := ⟨rfl, rfl, rfl, by decide +kernel, rfl, by decide +kernel, by decide +kernel⟩
abbrev s_Ratio_str : Stmt := inClass (top 12) 5
abbrev n_Ratio_str : List Str := ["self"]
theorem sc_Ratio_str : FnScope n_Ratio_str ["self"] (defScope s_Ratio_str) := ⟨rfl, rfl, rfl, by decide +kernel, rfl, by decide +kernel, by decide +kernel⟩
abbrev s_Ratio_less : Stmt := inClass (top 12) 6
abbrev n_Ratio_less : List Str := ["self", "other"]
theorem sc_Ratio_less : FnScope n_Ratio_less ["self", "other"] (defScope s_Ratio_less) := ⟨rfl, rfl, rfl, by decide +kernel, rfl, by decide +kernel, by decide +kernel⟩
abbrev s_Ratio_over : Stmt := inClass (top 12) 7
abbrev n_Ratio_over : List Str := ["self", "other"]
theorem sc_Ratio_over : FnScope n_Ratio_over ["self", "other"] (defScope s_Ratio_over) := ⟨rfl, rfl, rfl, by decide +kernel, rfl, by decide +kernel, by decide +kernel⟩
abbrev s_added : Stmt := top 13
abbrev n_added : List Str := ["ratios", "result", "ratio"]
theorem sc_added : FnScope n_added ["ratios"] (defScope s_added) := ⟨rfl, rfl, rfl, by decide +kernel, rfl, by decide +kernel, by decide +kernel⟩
abbrev s_digits_of : Stmt := top 14
abbrev n_digits_of : List Str := ["word", "char"]
theorem sc_digits_of : FnScope n_digits_of ["word"] (defScope s_digits_of) := ⟨rfl, rfl, rfl, by decide +kernel, rfl, by decide +kernel, by decide +kernel⟩
abbrev s_read_ratio : Stmt := top 15
abbrev n_read_ratio : List Str := ["word", "parts", "num", "den", "ratio"]
theorem sc_read_ratio : FnScope n_read_ratio ["word"] (defScope s_read_ratio) := ⟨rfl, rfl, rfl, by decide +kernel, rfl, by decide +kernel, by decide +kernel⟩
abbrev s_Plan_init : Stmt := inClass (top 17) 0
abbrev n_Plan_init : List Str := ["self", "entries", "at", "entry", "view", "lots", "lot"]
theorem sc_Plan_init : FnScope n_Plan_init ["self", "entries"] (defScope s_Plan_init) := ⟨rfl, rfl, rfl, by decide +kernel, rfl, by decide +kernel, by decide +kernel⟩
abbrev s_Plan_eq : Stmt := inClass (top 17) 1
abbrev n_Plan_eq : List Str := ["self", "other"]
theorem sc_Plan_eq : FnScope n_Plan_eq ["self", "other"] (defScope s_Plan_eq) := ⟨rfl, rfl, rfl, by decide +kernel, rfl, by decide +kernel, by decide +kernel⟩
abbrev s_Plan_entries : Stmt := inClass (top 17) 2
abbrev n_Plan_entries : List Str := ["self"]
theorem sc_Plan_entries : FnScope n_Plan_entries ["self"] (defScope s_Plan_entries) := ⟨rfl, rfl, rfl, by decide +kernel, rfl, by decide +kernel, by decide +kernel⟩
abbrev s_Plan_lots : Stmt := inClass (top 17) 3
abbrev n_Plan_lots : List Str := ["self", "view", "count", "lots"]
theorem sc_Plan_lots : FnScope n_Plan_lots ["self", "view", "count"] (defScope s_Plan_lots) := ⟨rfl, rfl, rfl, by decide +kernel, rfl, by decide +kernel, by decide +kernel⟩
abbrev s_plan_lines : Stmt := top 20
abbrev n_plan_lines : List Str := ["plan", "lines", "view", "lots", "words", "event", "part", "lot"]
theorem sc_plan_lines : FnScope n_plan_lines ["plan"] (defScope s_plan_lines) := ⟨rfl, rfl, rfl, by decide +kernel, rfl, by decide +kernel, by decide +kernel⟩
abbrev s_read_view : Stmt := top 21
abbrev n_read_view : List Str := ["words", "at", "events", "place", "count", "word", "numbers"]
theorem sc_read_view : FnScope n_read_view ["words", "at"] (defScope s_read_view) := ⟨rfl, rfl, rfl, by decide +kernel, rfl, by decide +kernel, by decide +kernel⟩
abbrev s_read_plan : Stmt := top 22
abbrev n_read_plan : List Str := ["lines", "entries", "at", "line", "words", "middle", "view", "word", "lots"]
theorem sc_read_plan : FnScope n_read_plan ["lines"] (defScope s_read_plan) := ⟨rfl, rfl, rfl, by decide +kernel, rfl, by decide +kernel, by decide +kernel⟩
abbrev s_checked : Stmt := top 23
abbrev n_checked : List Str := ["entries", "at"]
theorem sc_checked : FnScope n_checked ["entries", "at"] (defScope s_checked) := ⟨rfl, rfl, rfl, by decide +kernel, rfl, by decide +kernel, by decide +kernel⟩
abbrev s_l_pool : Stmt := top 25
abbrev n_l_pool : List Str := ["_law_script", "_law_budget"]
theorem sc_l_pool : FnScope n_l_pool ["_law_script", "_law_budget"] (defScope s_l_pool) := ⟨rfl, rfl, rfl, by decide +kernel, rfl, by decide +kernel, by decide +kernel⟩
abbrev s_l_draw : Stmt := top 26
abbrev n_l_draw : List Str := ["_law_pool_here", "_law_size", "_law_cell", "_law_value"]
theorem sc_l_draw : FnScope n_l_draw ["_law_pool_here", "_law_size"] (defScope s_l_draw) := ⟨rfl, rfl, rfl, by decide +kernel, rfl, by decide +kernel, by decide +kernel⟩
abbrev s_l_same : Stmt := top 27
abbrev n_l_same : List Str := ["_law_actual", "_law_due", "_law_k"]
theorem sc_l_same : FnScope n_l_same ["_law_actual", "_law_due"] (defScope s_l_same) := ⟨rfl, rfl, rfl, by decide +kernel, rfl, by decide +kernel, by decide +kernel⟩
abbrev s_l_event : Stmt := top 28
abbrev n_l_event : List Str := ["_law_pool_here", "_law_kind", "_law_number"]
theorem sc_l_event : FnScope n_l_event ["_law_pool_here"] (defScope s_l_event) := ⟨rfl, rfl, rfl, by decide +kernel, rfl, by decide +kernel, by decide +kernel⟩
abbrev s_l_less : Stmt := top 29
abbrev n_l_less : List Str := ["_law_num", "_law_den", "_law_a", "_law_b", "_law_k"]
theorem sc_l_less : FnScope n_l_less ["_law_num", "_law_den"] (defScope s_l_less) := ⟨rfl, rfl, rfl, by decide +kernel, rfl, by decide +kernel, by decide +kernel⟩
abbrev s_l_entries : Stmt := top 30
abbrev n_l_entries : List Str := ["_law_pool_here", "_law_entries_here", "_law_views", "_law_k", "_law_turn", "_law_view", "_law_weights", "_law_large", "_law_weight"]
theorem sc_l_entries : FnScope n_l_entries ["_law_pool_here"] (defScope s_l_entries) := ⟨rfl, rfl, rfl, by decide +kernel, rfl, by decide +kernel, by decide +kernel⟩
abbrev s_l_text : Stmt := top 31
abbrev n_l_text : List Str := ["_law_pair"]
theorem sc_l_text : FnScope n_l_text ["_law_pair"] (defScope s_l_text) := ⟨rfl, rfl, rfl, by decide +kernel, rfl, by decide +kernel, by decide +kernel⟩
abbrev s_l_line : Stmt := top 32
abbrev n_l_line : List Str := ["_law_entry", "_law_words", "_law_event_here", "_law_part", "_law_lot"]
theorem sc_l_line : FnScope n_l_line ["_law_entry"] (defScope s_l_line) := ⟨rfl, rfl, rfl, by decide +kernel, rfl, by decide +kernel, by decide +kernel⟩
abbrev s_l_digits : Stmt := top 33
abbrev n_l_digits : List Str := ["_law_word_here", "_law_char"]
theorem sc_l_digits : FnScope n_l_digits ["_law_word_here"] (defScope s_l_digits) := ⟨rfl, rfl, rfl, by decide +kernel, rfl, by decide +kernel, by decide +kernel⟩
abbrev s_l_read : Stmt := top 34
abbrev n_l_read : List Str := ["_law_word_here", "_law_parts", "_law_part", "_law_numbers"]
theorem sc_l_read : FnScope n_l_read ["_law_word_here"] (defScope s_l_read) := ⟨rfl, rfl, rfl, by decide +kernel, rfl, by decide +kernel, by decide +kernel⟩
abbrev s_l_good : Stmt := top 35
abbrev n_l_good : List Str := ["_law_words", "_law_counts", "_law_left", "_law_turn", "_law_more", "_law_word_here", "_law_lots", "_law_whole", "_law_num", "_law_den"]
theorem sc_l_good : FnScope n_l_good ["_law_words"] (defScope s_l_good) := ⟨rfl, rfl, rfl, by decide +kernel, rfl, by decide +kernel, by decide +kernel⟩
abbrev s_l_bad : Stmt := top 36
abbrev n_l_bad : List Str := ["_law_lines", "_law_views", "_law_at", "_law_words"]
theorem sc_l_bad : FnScope n_l_bad ["_law_lines"] (defScope s_l_bad) := ⟨rfl, rfl, rfl, by decide +kernel, rfl, by decide +kernel, by decide +kernel⟩
abbrev s_l_near : Stmt := top 37
abbrev n_l_near : List Str := ["_law_pool_here", "_law_word_here", "_law_signs", "_law_k", "_law_at"]
theorem sc_l_near : FnScope n_l_near ["_law_pool_here", "_law_word_here"] (defScope s_l_near) := ⟨rfl, rfl, rfl, by decide +kernel, rfl, by decide +kernel, by decide +kernel⟩
abbrev s_l_word : Stmt := top 38
abbrev n_l_word : List Str := ["_law_pool_here", "_law_words", "_law_factor", "_law_menu", "_law_whole"]
theorem sc_l_word : FnScope n_l_word ["_law_pool_here", "_law_words"] (defScope s_l_word) := ⟨rfl, rfl, rfl, by decide +kernel, rfl, by decide +kernel, by decide +kernel⟩
abbrev s_l_changed : Stmt := top 39
abbrev n_l_changed : List Str := ["_law_pool_here", "_law_lines", "_law_k", "_law_place", "_law_other", "_law_words", "_law_at", "_law_way"]
theorem sc_l_changed : FnScope n_l_changed ["_law_pool_here", "_law_lines"] (defScope s_l_changed) := ⟨rfl, rfl, rfl, by decide +kernel, rfl, by decide +kernel, by decide +kernel⟩
abbrev s_law : Stmt := top 40
abbrev n_law : List Str := ["_law_script", "_law_pool_here", "_law_entry", "_law_lines", "_law_bad_here", "_law_again", "e"]
theorem sc_law : FnScope n_law ["_law_script"] (defScope s_law) := ⟨rfl, rfl, rfl, by decide +kernel, rfl, by decide +kernel, by decide +kernel⟩
def d__wall : He.DefD := ⟨("_wall", none), "_wall", "_wall", defArgs s__wall, defBody s__wall, defScope s__wall, [], []⟩
def d_Ratio_init : He.DefD := ⟨("Ratio", some "__init__"), "__init__", "Ratio.__init__", defArgs s_Ratio_init, defBody s_Ratio_init, defScope s_Ratio_init, [.int 1], []⟩
def d_Ratio_add : He.DefD := ⟨("Ratio", some "__add__"), "__add__", "Ratio.__add__", defArgs s_Ratio_add, defBody s_Ratio_add, defScope s_Ratio_add, [], []⟩
def d_Ratio_sub : He.DefD := ⟨("Ratio", some "__sub__"), "__sub__", "Ratio.__sub__", defArgs s_Ratio_sub, defBody s_Ratio_sub, defScope s_Ratio_sub, [], []⟩
def d_Ratio_mul : He.DefD := ⟨("Ratio", some "__mul__"), "__mul__", "Ratio.__mul__", defArgs s_Ratio_mul, defBody s_Ratio_mul, defScope s_Ratio_mul, [], []⟩
def d_Ratio_eq : He.DefD := ⟨("Ratio", some "__eq__"), "__eq__", "Ratio.__eq__", defArgs s_Ratio_eq, defBody s_Ratio_eq, defScope s_Ratio_eq, [], []⟩
def d_Ratio_str : He.DefD := ⟨("Ratio", some "__str__"), "__str__", "Ratio.__str__", defArgs s_Ratio_str, defBody s_Ratio_str, defScope s_Ratio_str, [], []⟩
def d_Ratio_less : He.DefD := ⟨("Ratio", some "less"), "less", "Ratio.less", defArgs s_Ratio_less, defBody s_Ratio_less, defScope s_Ratio_less, [], []⟩
def d_Ratio_over : He.DefD := ⟨("Ratio", some "over"), "over", "Ratio.over", defArgs s_Ratio_over, defBody s_Ratio_over, defScope s_Ratio_over, [], []⟩
def d_added : He.DefD := ⟨("added", none), "added", "added", defArgs s_added, defBody s_added, defScope s_added, [], []⟩
def d_digits_of : He.DefD := ⟨("digits_of", none), "digits_of", "digits_of", defArgs s_digits_of, defBody s_digits_of, defScope s_digits_of, [], []⟩
def d_read_ratio : He.DefD := ⟨("read_ratio", none), "read_ratio", "read_ratio", defArgs s_read_ratio, defBody s_read_ratio, defScope s_read_ratio, [], []⟩
def d_Plan_init : He.DefD := ⟨("Plan", some "__init__"), "__init__", "Plan.__init__", defArgs s_Plan_init, defBody s_Plan_init, defScope s_Plan_init, [], []⟩
def d_Plan_eq : He.DefD := ⟨("Plan", some "__eq__"), "__eq__", "Plan.__eq__", defArgs s_Plan_eq, defBody s_Plan_eq, defScope s_Plan_eq, [], []⟩
def d_Plan_entries : He.DefD := ⟨("Plan", some "entries"), "entries", "Plan.entries", defArgs s_Plan_entries, defBody s_Plan_entries, defScope s_Plan_entries, [], []⟩
def d_Plan_lots : He.DefD := ⟨("Plan", some "lots"), "lots", "Plan.lots", defArgs s_Plan_lots, defBody s_Plan_lots, defScope s_Plan_lots, [], []⟩
def d_plan_lines : He.DefD := ⟨("plan_lines", none), "plan_lines", "plan_lines", defArgs s_plan_lines, defBody s_plan_lines, defScope s_plan_lines, [], []⟩
def d_read_view : He.DefD := ⟨("read_view", none), "read_view", "read_view", defArgs s_read_view, defBody s_read_view, defScope s_read_view, [], []⟩
def d_read_plan : He.DefD := ⟨("read_plan", none), "read_plan", "read_plan", defArgs s_read_plan, defBody s_read_plan, defScope s_read_plan, [], []⟩
def d_checked : He.DefD := ⟨("checked", none), "checked", "checked", defArgs s_checked, defBody s_checked, defScope s_checked, [], []⟩
def d_l_pool : He.DefD := ⟨("_law_pool", none), "_law_pool", "_law_pool", defArgs s_l_pool, defBody s_l_pool, defScope s_l_pool, [], []⟩
def d_l_draw : He.DefD := ⟨("_law_draw", none), "_law_draw", "_law_draw", defArgs s_l_draw, defBody s_l_draw, defScope s_l_draw, [], []⟩
def d_l_same : He.DefD := ⟨("_law_same", none), "_law_same", "_law_same", defArgs s_l_same, defBody s_l_same, defScope s_l_same, [], []⟩
def d_l_event : He.DefD := ⟨("_law_event", none), "_law_event", "_law_event", defArgs s_l_event, defBody s_l_event, defScope s_l_event, [], []⟩
def d_l_less : He.DefD := ⟨("_law_less", none), "_law_less", "_law_less", defArgs s_l_less, defBody s_l_less, defScope s_l_less, [], []⟩
def d_l_entries : He.DefD := ⟨("_law_entries", none), "_law_entries", "_law_entries", defArgs s_l_entries, defBody s_l_entries, defScope s_l_entries, [], []⟩
def d_l_text : He.DefD := ⟨("_law_text", none), "_law_text", "_law_text", defArgs s_l_text, defBody s_l_text, defScope s_l_text, [], []⟩
def d_l_line : He.DefD := ⟨("_law_line", none), "_law_line", "_law_line", defArgs s_l_line, defBody s_l_line, defScope s_l_line, [], []⟩
def d_l_digits : He.DefD := ⟨("_law_digits", none), "_law_digits", "_law_digits", defArgs s_l_digits, defBody s_l_digits, defScope s_l_digits, [], []⟩
def d_l_read : He.DefD := ⟨("_law_read", none), "_law_read", "_law_read", defArgs s_l_read, defBody s_l_read, defScope s_l_read, [], []⟩
def d_l_good : He.DefD := ⟨("_law_good", none), "_law_good", "_law_good", defArgs s_l_good, defBody s_l_good, defScope s_l_good, [], []⟩
def d_l_bad : He.DefD := ⟨("_law_bad", none), "_law_bad", "_law_bad", defArgs s_l_bad, defBody s_l_bad, defScope s_l_bad, [], []⟩
def d_l_near : He.DefD := ⟨("_law_near", none), "_law_near", "_law_near", defArgs s_l_near, defBody s_l_near, defScope s_l_near, [], []⟩
def d_l_word : He.DefD := ⟨("_law_word", none), "_law_word", "_law_word", defArgs s_l_word, defBody s_l_word, defScope s_l_word, [], []⟩
def d_l_changed : He.DefD := ⟨("_law_changed", none), "_law_changed", "_law_changed", defArgs s_l_changed, defBody s_l_changed, defScope s_l_changed, [], []⟩
def d_law : He.DefD := ⟨("law", none), "law", "law", defArgs s_law, defBody s_law, defScope s_law, [], []⟩
def excB (K : PySem.W.Frag) (D : Addr) : Bool := eqO (PySem.W.findIn K (.ref D) "__getattribute__") (some (some (.builtin "BaseException.__getattribute__"))) && (eqO (PySem.W.findIn K (.ref D) "__getattr__") (some none) && (decide (PySem.W.subIn K (.ref D) (.type "BaseException") = some true) && (PySem.W.hasDictIn K D && (eqO (PySem.W.findIn K (.ref D) "__class__") (some (some (.builtin "object.__class__"))) && (eqO (PySem.W.specialIn K (.builtin "object.__class__") "__get__") (some (some (.builtin "getset_descriptor.__get__"))) && (decide (PySem.W.takesIn K (.builtin "object.__class__") = some true) && decide (PySem.W.mroIn K D (.type "object") = some true)))))))
theorem excB_ok {K : PySem.W.Frag} {D : Addr} (h : excB K D = true) : ExcC K D := by
  simp only [excB, Bool.and_eq_true] at h
  obtain ⟨h1, h2, h3, h4, h5, h6, h7, h8⟩ := h
  exact ⟨eqO_ok h1, eqO_ok h2, of_decide_eq_true h3, h4, eqO_ok h5, eqO_ok h6, of_decide_eq_true h7, of_decide_eq_true h8⟩
def fn : List He.DefD := [d__wall, d_Ratio_init, d_Ratio_add, d_Ratio_sub, d_Ratio_mul, d_Ratio_eq, d_Ratio_str, d_Ratio_less, d_Ratio_over, d_added, d_digits_of, d_read_ratio, d_Plan_init, d_Plan_eq, d_Plan_entries, d_Plan_lots, d_plan_lines, d_read_view, d_read_plan, d_checked, d_l_pool, d_l_draw, d_l_same, d_l_event, d_l_less, d_l_entries, d_l_text, d_l_line, d_l_digits, d_l_read, d_l_good, d_l_bad, d_l_near, d_l_word, d_l_changed, d_law]
def fa : List He.Fa := [
  .glo "_wall",
  .glo "added",
  .glo "digits_of",
  .glo "read_ratio",
  .glo "plan_lines",
  .glo "read_view",
  .glo "read_plan",
  .glo "checked",
  .glo "_law_pool",
  .glo "_law_draw",
  .glo "_law_same",
  .glo "_law_event",
  .glo "_law_less",
  .glo "_law_entries",
  .glo "_law_text",
  .glo "_law_line",
  .glo "_law_digits",
  .glo "_law_read",
  .glo "_law_good",
  .glo "_law_bad",
  .glo "_law_near",
  .glo "_law_word",
  .glo "_law_changed",
  .glo "law",
  .glo "LossError",
  .exc "LossError",
  .glo "BadText",
  .glo "BadRatio",
  .exc "BadRatio",
  .glo "BadPlan",
  .glo "BadPaper",
  .glo "NoShare",
  .glo "NoPlan",
  .glo "TooLarge",
  .glo "Ratio",
  .cls "Ratio",
  .mkr "Ratio",
  .noat "Ratio" "num",
  .noat "Ratio" "den",
  .meth "Ratio" "__add__",
  .meth "Ratio" "__sub__",
  .meth "Ratio" "__mul__",
  .meth "Ratio" "__eq__",
  .meth "Ratio" "__str__",
  .meth "Ratio" "less",
  .meth "Ratio" "over",
  .glo "Plan",
  .cls "Plan",
  .mkr "Plan",
  .noat "Plan" "table",
  .meth "Plan" "__eq__",
  .meth "Plan" "entries",
  .meth "Plan" "lots",
  .free "ValueError",
  .free "int",
  .free "tuple",
  .free "enumerate",
  .free "isinstance",
  .free "abs",
  .free "range",
  .free "len",
  .free "list",
  .free "bool",
  .free "str",
  .free "sum",
  .free "all",
  .free "super",
  .free "any",
  .int "MOST_DIGITS" 60,
  .glo "EVENTS"]
def exs : List (PySem.W.Frag → Bool) := [
  fun K => eqO (PySem.W.findIn K (.ref (ga K "Ratio")) "__class__") (some (some (.builtin "object.__class__"))),
  fun K => PySem.W.notFirst K (ga K "Ratio") (.ref (ga K "Ratio")),
  fun K => eqO (PySem.W.findIn K (.ref (ga K "Ratio")) "__ne__") (some (some (.builtin "object.__ne__"))),
  fun K => decide (PySem.W.mroIn K (ga K "Ratio") (.type "object") = some true),
  fun K => decide (PySem.W.kitOne K (.ref (ga K "Ratio")) (.type "tuple") = some false),
  fun K => decide (PySem.W.kitOne K (.ref (ga K "Ratio")) (.type "list") = some false),
  fun K => decide (PySem.W.kitOne K (.ref (ga K "Ratio")) (.type "bool") = some false),
  fun K => decide (PySem.W.kitOne K (.ref (ga K "Ratio")) (.type "int") = some false),
  fun K => decide (PySem.W.kitOne K (.ref (ga K "Ratio")) (.type "str") = some false),
  fun K => decide (PySem.W.kitOne K (.ref (ga K "Ratio")) (.ref (ga K "Ratio")) = some true),
  fun K => decide (PySem.W.kitOne K (.ref (ga K "Ratio")) (.ref (ga K "Plan")) = some false),
  fun K => eqO (PySem.W.findIn K (.ref (ga K "Ratio")) "__format__") (some (some (.builtin "object.__format__"))),
  fun K => PySem.W.selfFirst K (ga K "Ratio"),
  fun K => eqO (PySem.W.findIn K (.ref (ga K "Plan")) "__class__") (some (some (.builtin "object.__class__"))),
  fun K => PySem.W.notFirst K (ga K "Plan") (.ref (ga K "Plan")),
  fun K => eqO (PySem.W.findIn K (.ref (ga K "Plan")) "__ne__") (some (some (.builtin "object.__ne__"))),
  fun K => decide (PySem.W.mroIn K (ga K "Plan") (.type "object") = some true),
  fun K => decide (PySem.W.kitOne K (.ref (ga K "Plan")) (.type "tuple") = some false),
  fun K => decide (PySem.W.kitOne K (.ref (ga K "Plan")) (.type "list") = some false),
  fun K => decide (PySem.W.kitOne K (.ref (ga K "Plan")) (.type "bool") = some false),
  fun K => decide (PySem.W.kitOne K (.ref (ga K "Plan")) (.type "int") = some false),
  fun K => decide (PySem.W.kitOne K (.ref (ga K "Plan")) (.type "str") = some false),
  fun K => decide (PySem.W.kitOne K (.ref (ga K "Plan")) (.ref (ga K "Ratio")) = some false),
  fun K => decide (PySem.W.kitOne K (.ref (ga K "Plan")) (.ref (ga K "Plan")) = some true),
  fun K => eqO (PySem.W.specialIn K (.builtin "object.__class__") "__get__") (some (some (.builtin "getset_descriptor.__get__"))),
  fun K => decide (PySem.W.takesIn K (.builtin "object.__class__") = some true),
  fun K => excB K (ga K "LossError"),
  fun K => decide (PySem.W.exmOne K (.ref (ga K "LossError")) (.ref (ga K "LossError")) = some true),
  fun K => decide (PySem.W.kitOne K (.ref (ga K "LossError")) (.ref (ga K "LossError")) = some true),
  fun K => decide (PySem.W.exmOne K (.ref (ga K "LossError")) (.ref (ga K "BadText")) = some false),
  fun K => decide (PySem.W.kitOne K (.ref (ga K "LossError")) (.ref (ga K "BadText")) = some false),
  fun K => decide (PySem.W.exmOne K (.ref (ga K "LossError")) (.ref (ga K "BadRatio")) = some false),
  fun K => decide (PySem.W.kitOne K (.ref (ga K "LossError")) (.ref (ga K "BadRatio")) = some false),
  fun K => decide (PySem.W.exmOne K (.ref (ga K "LossError")) (.ref (ga K "BadPlan")) = some false),
  fun K => decide (PySem.W.kitOne K (.ref (ga K "LossError")) (.ref (ga K "BadPlan")) = some false),
  fun K => decide (PySem.W.exmOne K (.ref (ga K "LossError")) (.ref (ga K "BadPaper")) = some false),
  fun K => decide (PySem.W.kitOne K (.ref (ga K "LossError")) (.ref (ga K "BadPaper")) = some false),
  fun K => decide (PySem.W.exmOne K (.ref (ga K "LossError")) (.ref (ga K "NoShare")) = some false),
  fun K => decide (PySem.W.kitOne K (.ref (ga K "LossError")) (.ref (ga K "NoShare")) = some false),
  fun K => decide (PySem.W.exmOne K (.ref (ga K "LossError")) (.ref (ga K "NoPlan")) = some false),
  fun K => decide (PySem.W.kitOne K (.ref (ga K "LossError")) (.ref (ga K "NoPlan")) = some false),
  fun K => decide (PySem.W.exmOne K (.ref (ga K "LossError")) (.ref (ga K "TooLarge")) = some false),
  fun K => decide (PySem.W.kitOne K (.ref (ga K "LossError")) (.ref (ga K "TooLarge")) = some false),
  fun K => decide (PySem.W.kitOne K (.ref (ga K "LossError")) (.type "ValueError") = some true),
  fun K => excB K (ga K "BadText"),
  fun K => decide (PySem.W.exmOne K (.ref (ga K "BadText")) (.ref (ga K "LossError")) = some true),
  fun K => decide (PySem.W.kitOne K (.ref (ga K "BadText")) (.ref (ga K "LossError")) = some true),
  fun K => decide (PySem.W.exmOne K (.ref (ga K "BadText")) (.ref (ga K "BadText")) = some true),
  fun K => decide (PySem.W.kitOne K (.ref (ga K "BadText")) (.ref (ga K "BadText")) = some true),
  fun K => decide (PySem.W.exmOne K (.ref (ga K "BadText")) (.ref (ga K "BadRatio")) = some false),
  fun K => decide (PySem.W.kitOne K (.ref (ga K "BadText")) (.ref (ga K "BadRatio")) = some false),
  fun K => decide (PySem.W.exmOne K (.ref (ga K "BadText")) (.ref (ga K "BadPlan")) = some false),
  fun K => decide (PySem.W.kitOne K (.ref (ga K "BadText")) (.ref (ga K "BadPlan")) = some false),
  fun K => decide (PySem.W.exmOne K (.ref (ga K "BadText")) (.ref (ga K "BadPaper")) = some false),
  fun K => decide (PySem.W.kitOne K (.ref (ga K "BadText")) (.ref (ga K "BadPaper")) = some false),
  fun K => decide (PySem.W.exmOne K (.ref (ga K "BadText")) (.ref (ga K "NoShare")) = some false),
  fun K => decide (PySem.W.kitOne K (.ref (ga K "BadText")) (.ref (ga K "NoShare")) = some false),
  fun K => decide (PySem.W.exmOne K (.ref (ga K "BadText")) (.ref (ga K "NoPlan")) = some false),
  fun K => decide (PySem.W.kitOne K (.ref (ga K "BadText")) (.ref (ga K "NoPlan")) = some false),
  fun K => decide (PySem.W.exmOne K (.ref (ga K "BadText")) (.ref (ga K "TooLarge")) = some false),
  fun K => decide (PySem.W.kitOne K (.ref (ga K "BadText")) (.ref (ga K "TooLarge")) = some false),
  fun K => decide (PySem.W.kitOne K (.ref (ga K "BadText")) (.type "ValueError") = some true),
  fun K => excB K (ga K "BadRatio"),
  fun K => decide (PySem.W.exmOne K (.ref (ga K "BadRatio")) (.ref (ga K "LossError")) = some true),
  fun K => decide (PySem.W.kitOne K (.ref (ga K "BadRatio")) (.ref (ga K "LossError")) = some true),
  fun K => decide (PySem.W.exmOne K (.ref (ga K "BadRatio")) (.ref (ga K "BadText")) = some false),
  fun K => decide (PySem.W.kitOne K (.ref (ga K "BadRatio")) (.ref (ga K "BadText")) = some false),
  fun K => decide (PySem.W.exmOne K (.ref (ga K "BadRatio")) (.ref (ga K "BadRatio")) = some true),
  fun K => decide (PySem.W.kitOne K (.ref (ga K "BadRatio")) (.ref (ga K "BadRatio")) = some true),
  fun K => decide (PySem.W.exmOne K (.ref (ga K "BadRatio")) (.ref (ga K "BadPlan")) = some false),
  fun K => decide (PySem.W.kitOne K (.ref (ga K "BadRatio")) (.ref (ga K "BadPlan")) = some false),
  fun K => decide (PySem.W.exmOne K (.ref (ga K "BadRatio")) (.ref (ga K "BadPaper")) = some false),
  fun K => decide (PySem.W.kitOne K (.ref (ga K "BadRatio")) (.ref (ga K "BadPaper")) = some false),
  fun K => decide (PySem.W.exmOne K (.ref (ga K "BadRatio")) (.ref (ga K "NoShare")) = some false),
  fun K => decide (PySem.W.kitOne K (.ref (ga K "BadRatio")) (.ref (ga K "NoShare")) = some false),
  fun K => decide (PySem.W.exmOne K (.ref (ga K "BadRatio")) (.ref (ga K "NoPlan")) = some false),
  fun K => decide (PySem.W.kitOne K (.ref (ga K "BadRatio")) (.ref (ga K "NoPlan")) = some false),
  fun K => decide (PySem.W.exmOne K (.ref (ga K "BadRatio")) (.ref (ga K "TooLarge")) = some false),
  fun K => decide (PySem.W.kitOne K (.ref (ga K "BadRatio")) (.ref (ga K "TooLarge")) = some false),
  fun K => decide (PySem.W.kitOne K (.ref (ga K "BadRatio")) (.type "ValueError") = some true),
  fun K => excB K (ga K "BadPlan"),
  fun K => decide (PySem.W.exmOne K (.ref (ga K "BadPlan")) (.ref (ga K "LossError")) = some true),
  fun K => decide (PySem.W.kitOne K (.ref (ga K "BadPlan")) (.ref (ga K "LossError")) = some true),
  fun K => decide (PySem.W.exmOne K (.ref (ga K "BadPlan")) (.ref (ga K "BadText")) = some false),
  fun K => decide (PySem.W.kitOne K (.ref (ga K "BadPlan")) (.ref (ga K "BadText")) = some false),
  fun K => decide (PySem.W.exmOne K (.ref (ga K "BadPlan")) (.ref (ga K "BadRatio")) = some false),
  fun K => decide (PySem.W.kitOne K (.ref (ga K "BadPlan")) (.ref (ga K "BadRatio")) = some false),
  fun K => decide (PySem.W.exmOne K (.ref (ga K "BadPlan")) (.ref (ga K "BadPlan")) = some true),
  fun K => decide (PySem.W.kitOne K (.ref (ga K "BadPlan")) (.ref (ga K "BadPlan")) = some true),
  fun K => decide (PySem.W.exmOne K (.ref (ga K "BadPlan")) (.ref (ga K "BadPaper")) = some false),
  fun K => decide (PySem.W.kitOne K (.ref (ga K "BadPlan")) (.ref (ga K "BadPaper")) = some false),
  fun K => decide (PySem.W.exmOne K (.ref (ga K "BadPlan")) (.ref (ga K "NoShare")) = some false),
  fun K => decide (PySem.W.kitOne K (.ref (ga K "BadPlan")) (.ref (ga K "NoShare")) = some false),
  fun K => decide (PySem.W.exmOne K (.ref (ga K "BadPlan")) (.ref (ga K "NoPlan")) = some false),
  fun K => decide (PySem.W.kitOne K (.ref (ga K "BadPlan")) (.ref (ga K "NoPlan")) = some false),
  fun K => decide (PySem.W.exmOne K (.ref (ga K "BadPlan")) (.ref (ga K "TooLarge")) = some false),
  fun K => decide (PySem.W.kitOne K (.ref (ga K "BadPlan")) (.ref (ga K "TooLarge")) = some false),
  fun K => decide (PySem.W.kitOne K (.ref (ga K "BadPlan")) (.type "ValueError") = some true),
  fun K => excB K (ga K "BadPaper"),
  fun K => decide (PySem.W.exmOne K (.ref (ga K "BadPaper")) (.ref (ga K "LossError")) = some true),
  fun K => decide (PySem.W.kitOne K (.ref (ga K "BadPaper")) (.ref (ga K "LossError")) = some true),
  fun K => decide (PySem.W.exmOne K (.ref (ga K "BadPaper")) (.ref (ga K "BadText")) = some false),
  fun K => decide (PySem.W.kitOne K (.ref (ga K "BadPaper")) (.ref (ga K "BadText")) = some false),
  fun K => decide (PySem.W.exmOne K (.ref (ga K "BadPaper")) (.ref (ga K "BadRatio")) = some false),
  fun K => decide (PySem.W.kitOne K (.ref (ga K "BadPaper")) (.ref (ga K "BadRatio")) = some false),
  fun K => decide (PySem.W.exmOne K (.ref (ga K "BadPaper")) (.ref (ga K "BadPlan")) = some false),
  fun K => decide (PySem.W.kitOne K (.ref (ga K "BadPaper")) (.ref (ga K "BadPlan")) = some false),
  fun K => decide (PySem.W.exmOne K (.ref (ga K "BadPaper")) (.ref (ga K "BadPaper")) = some true),
  fun K => decide (PySem.W.kitOne K (.ref (ga K "BadPaper")) (.ref (ga K "BadPaper")) = some true),
  fun K => decide (PySem.W.exmOne K (.ref (ga K "BadPaper")) (.ref (ga K "NoShare")) = some false),
  fun K => decide (PySem.W.kitOne K (.ref (ga K "BadPaper")) (.ref (ga K "NoShare")) = some false),
  fun K => decide (PySem.W.exmOne K (.ref (ga K "BadPaper")) (.ref (ga K "NoPlan")) = some false),
  fun K => decide (PySem.W.kitOne K (.ref (ga K "BadPaper")) (.ref (ga K "NoPlan")) = some false),
  fun K => decide (PySem.W.exmOne K (.ref (ga K "BadPaper")) (.ref (ga K "TooLarge")) = some false),
  fun K => decide (PySem.W.kitOne K (.ref (ga K "BadPaper")) (.ref (ga K "TooLarge")) = some false),
  fun K => decide (PySem.W.kitOne K (.ref (ga K "BadPaper")) (.type "ValueError") = some true),
  fun K => excB K (ga K "NoShare"),
  fun K => decide (PySem.W.exmOne K (.ref (ga K "NoShare")) (.ref (ga K "LossError")) = some true),
  fun K => decide (PySem.W.kitOne K (.ref (ga K "NoShare")) (.ref (ga K "LossError")) = some true),
  fun K => decide (PySem.W.exmOne K (.ref (ga K "NoShare")) (.ref (ga K "BadText")) = some false),
  fun K => decide (PySem.W.kitOne K (.ref (ga K "NoShare")) (.ref (ga K "BadText")) = some false),
  fun K => decide (PySem.W.exmOne K (.ref (ga K "NoShare")) (.ref (ga K "BadRatio")) = some false),
  fun K => decide (PySem.W.kitOne K (.ref (ga K "NoShare")) (.ref (ga K "BadRatio")) = some false),
  fun K => decide (PySem.W.exmOne K (.ref (ga K "NoShare")) (.ref (ga K "BadPlan")) = some false),
  fun K => decide (PySem.W.kitOne K (.ref (ga K "NoShare")) (.ref (ga K "BadPlan")) = some false),
  fun K => decide (PySem.W.exmOne K (.ref (ga K "NoShare")) (.ref (ga K "BadPaper")) = some false),
  fun K => decide (PySem.W.kitOne K (.ref (ga K "NoShare")) (.ref (ga K "BadPaper")) = some false),
  fun K => decide (PySem.W.exmOne K (.ref (ga K "NoShare")) (.ref (ga K "NoShare")) = some true),
  fun K => decide (PySem.W.kitOne K (.ref (ga K "NoShare")) (.ref (ga K "NoShare")) = some true),
  fun K => decide (PySem.W.exmOne K (.ref (ga K "NoShare")) (.ref (ga K "NoPlan")) = some false),
  fun K => decide (PySem.W.kitOne K (.ref (ga K "NoShare")) (.ref (ga K "NoPlan")) = some false),
  fun K => decide (PySem.W.exmOne K (.ref (ga K "NoShare")) (.ref (ga K "TooLarge")) = some false),
  fun K => decide (PySem.W.kitOne K (.ref (ga K "NoShare")) (.ref (ga K "TooLarge")) = some false),
  fun K => decide (PySem.W.kitOne K (.ref (ga K "NoShare")) (.type "ValueError") = some true),
  fun K => excB K (ga K "NoPlan"),
  fun K => decide (PySem.W.exmOne K (.ref (ga K "NoPlan")) (.ref (ga K "LossError")) = some true),
  fun K => decide (PySem.W.kitOne K (.ref (ga K "NoPlan")) (.ref (ga K "LossError")) = some true),
  fun K => decide (PySem.W.exmOne K (.ref (ga K "NoPlan")) (.ref (ga K "BadText")) = some false),
  fun K => decide (PySem.W.kitOne K (.ref (ga K "NoPlan")) (.ref (ga K "BadText")) = some false),
  fun K => decide (PySem.W.exmOne K (.ref (ga K "NoPlan")) (.ref (ga K "BadRatio")) = some false),
  fun K => decide (PySem.W.kitOne K (.ref (ga K "NoPlan")) (.ref (ga K "BadRatio")) = some false),
  fun K => decide (PySem.W.exmOne K (.ref (ga K "NoPlan")) (.ref (ga K "BadPlan")) = some false),
  fun K => decide (PySem.W.kitOne K (.ref (ga K "NoPlan")) (.ref (ga K "BadPlan")) = some false),
  fun K => decide (PySem.W.exmOne K (.ref (ga K "NoPlan")) (.ref (ga K "BadPaper")) = some false),
  fun K => decide (PySem.W.kitOne K (.ref (ga K "NoPlan")) (.ref (ga K "BadPaper")) = some false),
  fun K => decide (PySem.W.exmOne K (.ref (ga K "NoPlan")) (.ref (ga K "NoShare")) = some false),
  fun K => decide (PySem.W.kitOne K (.ref (ga K "NoPlan")) (.ref (ga K "NoShare")) = some false),
  fun K => decide (PySem.W.exmOne K (.ref (ga K "NoPlan")) (.ref (ga K "NoPlan")) = some true),
  fun K => decide (PySem.W.kitOne K (.ref (ga K "NoPlan")) (.ref (ga K "NoPlan")) = some true),
  fun K => decide (PySem.W.exmOne K (.ref (ga K "NoPlan")) (.ref (ga K "TooLarge")) = some false),
  fun K => decide (PySem.W.kitOne K (.ref (ga K "NoPlan")) (.ref (ga K "TooLarge")) = some false),
  fun K => decide (PySem.W.kitOne K (.ref (ga K "NoPlan")) (.type "ValueError") = some true),
  fun K => excB K (ga K "TooLarge"),
  fun K => decide (PySem.W.exmOne K (.ref (ga K "TooLarge")) (.ref (ga K "LossError")) = some true),
  fun K => decide (PySem.W.kitOne K (.ref (ga K "TooLarge")) (.ref (ga K "LossError")) = some true),
  fun K => decide (PySem.W.exmOne K (.ref (ga K "TooLarge")) (.ref (ga K "BadText")) = some false),
  fun K => decide (PySem.W.kitOne K (.ref (ga K "TooLarge")) (.ref (ga K "BadText")) = some false),
  fun K => decide (PySem.W.exmOne K (.ref (ga K "TooLarge")) (.ref (ga K "BadRatio")) = some false),
  fun K => decide (PySem.W.kitOne K (.ref (ga K "TooLarge")) (.ref (ga K "BadRatio")) = some false),
  fun K => decide (PySem.W.exmOne K (.ref (ga K "TooLarge")) (.ref (ga K "BadPlan")) = some false),
  fun K => decide (PySem.W.kitOne K (.ref (ga K "TooLarge")) (.ref (ga K "BadPlan")) = some false),
  fun K => decide (PySem.W.exmOne K (.ref (ga K "TooLarge")) (.ref (ga K "BadPaper")) = some false),
  fun K => decide (PySem.W.kitOne K (.ref (ga K "TooLarge")) (.ref (ga K "BadPaper")) = some false),
  fun K => decide (PySem.W.exmOne K (.ref (ga K "TooLarge")) (.ref (ga K "NoShare")) = some false),
  fun K => decide (PySem.W.kitOne K (.ref (ga K "TooLarge")) (.ref (ga K "NoShare")) = some false),
  fun K => decide (PySem.W.exmOne K (.ref (ga K "TooLarge")) (.ref (ga K "NoPlan")) = some false),
  fun K => decide (PySem.W.kitOne K (.ref (ga K "TooLarge")) (.ref (ga K "NoPlan")) = some false),
  fun K => decide (PySem.W.exmOne K (.ref (ga K "TooLarge")) (.ref (ga K "TooLarge")) = some true),
  fun K => decide (PySem.W.kitOne K (.ref (ga K "TooLarge")) (.ref (ga K "TooLarge")) = some true),
  fun K => decide (PySem.W.kitOne K (.ref (ga K "TooLarge")) (.type "ValueError") = some true),
  fun K => He.valsB K (ga K "EVENTS") [("shown", .int 1), ("asked", .int 2), ("did", .int 1)],
  fun K => SupX.supB R.prog.main.file K (ga K "BadText") "at",
  fun K => L2.xfB K (ga K "BadText"),
  fun K => eqO (PySem.W.findIn K (.ref (ga K "BadText")) "at") (some none),
  fun K => SupX.supB R.prog.main.file K (ga K "BadPlan") "at",
  fun K => L2.xfB K (ga K "BadPlan"),
  fun K => eqO (PySem.W.findIn K (.ref (ga K "BadPlan")) "at") (some none),
  fun K => SupX.supB R.prog.main.file K (ga K "BadPaper") "at",
  fun K => L2.xfB K (ga K "BadPaper"),
  fun K => eqO (PySem.W.findIn K (.ref (ga K "BadPaper")) "at") (some none),
  fun K => SupX.supB R.prog.main.file K (ga K "NoShare") "what",
  fun K => L2.xfB K (ga K "NoShare"),
  fun K => eqO (PySem.W.findIn K (.ref (ga K "NoShare")) "what") (some none),
  fun K => SupX.supB R.prog.main.file K (ga K "NoPlan") "least",
  fun K => L2.xfB K (ga K "NoPlan"),
  fun K => eqO (PySem.W.findIn K (.ref (ga K "NoPlan")) "least") (some none),
  fun K => SupX.supB R.prog.main.file K (ga K "TooLarge") "what",
  fun K => L2.xfB K (ga K "TooLarge"),
  fun K => eqO (PySem.W.findIn K (.ref (ga K "TooLarge")) "what") (some none)]
def exB (K : PySem.W.Frag) : Bool := exs.all fun f => f K
theorem exB_at {K : PySem.W.Frag} (h : exB K = true) (i : Nat) {f : PySem.W.Frag → Bool} (e : exs[i]? = some f) : f K = true := List.all_eq_true.mp h f (List.mem_of_getElem? e)
abbrev s_BadText_init : Stmt := inClass (top 3) 0
abbrev s_BadPlan_init : Stmt := inClass (top 5) 0
abbrev s_BadPaper_init : Stmt := inClass (top 6) 0
abbrev s_NoShare_init : Stmt := inClass (top 7) 0
abbrev s_NoPlan_init : Stmt := inClass (top 8) 0
abbrev s_TooLarge_init : Stmt := inClass (top 9) 0
def zs : List Str := ["BadText", "BadPlan", "BadPaper", "NoShare", "NoPlan", "TooLarge"]
def zv : List SupX.FnZ := [some ("__init__", "BadText.__init__", defArgs s_BadText_init, .stmts (defBody s_BadText_init), defScope s_BadText_init, mainGlobals, ["__class__"], builtinsNs), some ("__init__", "BadPlan.__init__", defArgs s_BadPlan_init, .stmts (defBody s_BadPlan_init), defScope s_BadPlan_init, mainGlobals, ["__class__"], builtinsNs), some ("__init__", "BadPaper.__init__", defArgs s_BadPaper_init, .stmts (defBody s_BadPaper_init), defScope s_BadPaper_init, mainGlobals, ["__class__"], builtinsNs), some ("__init__", "NoShare.__init__", defArgs s_NoShare_init, .stmts (defBody s_NoShare_init), defScope s_NoShare_init, mainGlobals, ["__class__"], builtinsNs), some ("__init__", "NoPlan.__init__", defArgs s_NoPlan_init, .stmts (defBody s_NoPlan_init), defScope s_NoPlan_init, mainGlobals, ["__class__"], builtinsNs), some ("__init__", "TooLarge.__init__", defArgs s_TooLarge_init, .stmts (defBody s_TooLarge_init), defScope s_TooLarge_init, mainGlobals, ["__class__"], builtinsNs)]
def tabs : List He.Tab := [((fun K => ga K "EVENTS"), ["shown", "asked", "did"])]
/-- what the walk asks of the top -/
structure Txt (K : PySem.W.Frag) (mg : Str → Option Value) : Prop where
  d__wall : ∃ fd, FunD K "_wall" "_wall" (defArgs s__wall) (defBody s__wall) (defScope s__wall) (List.map (He.Dv.v K) []) [] (ga K "_wall") fd
  d_Ratio_init : ∃ fd, FunD K "__init__" "Ratio.__init__" (defArgs s_Ratio_init) (defBody s_Ratio_init) (defScope s_Ratio_init) (List.map (He.Dv.v K) [.int 1]) [] (ma K (ga K "Ratio") "__init__") fd
  d_Ratio_add : ∃ fd, FunD K "__add__" "Ratio.__add__" (defArgs s_Ratio_add) (defBody s_Ratio_add) (defScope s_Ratio_add) (List.map (He.Dv.v K) []) [] (ma K (ga K "Ratio") "__add__") fd
  d_Ratio_sub : ∃ fd, FunD K "__sub__" "Ratio.__sub__" (defArgs s_Ratio_sub) (defBody s_Ratio_sub) (defScope s_Ratio_sub) (List.map (He.Dv.v K) []) [] (ma K (ga K "Ratio") "__sub__") fd
  d_Ratio_mul : ∃ fd, FunD K "__mul__" "Ratio.__mul__" (defArgs s_Ratio_mul) (defBody s_Ratio_mul) (defScope s_Ratio_mul) (List.map (He.Dv.v K) []) [] (ma K (ga K "Ratio") "__mul__") fd
  d_Ratio_eq : ∃ fd, FunD K "__eq__" "Ratio.__eq__" (defArgs s_Ratio_eq) (defBody s_Ratio_eq) (defScope s_Ratio_eq) (List.map (He.Dv.v K) []) [] (ma K (ga K "Ratio") "__eq__") fd
  d_Ratio_str : ∃ fd, FunD K "__str__" "Ratio.__str__" (defArgs s_Ratio_str) (defBody s_Ratio_str) (defScope s_Ratio_str) (List.map (He.Dv.v K) []) [] (ma K (ga K "Ratio") "__str__") fd
  d_Ratio_less : ∃ fd, FunD K "less" "Ratio.less" (defArgs s_Ratio_less) (defBody s_Ratio_less) (defScope s_Ratio_less) (List.map (He.Dv.v K) []) [] (ma K (ga K "Ratio") "less") fd
  d_Ratio_over : ∃ fd, FunD K "over" "Ratio.over" (defArgs s_Ratio_over) (defBody s_Ratio_over) (defScope s_Ratio_over) (List.map (He.Dv.v K) []) [] (ma K (ga K "Ratio") "over") fd
  d_added : ∃ fd, FunD K "added" "added" (defArgs s_added) (defBody s_added) (defScope s_added) (List.map (He.Dv.v K) []) [] (ga K "added") fd
  d_digits_of : ∃ fd, FunD K "digits_of" "digits_of" (defArgs s_digits_of) (defBody s_digits_of) (defScope s_digits_of) (List.map (He.Dv.v K) []) [] (ga K "digits_of") fd
  d_read_ratio : ∃ fd, FunD K "read_ratio" "read_ratio" (defArgs s_read_ratio) (defBody s_read_ratio) (defScope s_read_ratio) (List.map (He.Dv.v K) []) [] (ga K "read_ratio") fd
  d_Plan_init : ∃ fd, FunD K "__init__" "Plan.__init__" (defArgs s_Plan_init) (defBody s_Plan_init) (defScope s_Plan_init) (List.map (He.Dv.v K) []) [] (ma K (ga K "Plan") "__init__") fd
  d_Plan_eq : ∃ fd, FunD K "__eq__" "Plan.__eq__" (defArgs s_Plan_eq) (defBody s_Plan_eq) (defScope s_Plan_eq) (List.map (He.Dv.v K) []) [] (ma K (ga K "Plan") "__eq__") fd
  d_Plan_entries : ∃ fd, FunD K "entries" "Plan.entries" (defArgs s_Plan_entries) (defBody s_Plan_entries) (defScope s_Plan_entries) (List.map (He.Dv.v K) []) [] (ma K (ga K "Plan") "entries") fd
  d_Plan_lots : ∃ fd, FunD K "lots" "Plan.lots" (defArgs s_Plan_lots) (defBody s_Plan_lots) (defScope s_Plan_lots) (List.map (He.Dv.v K) []) [] (ma K (ga K "Plan") "lots") fd
  d_plan_lines : ∃ fd, FunD K "plan_lines" "plan_lines" (defArgs s_plan_lines) (defBody s_plan_lines) (defScope s_plan_lines) (List.map (He.Dv.v K) []) [] (ga K "plan_lines") fd
  d_read_view : ∃ fd, FunD K "read_view" "read_view" (defArgs s_read_view) (defBody s_read_view) (defScope s_read_view) (List.map (He.Dv.v K) []) [] (ga K "read_view") fd
  d_read_plan : ∃ fd, FunD K "read_plan" "read_plan" (defArgs s_read_plan) (defBody s_read_plan) (defScope s_read_plan) (List.map (He.Dv.v K) []) [] (ga K "read_plan") fd
  d_checked : ∃ fd, FunD K "checked" "checked" (defArgs s_checked) (defBody s_checked) (defScope s_checked) (List.map (He.Dv.v K) []) [] (ga K "checked") fd
  d_l_pool : ∃ fd, FunD K "_law_pool" "_law_pool" (defArgs s_l_pool) (defBody s_l_pool) (defScope s_l_pool) (List.map (He.Dv.v K) []) [] (ga K "_law_pool") fd
  d_l_draw : ∃ fd, FunD K "_law_draw" "_law_draw" (defArgs s_l_draw) (defBody s_l_draw) (defScope s_l_draw) (List.map (He.Dv.v K) []) [] (ga K "_law_draw") fd
  d_l_same : ∃ fd, FunD K "_law_same" "_law_same" (defArgs s_l_same) (defBody s_l_same) (defScope s_l_same) (List.map (He.Dv.v K) []) [] (ga K "_law_same") fd
  d_l_event : ∃ fd, FunD K "_law_event" "_law_event" (defArgs s_l_event) (defBody s_l_event) (defScope s_l_event) (List.map (He.Dv.v K) []) [] (ga K "_law_event") fd
  d_l_less : ∃ fd, FunD K "_law_less" "_law_less" (defArgs s_l_less) (defBody s_l_less) (defScope s_l_less) (List.map (He.Dv.v K) []) [] (ga K "_law_less") fd
  d_l_entries : ∃ fd, FunD K "_law_entries" "_law_entries" (defArgs s_l_entries) (defBody s_l_entries) (defScope s_l_entries) (List.map (He.Dv.v K) []) [] (ga K "_law_entries") fd
  d_l_text : ∃ fd, FunD K "_law_text" "_law_text" (defArgs s_l_text) (defBody s_l_text) (defScope s_l_text) (List.map (He.Dv.v K) []) [] (ga K "_law_text") fd
  d_l_line : ∃ fd, FunD K "_law_line" "_law_line" (defArgs s_l_line) (defBody s_l_line) (defScope s_l_line) (List.map (He.Dv.v K) []) [] (ga K "_law_line") fd
  d_l_digits : ∃ fd, FunD K "_law_digits" "_law_digits" (defArgs s_l_digits) (defBody s_l_digits) (defScope s_l_digits) (List.map (He.Dv.v K) []) [] (ga K "_law_digits") fd
  d_l_read : ∃ fd, FunD K "_law_read" "_law_read" (defArgs s_l_read) (defBody s_l_read) (defScope s_l_read) (List.map (He.Dv.v K) []) [] (ga K "_law_read") fd
  d_l_good : ∃ fd, FunD K "_law_good" "_law_good" (defArgs s_l_good) (defBody s_l_good) (defScope s_l_good) (List.map (He.Dv.v K) []) [] (ga K "_law_good") fd
  d_l_bad : ∃ fd, FunD K "_law_bad" "_law_bad" (defArgs s_l_bad) (defBody s_l_bad) (defScope s_l_bad) (List.map (He.Dv.v K) []) [] (ga K "_law_bad") fd
  d_l_near : ∃ fd, FunD K "_law_near" "_law_near" (defArgs s_l_near) (defBody s_l_near) (defScope s_l_near) (List.map (He.Dv.v K) []) [] (ga K "_law_near") fd
  d_l_word : ∃ fd, FunD K "_law_word" "_law_word" (defArgs s_l_word) (defBody s_l_word) (defScope s_l_word) (List.map (He.Dv.v K) []) [] (ga K "_law_word") fd
  d_l_changed : ∃ fd, FunD K "_law_changed" "_law_changed" (defArgs s_l_changed) (defBody s_l_changed) (defScope s_l_changed) (List.map (He.Dv.v K) []) [] (ga K "_law_changed") fd
  d_law : ∃ fd, FunD K "law" "law" (defArgs s_law) (defBody s_law) (defScope s_law) (List.map (He.Dv.v K) []) [] (ga K "law") fd
  g__wall : mg "_wall" = some (.ref (ga K "_wall"))
  g_added : mg "added" = some (.ref (ga K "added"))
  g_digits_of : mg "digits_of" = some (.ref (ga K "digits_of"))
  g_read_ratio : mg "read_ratio" = some (.ref (ga K "read_ratio"))
  g_plan_lines : mg "plan_lines" = some (.ref (ga K "plan_lines"))
  g_read_view : mg "read_view" = some (.ref (ga K "read_view"))
  g_read_plan : mg "read_plan" = some (.ref (ga K "read_plan"))
  g_checked : mg "checked" = some (.ref (ga K "checked"))
  g_l_pool : mg "_law_pool" = some (.ref (ga K "_law_pool"))
  g_l_draw : mg "_law_draw" = some (.ref (ga K "_law_draw"))
  g_l_same : mg "_law_same" = some (.ref (ga K "_law_same"))
  g_l_event : mg "_law_event" = some (.ref (ga K "_law_event"))
  g_l_less : mg "_law_less" = some (.ref (ga K "_law_less"))
  g_l_entries : mg "_law_entries" = some (.ref (ga K "_law_entries"))
  g_l_text : mg "_law_text" = some (.ref (ga K "_law_text"))
  g_l_line : mg "_law_line" = some (.ref (ga K "_law_line"))
  g_l_digits : mg "_law_digits" = some (.ref (ga K "_law_digits"))
  g_l_read : mg "_law_read" = some (.ref (ga K "_law_read"))
  g_l_good : mg "_law_good" = some (.ref (ga K "_law_good"))
  g_l_bad : mg "_law_bad" = some (.ref (ga K "_law_bad"))
  g_l_near : mg "_law_near" = some (.ref (ga K "_law_near"))
  g_l_word : mg "_law_word" = some (.ref (ga K "_law_word"))
  g_l_changed : mg "_law_changed" = some (.ref (ga K "_law_changed"))
  g_law : mg "law" = some (.ref (ga K "law"))
  g_LossError : mg "LossError" = some (.ref (ga K "LossError"))
  x_LossError : PySem.W.excIn K (ga K "LossError") He.veBase "ValueError.__new__" = true ∧ PySem.W.keepIn K (.ref (ga K "LossError")) = true ∧ PySem.W.subIn K (.ref (ga K "LossError")) (.type "BaseException") = some true ∧ PySem.W.typeIn K (.ref (ga K "LossError")) = some (.type "type")
  g_BadText : mg "BadText" = some (.ref (ga K "BadText"))
  g_BadRatio : mg "BadRatio" = some (.ref (ga K "BadRatio"))
  x_BadRatio : PySem.W.excIn K (ga K "BadRatio") He.veBase "ValueError.__new__" = true ∧ PySem.W.keepIn K (.ref (ga K "BadRatio")) = true ∧ PySem.W.subIn K (.ref (ga K "BadRatio")) (.type "BaseException") = some true ∧ PySem.W.typeIn K (.ref (ga K "BadRatio")) = some (.type "type")
  g_BadPlan : mg "BadPlan" = some (.ref (ga K "BadPlan"))
  g_BadPaper : mg "BadPaper" = some (.ref (ga K "BadPaper"))
  g_NoShare : mg "NoShare" = some (.ref (ga K "NoShare"))
  g_NoPlan : mg "NoPlan" = some (.ref (ga K "NoPlan"))
  g_TooLarge : mg "TooLarge" = some (.ref (ga K "TooLarge"))
  g_Ratio : mg "Ratio" = some (.ref (ga K "Ratio"))
  c_Ratio : Cls K (ga K "Ratio")
  m_Ratio : Mk K (ga K "Ratio") (ma K (ga K "Ratio") "__init__")
  a_Ratio_num : NoAttr K (ga K "Ratio") "num"
  a_Ratio_den : NoAttr K (ga K "Ratio") "den"
  t_Ratio_add : Meth K (ga K "Ratio") "__add__" (ma K (ga K "Ratio") "__add__")
  t_Ratio_sub : Meth K (ga K "Ratio") "__sub__" (ma K (ga K "Ratio") "__sub__")
  t_Ratio_mul : Meth K (ga K "Ratio") "__mul__" (ma K (ga K "Ratio") "__mul__")
  t_Ratio_eq : Meth K (ga K "Ratio") "__eq__" (ma K (ga K "Ratio") "__eq__")
  t_Ratio_str : Meth K (ga K "Ratio") "__str__" (ma K (ga K "Ratio") "__str__")
  t_Ratio_less : Meth K (ga K "Ratio") "less" (ma K (ga K "Ratio") "less")
  t_Ratio_over : Meth K (ga K "Ratio") "over" (ma K (ga K "Ratio") "over")
  g_Plan : mg "Plan" = some (.ref (ga K "Plan"))
  c_Plan : Cls K (ga K "Plan")
  m_Plan : Mk K (ga K "Plan") (ma K (ga K "Plan") "__init__")
  a_Plan_table : NoAttr K (ga K "Plan") "table"
  t_Plan_eq : Meth K (ga K "Plan") "__eq__" (ma K (ga K "Plan") "__eq__")
  t_Plan_entries : Meth K (ga K "Plan") "entries" (ma K (ga K "Plan") "entries")
  t_Plan_lots : Meth K (ga K "Plan") "lots" (ma K (ga K "Plan") "lots")
  f_ValueError : mg "ValueError" = none
  f_int : mg "int" = none
  f_tuple : mg "tuple" = none
  f_enumerate : mg "enumerate" = none
  f_isinstance : mg "isinstance" = none
  f_abs : mg "abs" = none
  f_range : mg "range" = none
  f_len : mg "len" = none
  f_list : mg "list" = none
  f_bool : mg "bool" = none
  f_str : mg "str" = none
  f_sum : mg "sum" = none
  f_all : mg "all" = none
  f_super : mg "super" = none
  f_any : mg "any" = none
  i_MOST_DIGITS : ∃ t, mg "MOST_DIGITS" = some (.int 60 t)
  g_EVENTS : mg "EVENTS" = some (.ref (ga K "EVENTS"))
  oc_Ratio : PySem.W.findIn K (.ref (ga K "Ratio")) "__class__" = some (some (.builtin "object.__class__"))
  nf_Ratio : PySem.W.notFirst K (ga K "Ratio") (.ref (ga K "Ratio")) = true
  ne_Ratio : PySem.W.findIn K (.ref (ga K "Ratio")) "__ne__" = some (some (.builtin "object.__ne__"))
  om_Ratio : PySem.W.mroIn K (ga K "Ratio") (.type "object") = some true
  ki_Ratio_tuple : PySem.W.kitOne K (.ref (ga K "Ratio")) (.type "tuple") = some false
  ki_Ratio_list : PySem.W.kitOne K (.ref (ga K "Ratio")) (.type "list") = some false
  ki_Ratio_bool : PySem.W.kitOne K (.ref (ga K "Ratio")) (.type "bool") = some false
  ki_Ratio_int : PySem.W.kitOne K (.ref (ga K "Ratio")) (.type "int") = some false
  ki_Ratio_str : PySem.W.kitOne K (.ref (ga K "Ratio")) (.type "str") = some false
  ki_Ratio_Ratio : PySem.W.kitOne K (.ref (ga K "Ratio")) (.ref (ga K "Ratio")) = some true
  ki_Ratio_Plan : PySem.W.kitOne K (.ref (ga K "Ratio")) (.ref (ga K "Plan")) = some false
  of_Ratio : PySem.W.findIn K (.ref (ga K "Ratio")) "__format__" = some (some (.builtin "object.__format__"))
  sf_Ratio : PySem.W.selfFirst K (ga K "Ratio") = true
  oc_Plan : PySem.W.findIn K (.ref (ga K "Plan")) "__class__" = some (some (.builtin "object.__class__"))
  nf_Plan : PySem.W.notFirst K (ga K "Plan") (.ref (ga K "Plan")) = true
  ne_Plan : PySem.W.findIn K (.ref (ga K "Plan")) "__ne__" = some (some (.builtin "object.__ne__"))
  om_Plan : PySem.W.mroIn K (ga K "Plan") (.type "object") = some true
  ki_Plan_tuple : PySem.W.kitOne K (.ref (ga K "Plan")) (.type "tuple") = some false
  ki_Plan_list : PySem.W.kitOne K (.ref (ga K "Plan")) (.type "list") = some false
  ki_Plan_bool : PySem.W.kitOne K (.ref (ga K "Plan")) (.type "bool") = some false
  ki_Plan_int : PySem.W.kitOne K (.ref (ga K "Plan")) (.type "int") = some false
  ki_Plan_str : PySem.W.kitOne K (.ref (ga K "Plan")) (.type "str") = some false
  ki_Plan_Ratio : PySem.W.kitOne K (.ref (ga K "Plan")) (.ref (ga K "Ratio")) = some false
  ki_Plan_Plan : PySem.W.kitOne K (.ref (ga K "Plan")) (.ref (ga K "Plan")) = some true
  og : PySem.W.specialIn K (.builtin "object.__class__") "__get__" = some (some (.builtin "getset_descriptor.__get__"))
  ot : PySem.W.takesIn K (.builtin "object.__class__") = some true
  xc_LossError : ExcC K (ga K "LossError")
  em_LossError_LossError : PySem.W.exmOne K (.ref (ga K "LossError")) (.ref (ga K "LossError")) = some true
  ki_LossError_LossError : PySem.W.kitOne K (.ref (ga K "LossError")) (.ref (ga K "LossError")) = some true
  em_LossError_BadText : PySem.W.exmOne K (.ref (ga K "LossError")) (.ref (ga K "BadText")) = some false
  ki_LossError_BadText : PySem.W.kitOne K (.ref (ga K "LossError")) (.ref (ga K "BadText")) = some false
  em_LossError_BadRatio : PySem.W.exmOne K (.ref (ga K "LossError")) (.ref (ga K "BadRatio")) = some false
  ki_LossError_BadRatio : PySem.W.kitOne K (.ref (ga K "LossError")) (.ref (ga K "BadRatio")) = some false
  em_LossError_BadPlan : PySem.W.exmOne K (.ref (ga K "LossError")) (.ref (ga K "BadPlan")) = some false
  ki_LossError_BadPlan : PySem.W.kitOne K (.ref (ga K "LossError")) (.ref (ga K "BadPlan")) = some false
  em_LossError_BadPaper : PySem.W.exmOne K (.ref (ga K "LossError")) (.ref (ga K "BadPaper")) = some false
  ki_LossError_BadPaper : PySem.W.kitOne K (.ref (ga K "LossError")) (.ref (ga K "BadPaper")) = some false
  em_LossError_NoShare : PySem.W.exmOne K (.ref (ga K "LossError")) (.ref (ga K "NoShare")) = some false
  ki_LossError_NoShare : PySem.W.kitOne K (.ref (ga K "LossError")) (.ref (ga K "NoShare")) = some false
  em_LossError_NoPlan : PySem.W.exmOne K (.ref (ga K "LossError")) (.ref (ga K "NoPlan")) = some false
  ki_LossError_NoPlan : PySem.W.kitOne K (.ref (ga K "LossError")) (.ref (ga K "NoPlan")) = some false
  em_LossError_TooLarge : PySem.W.exmOne K (.ref (ga K "LossError")) (.ref (ga K "TooLarge")) = some false
  ki_LossError_TooLarge : PySem.W.kitOne K (.ref (ga K "LossError")) (.ref (ga K "TooLarge")) = some false
  kv_LossError : PySem.W.kitOne K (.ref (ga K "LossError")) (.type "ValueError") = some true
  xc_BadText : ExcC K (ga K "BadText")
  em_BadText_LossError : PySem.W.exmOne K (.ref (ga K "BadText")) (.ref (ga K "LossError")) = some true
  ki_BadText_LossError : PySem.W.kitOne K (.ref (ga K "BadText")) (.ref (ga K "LossError")) = some true
  em_BadText_BadText : PySem.W.exmOne K (.ref (ga K "BadText")) (.ref (ga K "BadText")) = some true
  ki_BadText_BadText : PySem.W.kitOne K (.ref (ga K "BadText")) (.ref (ga K "BadText")) = some true
  em_BadText_BadRatio : PySem.W.exmOne K (.ref (ga K "BadText")) (.ref (ga K "BadRatio")) = some false
  ki_BadText_BadRatio : PySem.W.kitOne K (.ref (ga K "BadText")) (.ref (ga K "BadRatio")) = some false
  em_BadText_BadPlan : PySem.W.exmOne K (.ref (ga K "BadText")) (.ref (ga K "BadPlan")) = some false
  ki_BadText_BadPlan : PySem.W.kitOne K (.ref (ga K "BadText")) (.ref (ga K "BadPlan")) = some false
  em_BadText_BadPaper : PySem.W.exmOne K (.ref (ga K "BadText")) (.ref (ga K "BadPaper")) = some false
  ki_BadText_BadPaper : PySem.W.kitOne K (.ref (ga K "BadText")) (.ref (ga K "BadPaper")) = some false
  em_BadText_NoShare : PySem.W.exmOne K (.ref (ga K "BadText")) (.ref (ga K "NoShare")) = some false
  ki_BadText_NoShare : PySem.W.kitOne K (.ref (ga K "BadText")) (.ref (ga K "NoShare")) = some false
  em_BadText_NoPlan : PySem.W.exmOne K (.ref (ga K "BadText")) (.ref (ga K "NoPlan")) = some false
  ki_BadText_NoPlan : PySem.W.kitOne K (.ref (ga K "BadText")) (.ref (ga K "NoPlan")) = some false
  em_BadText_TooLarge : PySem.W.exmOne K (.ref (ga K "BadText")) (.ref (ga K "TooLarge")) = some false
  ki_BadText_TooLarge : PySem.W.kitOne K (.ref (ga K "BadText")) (.ref (ga K "TooLarge")) = some false
  kv_BadText : PySem.W.kitOne K (.ref (ga K "BadText")) (.type "ValueError") = some true
  xc_BadRatio : ExcC K (ga K "BadRatio")
  em_BadRatio_LossError : PySem.W.exmOne K (.ref (ga K "BadRatio")) (.ref (ga K "LossError")) = some true
  ki_BadRatio_LossError : PySem.W.kitOne K (.ref (ga K "BadRatio")) (.ref (ga K "LossError")) = some true
  em_BadRatio_BadText : PySem.W.exmOne K (.ref (ga K "BadRatio")) (.ref (ga K "BadText")) = some false
  ki_BadRatio_BadText : PySem.W.kitOne K (.ref (ga K "BadRatio")) (.ref (ga K "BadText")) = some false
  em_BadRatio_BadRatio : PySem.W.exmOne K (.ref (ga K "BadRatio")) (.ref (ga K "BadRatio")) = some true
  ki_BadRatio_BadRatio : PySem.W.kitOne K (.ref (ga K "BadRatio")) (.ref (ga K "BadRatio")) = some true
  em_BadRatio_BadPlan : PySem.W.exmOne K (.ref (ga K "BadRatio")) (.ref (ga K "BadPlan")) = some false
  ki_BadRatio_BadPlan : PySem.W.kitOne K (.ref (ga K "BadRatio")) (.ref (ga K "BadPlan")) = some false
  em_BadRatio_BadPaper : PySem.W.exmOne K (.ref (ga K "BadRatio")) (.ref (ga K "BadPaper")) = some false
  ki_BadRatio_BadPaper : PySem.W.kitOne K (.ref (ga K "BadRatio")) (.ref (ga K "BadPaper")) = some false
  em_BadRatio_NoShare : PySem.W.exmOne K (.ref (ga K "BadRatio")) (.ref (ga K "NoShare")) = some false
  ki_BadRatio_NoShare : PySem.W.kitOne K (.ref (ga K "BadRatio")) (.ref (ga K "NoShare")) = some false
  em_BadRatio_NoPlan : PySem.W.exmOne K (.ref (ga K "BadRatio")) (.ref (ga K "NoPlan")) = some false
  ki_BadRatio_NoPlan : PySem.W.kitOne K (.ref (ga K "BadRatio")) (.ref (ga K "NoPlan")) = some false
  em_BadRatio_TooLarge : PySem.W.exmOne K (.ref (ga K "BadRatio")) (.ref (ga K "TooLarge")) = some false
  ki_BadRatio_TooLarge : PySem.W.kitOne K (.ref (ga K "BadRatio")) (.ref (ga K "TooLarge")) = some false
  kv_BadRatio : PySem.W.kitOne K (.ref (ga K "BadRatio")) (.type "ValueError") = some true
  xc_BadPlan : ExcC K (ga K "BadPlan")
  em_BadPlan_LossError : PySem.W.exmOne K (.ref (ga K "BadPlan")) (.ref (ga K "LossError")) = some true
  ki_BadPlan_LossError : PySem.W.kitOne K (.ref (ga K "BadPlan")) (.ref (ga K "LossError")) = some true
  em_BadPlan_BadText : PySem.W.exmOne K (.ref (ga K "BadPlan")) (.ref (ga K "BadText")) = some false
  ki_BadPlan_BadText : PySem.W.kitOne K (.ref (ga K "BadPlan")) (.ref (ga K "BadText")) = some false
  em_BadPlan_BadRatio : PySem.W.exmOne K (.ref (ga K "BadPlan")) (.ref (ga K "BadRatio")) = some false
  ki_BadPlan_BadRatio : PySem.W.kitOne K (.ref (ga K "BadPlan")) (.ref (ga K "BadRatio")) = some false
  em_BadPlan_BadPlan : PySem.W.exmOne K (.ref (ga K "BadPlan")) (.ref (ga K "BadPlan")) = some true
  ki_BadPlan_BadPlan : PySem.W.kitOne K (.ref (ga K "BadPlan")) (.ref (ga K "BadPlan")) = some true
  em_BadPlan_BadPaper : PySem.W.exmOne K (.ref (ga K "BadPlan")) (.ref (ga K "BadPaper")) = some false
  ki_BadPlan_BadPaper : PySem.W.kitOne K (.ref (ga K "BadPlan")) (.ref (ga K "BadPaper")) = some false
  em_BadPlan_NoShare : PySem.W.exmOne K (.ref (ga K "BadPlan")) (.ref (ga K "NoShare")) = some false
  ki_BadPlan_NoShare : PySem.W.kitOne K (.ref (ga K "BadPlan")) (.ref (ga K "NoShare")) = some false
  em_BadPlan_NoPlan : PySem.W.exmOne K (.ref (ga K "BadPlan")) (.ref (ga K "NoPlan")) = some false
  ki_BadPlan_NoPlan : PySem.W.kitOne K (.ref (ga K "BadPlan")) (.ref (ga K "NoPlan")) = some false
  em_BadPlan_TooLarge : PySem.W.exmOne K (.ref (ga K "BadPlan")) (.ref (ga K "TooLarge")) = some false
  ki_BadPlan_TooLarge : PySem.W.kitOne K (.ref (ga K "BadPlan")) (.ref (ga K "TooLarge")) = some false
  kv_BadPlan : PySem.W.kitOne K (.ref (ga K "BadPlan")) (.type "ValueError") = some true
  xc_BadPaper : ExcC K (ga K "BadPaper")
  em_BadPaper_LossError : PySem.W.exmOne K (.ref (ga K "BadPaper")) (.ref (ga K "LossError")) = some true
  ki_BadPaper_LossError : PySem.W.kitOne K (.ref (ga K "BadPaper")) (.ref (ga K "LossError")) = some true
  em_BadPaper_BadText : PySem.W.exmOne K (.ref (ga K "BadPaper")) (.ref (ga K "BadText")) = some false
  ki_BadPaper_BadText : PySem.W.kitOne K (.ref (ga K "BadPaper")) (.ref (ga K "BadText")) = some false
  em_BadPaper_BadRatio : PySem.W.exmOne K (.ref (ga K "BadPaper")) (.ref (ga K "BadRatio")) = some false
  ki_BadPaper_BadRatio : PySem.W.kitOne K (.ref (ga K "BadPaper")) (.ref (ga K "BadRatio")) = some false
  em_BadPaper_BadPlan : PySem.W.exmOne K (.ref (ga K "BadPaper")) (.ref (ga K "BadPlan")) = some false
  ki_BadPaper_BadPlan : PySem.W.kitOne K (.ref (ga K "BadPaper")) (.ref (ga K "BadPlan")) = some false
  em_BadPaper_BadPaper : PySem.W.exmOne K (.ref (ga K "BadPaper")) (.ref (ga K "BadPaper")) = some true
  ki_BadPaper_BadPaper : PySem.W.kitOne K (.ref (ga K "BadPaper")) (.ref (ga K "BadPaper")) = some true
  em_BadPaper_NoShare : PySem.W.exmOne K (.ref (ga K "BadPaper")) (.ref (ga K "NoShare")) = some false
  ki_BadPaper_NoShare : PySem.W.kitOne K (.ref (ga K "BadPaper")) (.ref (ga K "NoShare")) = some false
  em_BadPaper_NoPlan : PySem.W.exmOne K (.ref (ga K "BadPaper")) (.ref (ga K "NoPlan")) = some false
  ki_BadPaper_NoPlan : PySem.W.kitOne K (.ref (ga K "BadPaper")) (.ref (ga K "NoPlan")) = some false
  em_BadPaper_TooLarge : PySem.W.exmOne K (.ref (ga K "BadPaper")) (.ref (ga K "TooLarge")) = some false
  ki_BadPaper_TooLarge : PySem.W.kitOne K (.ref (ga K "BadPaper")) (.ref (ga K "TooLarge")) = some false
  kv_BadPaper : PySem.W.kitOne K (.ref (ga K "BadPaper")) (.type "ValueError") = some true
  xc_NoShare : ExcC K (ga K "NoShare")
  em_NoShare_LossError : PySem.W.exmOne K (.ref (ga K "NoShare")) (.ref (ga K "LossError")) = some true
  ki_NoShare_LossError : PySem.W.kitOne K (.ref (ga K "NoShare")) (.ref (ga K "LossError")) = some true
  em_NoShare_BadText : PySem.W.exmOne K (.ref (ga K "NoShare")) (.ref (ga K "BadText")) = some false
  ki_NoShare_BadText : PySem.W.kitOne K (.ref (ga K "NoShare")) (.ref (ga K "BadText")) = some false
  em_NoShare_BadRatio : PySem.W.exmOne K (.ref (ga K "NoShare")) (.ref (ga K "BadRatio")) = some false
  ki_NoShare_BadRatio : PySem.W.kitOne K (.ref (ga K "NoShare")) (.ref (ga K "BadRatio")) = some false
  em_NoShare_BadPlan : PySem.W.exmOne K (.ref (ga K "NoShare")) (.ref (ga K "BadPlan")) = some false
  ki_NoShare_BadPlan : PySem.W.kitOne K (.ref (ga K "NoShare")) (.ref (ga K "BadPlan")) = some false
  em_NoShare_BadPaper : PySem.W.exmOne K (.ref (ga K "NoShare")) (.ref (ga K "BadPaper")) = some false
  ki_NoShare_BadPaper : PySem.W.kitOne K (.ref (ga K "NoShare")) (.ref (ga K "BadPaper")) = some false
  em_NoShare_NoShare : PySem.W.exmOne K (.ref (ga K "NoShare")) (.ref (ga K "NoShare")) = some true
  ki_NoShare_NoShare : PySem.W.kitOne K (.ref (ga K "NoShare")) (.ref (ga K "NoShare")) = some true
  em_NoShare_NoPlan : PySem.W.exmOne K (.ref (ga K "NoShare")) (.ref (ga K "NoPlan")) = some false
  ki_NoShare_NoPlan : PySem.W.kitOne K (.ref (ga K "NoShare")) (.ref (ga K "NoPlan")) = some false
  em_NoShare_TooLarge : PySem.W.exmOne K (.ref (ga K "NoShare")) (.ref (ga K "TooLarge")) = some false
  ki_NoShare_TooLarge : PySem.W.kitOne K (.ref (ga K "NoShare")) (.ref (ga K "TooLarge")) = some false
  kv_NoShare : PySem.W.kitOne K (.ref (ga K "NoShare")) (.type "ValueError") = some true
  xc_NoPlan : ExcC K (ga K "NoPlan")
  em_NoPlan_LossError : PySem.W.exmOne K (.ref (ga K "NoPlan")) (.ref (ga K "LossError")) = some true
  ki_NoPlan_LossError : PySem.W.kitOne K (.ref (ga K "NoPlan")) (.ref (ga K "LossError")) = some true
  em_NoPlan_BadText : PySem.W.exmOne K (.ref (ga K "NoPlan")) (.ref (ga K "BadText")) = some false
  ki_NoPlan_BadText : PySem.W.kitOne K (.ref (ga K "NoPlan")) (.ref (ga K "BadText")) = some false
  em_NoPlan_BadRatio : PySem.W.exmOne K (.ref (ga K "NoPlan")) (.ref (ga K "BadRatio")) = some false
  ki_NoPlan_BadRatio : PySem.W.kitOne K (.ref (ga K "NoPlan")) (.ref (ga K "BadRatio")) = some false
  em_NoPlan_BadPlan : PySem.W.exmOne K (.ref (ga K "NoPlan")) (.ref (ga K "BadPlan")) = some false
  ki_NoPlan_BadPlan : PySem.W.kitOne K (.ref (ga K "NoPlan")) (.ref (ga K "BadPlan")) = some false
  em_NoPlan_BadPaper : PySem.W.exmOne K (.ref (ga K "NoPlan")) (.ref (ga K "BadPaper")) = some false
  ki_NoPlan_BadPaper : PySem.W.kitOne K (.ref (ga K "NoPlan")) (.ref (ga K "BadPaper")) = some false
  em_NoPlan_NoShare : PySem.W.exmOne K (.ref (ga K "NoPlan")) (.ref (ga K "NoShare")) = some false
  ki_NoPlan_NoShare : PySem.W.kitOne K (.ref (ga K "NoPlan")) (.ref (ga K "NoShare")) = some false
  em_NoPlan_NoPlan : PySem.W.exmOne K (.ref (ga K "NoPlan")) (.ref (ga K "NoPlan")) = some true
  ki_NoPlan_NoPlan : PySem.W.kitOne K (.ref (ga K "NoPlan")) (.ref (ga K "NoPlan")) = some true
  em_NoPlan_TooLarge : PySem.W.exmOne K (.ref (ga K "NoPlan")) (.ref (ga K "TooLarge")) = some false
  ki_NoPlan_TooLarge : PySem.W.kitOne K (.ref (ga K "NoPlan")) (.ref (ga K "TooLarge")) = some false
  kv_NoPlan : PySem.W.kitOne K (.ref (ga K "NoPlan")) (.type "ValueError") = some true
  xc_TooLarge : ExcC K (ga K "TooLarge")
  em_TooLarge_LossError : PySem.W.exmOne K (.ref (ga K "TooLarge")) (.ref (ga K "LossError")) = some true
  ki_TooLarge_LossError : PySem.W.kitOne K (.ref (ga K "TooLarge")) (.ref (ga K "LossError")) = some true
  em_TooLarge_BadText : PySem.W.exmOne K (.ref (ga K "TooLarge")) (.ref (ga K "BadText")) = some false
  ki_TooLarge_BadText : PySem.W.kitOne K (.ref (ga K "TooLarge")) (.ref (ga K "BadText")) = some false
  em_TooLarge_BadRatio : PySem.W.exmOne K (.ref (ga K "TooLarge")) (.ref (ga K "BadRatio")) = some false
  ki_TooLarge_BadRatio : PySem.W.kitOne K (.ref (ga K "TooLarge")) (.ref (ga K "BadRatio")) = some false
  em_TooLarge_BadPlan : PySem.W.exmOne K (.ref (ga K "TooLarge")) (.ref (ga K "BadPlan")) = some false
  ki_TooLarge_BadPlan : PySem.W.kitOne K (.ref (ga K "TooLarge")) (.ref (ga K "BadPlan")) = some false
  em_TooLarge_BadPaper : PySem.W.exmOne K (.ref (ga K "TooLarge")) (.ref (ga K "BadPaper")) = some false
  ki_TooLarge_BadPaper : PySem.W.kitOne K (.ref (ga K "TooLarge")) (.ref (ga K "BadPaper")) = some false
  em_TooLarge_NoShare : PySem.W.exmOne K (.ref (ga K "TooLarge")) (.ref (ga K "NoShare")) = some false
  ki_TooLarge_NoShare : PySem.W.kitOne K (.ref (ga K "TooLarge")) (.ref (ga K "NoShare")) = some false
  em_TooLarge_NoPlan : PySem.W.exmOne K (.ref (ga K "TooLarge")) (.ref (ga K "NoPlan")) = some false
  ki_TooLarge_NoPlan : PySem.W.kitOne K (.ref (ga K "TooLarge")) (.ref (ga K "NoPlan")) = some false
  em_TooLarge_TooLarge : PySem.W.exmOne K (.ref (ga K "TooLarge")) (.ref (ga K "TooLarge")) = some true
  ki_TooLarge_TooLarge : PySem.W.kitOne K (.ref (ga K "TooLarge")) (.ref (ga K "TooLarge")) = some true
  kv_TooLarge : PySem.W.kitOne K (.ref (ga K "TooLarge")) (.type "ValueError") = some true
  v_EVENTS : He.valsB K (ga K "EVENTS") [("shown", .int 1), ("asked", .int 2), ("did", .int 1)] = true
  sb_BadText : SupX.supB R.prog.main.file K (ga K "BadText") "at" = true
  xf_BadText : L2.XfC K (ga K "BadText")
  xn_BadText : PySem.W.findIn K (.ref (ga K "BadText")) "at" = some none
  sb_BadPlan : SupX.supB R.prog.main.file K (ga K "BadPlan") "at" = true
  xf_BadPlan : L2.XfC K (ga K "BadPlan")
  xn_BadPlan : PySem.W.findIn K (.ref (ga K "BadPlan")) "at" = some none
  sb_BadPaper : SupX.supB R.prog.main.file K (ga K "BadPaper") "at" = true
  xf_BadPaper : L2.XfC K (ga K "BadPaper")
  xn_BadPaper : PySem.W.findIn K (.ref (ga K "BadPaper")) "at" = some none
  sb_NoShare : SupX.supB R.prog.main.file K (ga K "NoShare") "what" = true
  xf_NoShare : L2.XfC K (ga K "NoShare")
  xn_NoShare : PySem.W.findIn K (.ref (ga K "NoShare")) "what" = some none
  sb_NoPlan : SupX.supB R.prog.main.file K (ga K "NoPlan") "least" = true
  xf_NoPlan : L2.XfC K (ga K "NoPlan")
  xn_NoPlan : PySem.W.findIn K (.ref (ga K "NoPlan")) "least" = some none
  sb_TooLarge : SupX.supB R.prog.main.file K (ga K "TooLarge") "what" = true
  xf_TooLarge : L2.XfC K (ga K "TooLarge")
  xn_TooLarge : PySem.W.findIn K (.ref (ga K "TooLarge")) "what" = some none
  s_BadText : SupX.SupC PR K (ga K "BadText") "at"
  s_BadPlan : SupX.SupC PR K (ga K "BadPlan") "at"
  s_BadPaper : SupX.SupC PR K (ga K "BadPaper") "at"
  s_NoShare : SupX.SupC PR K (ga K "NoShare") "what"
  s_NoPlan : SupX.SupC PR K (ga K "NoPlan") "least"
  s_TooLarge : SupX.SupC PR K (ga K "TooLarge") "what"
theorem txt_of {w : World} {K : PySem.W.Frag} {h : Heap} {mg : Str → Option Value} (X : K.In h) (G : h.Ns mainGlobals mg) (c : He.SaysX fa fn tabs [] exB w h K) (z : He.zsW K zs = zv) : Txt K mg where
  d__wall := He.SaysD.def_ c.t.d 0 (d := d__wall) rfl
  d_Ratio_init := He.SaysD.def_ c.t.d 1 (d := d_Ratio_init) rfl
  d_Ratio_add := He.SaysD.def_ c.t.d 2 (d := d_Ratio_add) rfl
  d_Ratio_sub := He.SaysD.def_ c.t.d 3 (d := d_Ratio_sub) rfl
  d_Ratio_mul := He.SaysD.def_ c.t.d 4 (d := d_Ratio_mul) rfl
  d_Ratio_eq := He.SaysD.def_ c.t.d 5 (d := d_Ratio_eq) rfl
  d_Ratio_str := He.SaysD.def_ c.t.d 6 (d := d_Ratio_str) rfl
  d_Ratio_less := He.SaysD.def_ c.t.d 7 (d := d_Ratio_less) rfl
  d_Ratio_over := He.SaysD.def_ c.t.d 8 (d := d_Ratio_over) rfl
  d_added := He.SaysD.def_ c.t.d 9 (d := d_added) rfl
  d_digits_of := He.SaysD.def_ c.t.d 10 (d := d_digits_of) rfl
  d_read_ratio := He.SaysD.def_ c.t.d 11 (d := d_read_ratio) rfl
  d_Plan_init := He.SaysD.def_ c.t.d 12 (d := d_Plan_init) rfl
  d_Plan_eq := He.SaysD.def_ c.t.d 13 (d := d_Plan_eq) rfl
  d_Plan_entries := He.SaysD.def_ c.t.d 14 (d := d_Plan_entries) rfl
  d_Plan_lots := He.SaysD.def_ c.t.d 15 (d := d_Plan_lots) rfl
  d_plan_lines := He.SaysD.def_ c.t.d 16 (d := d_plan_lines) rfl
  d_read_view := He.SaysD.def_ c.t.d 17 (d := d_read_view) rfl
  d_read_plan := He.SaysD.def_ c.t.d 18 (d := d_read_plan) rfl
  d_checked := He.SaysD.def_ c.t.d 19 (d := d_checked) rfl
  d_l_pool := He.SaysD.def_ c.t.d 20 (d := d_l_pool) rfl
  d_l_draw := He.SaysD.def_ c.t.d 21 (d := d_l_draw) rfl
  d_l_same := He.SaysD.def_ c.t.d 22 (d := d_l_same) rfl
  d_l_event := He.SaysD.def_ c.t.d 23 (d := d_l_event) rfl
  d_l_less := He.SaysD.def_ c.t.d 24 (d := d_l_less) rfl
  d_l_entries := He.SaysD.def_ c.t.d 25 (d := d_l_entries) rfl
  d_l_text := He.SaysD.def_ c.t.d 26 (d := d_l_text) rfl
  d_l_line := He.SaysD.def_ c.t.d 27 (d := d_l_line) rfl
  d_l_digits := He.SaysD.def_ c.t.d 28 (d := d_l_digits) rfl
  d_l_read := He.SaysD.def_ c.t.d 29 (d := d_l_read) rfl
  d_l_good := He.SaysD.def_ c.t.d 30 (d := d_l_good) rfl
  d_l_bad := He.SaysD.def_ c.t.d 31 (d := d_l_bad) rfl
  d_l_near := He.SaysD.def_ c.t.d 32 (d := d_l_near) rfl
  d_l_word := He.SaysD.def_ c.t.d 33 (d := d_l_word) rfl
  d_l_changed := He.SaysD.def_ c.t.d 34 (d := d_l_changed) rfl
  d_law := He.SaysD.def_ c.t.d 35 (d := d_law) rfl
  g__wall := He.glo_ok X G (He.SaysD.fact c.t.d 0 (f := .glo "_wall") rfl)
  g_added := He.glo_ok X G (He.SaysD.fact c.t.d 1 (f := .glo "added") rfl)
  g_digits_of := He.glo_ok X G (He.SaysD.fact c.t.d 2 (f := .glo "digits_of") rfl)
  g_read_ratio := He.glo_ok X G (He.SaysD.fact c.t.d 3 (f := .glo "read_ratio") rfl)
  g_plan_lines := He.glo_ok X G (He.SaysD.fact c.t.d 4 (f := .glo "plan_lines") rfl)
  g_read_view := He.glo_ok X G (He.SaysD.fact c.t.d 5 (f := .glo "read_view") rfl)
  g_read_plan := He.glo_ok X G (He.SaysD.fact c.t.d 6 (f := .glo "read_plan") rfl)
  g_checked := He.glo_ok X G (He.SaysD.fact c.t.d 7 (f := .glo "checked") rfl)
  g_l_pool := He.glo_ok X G (He.SaysD.fact c.t.d 8 (f := .glo "_law_pool") rfl)
  g_l_draw := He.glo_ok X G (He.SaysD.fact c.t.d 9 (f := .glo "_law_draw") rfl)
  g_l_same := He.glo_ok X G (He.SaysD.fact c.t.d 10 (f := .glo "_law_same") rfl)
  g_l_event := He.glo_ok X G (He.SaysD.fact c.t.d 11 (f := .glo "_law_event") rfl)
  g_l_less := He.glo_ok X G (He.SaysD.fact c.t.d 12 (f := .glo "_law_less") rfl)
  g_l_entries := He.glo_ok X G (He.SaysD.fact c.t.d 13 (f := .glo "_law_entries") rfl)
  g_l_text := He.glo_ok X G (He.SaysD.fact c.t.d 14 (f := .glo "_law_text") rfl)
  g_l_line := He.glo_ok X G (He.SaysD.fact c.t.d 15 (f := .glo "_law_line") rfl)
  g_l_digits := He.glo_ok X G (He.SaysD.fact c.t.d 16 (f := .glo "_law_digits") rfl)
  g_l_read := He.glo_ok X G (He.SaysD.fact c.t.d 17 (f := .glo "_law_read") rfl)
  g_l_good := He.glo_ok X G (He.SaysD.fact c.t.d 18 (f := .glo "_law_good") rfl)
  g_l_bad := He.glo_ok X G (He.SaysD.fact c.t.d 19 (f := .glo "_law_bad") rfl)
  g_l_near := He.glo_ok X G (He.SaysD.fact c.t.d 20 (f := .glo "_law_near") rfl)
  g_l_word := He.glo_ok X G (He.SaysD.fact c.t.d 21 (f := .glo "_law_word") rfl)
  g_l_changed := He.glo_ok X G (He.SaysD.fact c.t.d 22 (f := .glo "_law_changed") rfl)
  g_law := He.glo_ok X G (He.SaysD.fact c.t.d 23 (f := .glo "law") rfl)
  g_LossError := He.glo_ok X G (He.SaysD.fact c.t.d 24 (f := .glo "LossError") rfl)
  x_LossError := He.exc_ok (He.SaysD.fact c.t.d 25 (f := .exc "LossError") rfl)
  g_BadText := He.glo_ok X G (He.SaysD.fact c.t.d 26 (f := .glo "BadText") rfl)
  g_BadRatio := He.glo_ok X G (He.SaysD.fact c.t.d 27 (f := .glo "BadRatio") rfl)
  x_BadRatio := He.exc_ok (He.SaysD.fact c.t.d 28 (f := .exc "BadRatio") rfl)
  g_BadPlan := He.glo_ok X G (He.SaysD.fact c.t.d 29 (f := .glo "BadPlan") rfl)
  g_BadPaper := He.glo_ok X G (He.SaysD.fact c.t.d 30 (f := .glo "BadPaper") rfl)
  g_NoShare := He.glo_ok X G (He.SaysD.fact c.t.d 31 (f := .glo "NoShare") rfl)
  g_NoPlan := He.glo_ok X G (He.SaysD.fact c.t.d 32 (f := .glo "NoPlan") rfl)
  g_TooLarge := He.glo_ok X G (He.SaysD.fact c.t.d 33 (f := .glo "TooLarge") rfl)
  g_Ratio := He.glo_ok X G (He.SaysD.fact c.t.d 34 (f := .glo "Ratio") rfl)
  c_Ratio := He.cls_ok (He.SaysD.fact c.t.d 35 (f := .cls "Ratio") rfl)
  m_Ratio := He.mkr_ok (He.SaysD.fact c.t.d 36 (f := .mkr "Ratio") rfl)
  a_Ratio_num := He.noat_ok (He.SaysD.fact c.t.d 37 (f := .noat "Ratio" "num") rfl)
  a_Ratio_den := He.noat_ok (He.SaysD.fact c.t.d 38 (f := .noat "Ratio" "den") rfl)
  t_Ratio_add := He.meth_ok (He.SaysD.fact c.t.d 39 (f := .meth "Ratio" "__add__") rfl)
  t_Ratio_sub := He.meth_ok (He.SaysD.fact c.t.d 40 (f := .meth "Ratio" "__sub__") rfl)
  t_Ratio_mul := He.meth_ok (He.SaysD.fact c.t.d 41 (f := .meth "Ratio" "__mul__") rfl)
  t_Ratio_eq := He.meth_ok (He.SaysD.fact c.t.d 42 (f := .meth "Ratio" "__eq__") rfl)
  t_Ratio_str := He.meth_ok (He.SaysD.fact c.t.d 43 (f := .meth "Ratio" "__str__") rfl)
  t_Ratio_less := He.meth_ok (He.SaysD.fact c.t.d 44 (f := .meth "Ratio" "less") rfl)
  t_Ratio_over := He.meth_ok (He.SaysD.fact c.t.d 45 (f := .meth "Ratio" "over") rfl)
  g_Plan := He.glo_ok X G (He.SaysD.fact c.t.d 46 (f := .glo "Plan") rfl)
  c_Plan := He.cls_ok (He.SaysD.fact c.t.d 47 (f := .cls "Plan") rfl)
  m_Plan := He.mkr_ok (He.SaysD.fact c.t.d 48 (f := .mkr "Plan") rfl)
  a_Plan_table := He.noat_ok (He.SaysD.fact c.t.d 49 (f := .noat "Plan" "table") rfl)
  t_Plan_eq := He.meth_ok (He.SaysD.fact c.t.d 50 (f := .meth "Plan" "__eq__") rfl)
  t_Plan_entries := He.meth_ok (He.SaysD.fact c.t.d 51 (f := .meth "Plan" "entries") rfl)
  t_Plan_lots := He.meth_ok (He.SaysD.fact c.t.d 52 (f := .meth "Plan" "lots") rfl)
  f_ValueError := He.free_ok X G (He.SaysD.fact c.t.d 53 (f := .free "ValueError") rfl)
  f_int := He.free_ok X G (He.SaysD.fact c.t.d 54 (f := .free "int") rfl)
  f_tuple := He.free_ok X G (He.SaysD.fact c.t.d 55 (f := .free "tuple") rfl)
  f_enumerate := He.free_ok X G (He.SaysD.fact c.t.d 56 (f := .free "enumerate") rfl)
  f_isinstance := He.free_ok X G (He.SaysD.fact c.t.d 57 (f := .free "isinstance") rfl)
  f_abs := He.free_ok X G (He.SaysD.fact c.t.d 58 (f := .free "abs") rfl)
  f_range := He.free_ok X G (He.SaysD.fact c.t.d 59 (f := .free "range") rfl)
  f_len := He.free_ok X G (He.SaysD.fact c.t.d 60 (f := .free "len") rfl)
  f_list := He.free_ok X G (He.SaysD.fact c.t.d 61 (f := .free "list") rfl)
  f_bool := He.free_ok X G (He.SaysD.fact c.t.d 62 (f := .free "bool") rfl)
  f_str := He.free_ok X G (He.SaysD.fact c.t.d 63 (f := .free "str") rfl)
  f_sum := He.free_ok X G (He.SaysD.fact c.t.d 64 (f := .free "sum") rfl)
  f_all := He.free_ok X G (He.SaysD.fact c.t.d 65 (f := .free "all") rfl)
  f_super := He.free_ok X G (He.SaysD.fact c.t.d 66 (f := .free "super") rfl)
  f_any := He.free_ok X G (He.SaysD.fact c.t.d 67 (f := .free "any") rfl)
  i_MOST_DIGITS := He.int_ok X G (He.SaysD.fact c.t.d 68 (f := .int "MOST_DIGITS" 60) rfl)
  g_EVENTS := He.glo_ok X G (He.SaysD.fact c.t.d 69 (f := .glo "EVENTS") rfl)
  oc_Ratio := eqO_ok (exB_at c.more 0 rfl)
  nf_Ratio := (exB_at c.more 1 rfl)
  ne_Ratio := eqO_ok (exB_at c.more 2 rfl)
  om_Ratio := of_decide_eq_true (exB_at c.more 3 rfl)
  ki_Ratio_tuple := of_decide_eq_true (exB_at c.more 4 rfl)
  ki_Ratio_list := of_decide_eq_true (exB_at c.more 5 rfl)
  ki_Ratio_bool := of_decide_eq_true (exB_at c.more 6 rfl)
  ki_Ratio_int := of_decide_eq_true (exB_at c.more 7 rfl)
  ki_Ratio_str := of_decide_eq_true (exB_at c.more 8 rfl)
  ki_Ratio_Ratio := of_decide_eq_true (exB_at c.more 9 rfl)
  ki_Ratio_Plan := of_decide_eq_true (exB_at c.more 10 rfl)
  of_Ratio := eqO_ok (exB_at c.more 11 rfl)
  sf_Ratio := (exB_at c.more 12 rfl)
  oc_Plan := eqO_ok (exB_at c.more 13 rfl)
  nf_Plan := (exB_at c.more 14 rfl)
  ne_Plan := eqO_ok (exB_at c.more 15 rfl)
  om_Plan := of_decide_eq_true (exB_at c.more 16 rfl)
  ki_Plan_tuple := of_decide_eq_true (exB_at c.more 17 rfl)
  ki_Plan_list := of_decide_eq_true (exB_at c.more 18 rfl)
  ki_Plan_bool := of_decide_eq_true (exB_at c.more 19 rfl)
  ki_Plan_int := of_decide_eq_true (exB_at c.more 20 rfl)
  ki_Plan_str := of_decide_eq_true (exB_at c.more 21 rfl)
  ki_Plan_Ratio := of_decide_eq_true (exB_at c.more 22 rfl)
  ki_Plan_Plan := of_decide_eq_true (exB_at c.more 23 rfl)
  og := eqO_ok (exB_at c.more 24 rfl)
  ot := of_decide_eq_true (exB_at c.more 25 rfl)
  xc_LossError := excB_ok (exB_at c.more 26 rfl)
  em_LossError_LossError := of_decide_eq_true (exB_at c.more 27 rfl)
  ki_LossError_LossError := of_decide_eq_true (exB_at c.more 28 rfl)
  em_LossError_BadText := of_decide_eq_true (exB_at c.more 29 rfl)
  ki_LossError_BadText := of_decide_eq_true (exB_at c.more 30 rfl)
  em_LossError_BadRatio := of_decide_eq_true (exB_at c.more 31 rfl)
  ki_LossError_BadRatio := of_decide_eq_true (exB_at c.more 32 rfl)
  em_LossError_BadPlan := of_decide_eq_true (exB_at c.more 33 rfl)
  ki_LossError_BadPlan := of_decide_eq_true (exB_at c.more 34 rfl)
  em_LossError_BadPaper := of_decide_eq_true (exB_at c.more 35 rfl)
  ki_LossError_BadPaper := of_decide_eq_true (exB_at c.more 36 rfl)
  em_LossError_NoShare := of_decide_eq_true (exB_at c.more 37 rfl)
  ki_LossError_NoShare := of_decide_eq_true (exB_at c.more 38 rfl)
  em_LossError_NoPlan := of_decide_eq_true (exB_at c.more 39 rfl)
  ki_LossError_NoPlan := of_decide_eq_true (exB_at c.more 40 rfl)
  em_LossError_TooLarge := of_decide_eq_true (exB_at c.more 41 rfl)
  ki_LossError_TooLarge := of_decide_eq_true (exB_at c.more 42 rfl)
  kv_LossError := of_decide_eq_true (exB_at c.more 43 rfl)
  xc_BadText := excB_ok (exB_at c.more 44 rfl)
  em_BadText_LossError := of_decide_eq_true (exB_at c.more 45 rfl)
  ki_BadText_LossError := of_decide_eq_true (exB_at c.more 46 rfl)
  em_BadText_BadText := of_decide_eq_true (exB_at c.more 47 rfl)
  ki_BadText_BadText := of_decide_eq_true (exB_at c.more 48 rfl)
  em_BadText_BadRatio := of_decide_eq_true (exB_at c.more 49 rfl)
  ki_BadText_BadRatio := of_decide_eq_true (exB_at c.more 50 rfl)
  em_BadText_BadPlan := of_decide_eq_true (exB_at c.more 51 rfl)
  ki_BadText_BadPlan := of_decide_eq_true (exB_at c.more 52 rfl)
  em_BadText_BadPaper := of_decide_eq_true (exB_at c.more 53 rfl)
  ki_BadText_BadPaper := of_decide_eq_true (exB_at c.more 54 rfl)
  em_BadText_NoShare := of_decide_eq_true (exB_at c.more 55 rfl)
  ki_BadText_NoShare := of_decide_eq_true (exB_at c.more 56 rfl)
  em_BadText_NoPlan := of_decide_eq_true (exB_at c.more 57 rfl)
  ki_BadText_NoPlan := of_decide_eq_true (exB_at c.more 58 rfl)
  em_BadText_TooLarge := of_decide_eq_true (exB_at c.more 59 rfl)
  ki_BadText_TooLarge := of_decide_eq_true (exB_at c.more 60 rfl)
  kv_BadText := of_decide_eq_true (exB_at c.more 61 rfl)
  xc_BadRatio := excB_ok (exB_at c.more 62 rfl)
  em_BadRatio_LossError := of_decide_eq_true (exB_at c.more 63 rfl)
  ki_BadRatio_LossError := of_decide_eq_true (exB_at c.more 64 rfl)
  em_BadRatio_BadText := of_decide_eq_true (exB_at c.more 65 rfl)
  ki_BadRatio_BadText := of_decide_eq_true (exB_at c.more 66 rfl)
  em_BadRatio_BadRatio := of_decide_eq_true (exB_at c.more 67 rfl)
  ki_BadRatio_BadRatio := of_decide_eq_true (exB_at c.more 68 rfl)
  em_BadRatio_BadPlan := of_decide_eq_true (exB_at c.more 69 rfl)
  ki_BadRatio_BadPlan := of_decide_eq_true (exB_at c.more 70 rfl)
  em_BadRatio_BadPaper := of_decide_eq_true (exB_at c.more 71 rfl)
  ki_BadRatio_BadPaper := of_decide_eq_true (exB_at c.more 72 rfl)
  em_BadRatio_NoShare := of_decide_eq_true (exB_at c.more 73 rfl)
  ki_BadRatio_NoShare := of_decide_eq_true (exB_at c.more 74 rfl)
  em_BadRatio_NoPlan := of_decide_eq_true (exB_at c.more 75 rfl)
  ki_BadRatio_NoPlan := of_decide_eq_true (exB_at c.more 76 rfl)
  em_BadRatio_TooLarge := of_decide_eq_true (exB_at c.more 77 rfl)
  ki_BadRatio_TooLarge := of_decide_eq_true (exB_at c.more 78 rfl)
  kv_BadRatio := of_decide_eq_true (exB_at c.more 79 rfl)
  xc_BadPlan := excB_ok (exB_at c.more 80 rfl)
  em_BadPlan_LossError := of_decide_eq_true (exB_at c.more 81 rfl)
  ki_BadPlan_LossError := of_decide_eq_true (exB_at c.more 82 rfl)
  em_BadPlan_BadText := of_decide_eq_true (exB_at c.more 83 rfl)
  ki_BadPlan_BadText := of_decide_eq_true (exB_at c.more 84 rfl)
  em_BadPlan_BadRatio := of_decide_eq_true (exB_at c.more 85 rfl)
  ki_BadPlan_BadRatio := of_decide_eq_true (exB_at c.more 86 rfl)
  em_BadPlan_BadPlan := of_decide_eq_true (exB_at c.more 87 rfl)
  ki_BadPlan_BadPlan := of_decide_eq_true (exB_at c.more 88 rfl)
  em_BadPlan_BadPaper := of_decide_eq_true (exB_at c.more 89 rfl)
  ki_BadPlan_BadPaper := of_decide_eq_true (exB_at c.more 90 rfl)
  em_BadPlan_NoShare := of_decide_eq_true (exB_at c.more 91 rfl)
  ki_BadPlan_NoShare := of_decide_eq_true (exB_at c.more 92 rfl)
  em_BadPlan_NoPlan := of_decide_eq_true (exB_at c.more 93 rfl)
  ki_BadPlan_NoPlan := of_decide_eq_true (exB_at c.more 94 rfl)
  em_BadPlan_TooLarge := of_decide_eq_true (exB_at c.more 95 rfl)
  ki_BadPlan_TooLarge := of_decide_eq_true (exB_at c.more 96 rfl)
  kv_BadPlan := of_decide_eq_true (exB_at c.more 97 rfl)
  xc_BadPaper := excB_ok (exB_at c.more 98 rfl)
  em_BadPaper_LossError := of_decide_eq_true (exB_at c.more 99 rfl)
  ki_BadPaper_LossError := of_decide_eq_true (exB_at c.more 100 rfl)
  em_BadPaper_BadText := of_decide_eq_true (exB_at c.more 101 rfl)
  ki_BadPaper_BadText := of_decide_eq_true (exB_at c.more 102 rfl)
  em_BadPaper_BadRatio := of_decide_eq_true (exB_at c.more 103 rfl)
  ki_BadPaper_BadRatio := of_decide_eq_true (exB_at c.more 104 rfl)
  em_BadPaper_BadPlan := of_decide_eq_true (exB_at c.more 105 rfl)
  ki_BadPaper_BadPlan := of_decide_eq_true (exB_at c.more 106 rfl)
  em_BadPaper_BadPaper := of_decide_eq_true (exB_at c.more 107 rfl)
  ki_BadPaper_BadPaper := of_decide_eq_true (exB_at c.more 108 rfl)
  em_BadPaper_NoShare := of_decide_eq_true (exB_at c.more 109 rfl)
  ki_BadPaper_NoShare := of_decide_eq_true (exB_at c.more 110 rfl)
  em_BadPaper_NoPlan := of_decide_eq_true (exB_at c.more 111 rfl)
  ki_BadPaper_NoPlan := of_decide_eq_true (exB_at c.more 112 rfl)
  em_BadPaper_TooLarge := of_decide_eq_true (exB_at c.more 113 rfl)
  ki_BadPaper_TooLarge := of_decide_eq_true (exB_at c.more 114 rfl)
  kv_BadPaper := of_decide_eq_true (exB_at c.more 115 rfl)
  xc_NoShare := excB_ok (exB_at c.more 116 rfl)
  em_NoShare_LossError := of_decide_eq_true (exB_at c.more 117 rfl)
  ki_NoShare_LossError := of_decide_eq_true (exB_at c.more 118 rfl)
  em_NoShare_BadText := of_decide_eq_true (exB_at c.more 119 rfl)
  ki_NoShare_BadText := of_decide_eq_true (exB_at c.more 120 rfl)
  em_NoShare_BadRatio := of_decide_eq_true (exB_at c.more 121 rfl)
  ki_NoShare_BadRatio := of_decide_eq_true (exB_at c.more 122 rfl)
  em_NoShare_BadPlan := of_decide_eq_true (exB_at c.more 123 rfl)
  ki_NoShare_BadPlan := of_decide_eq_true (exB_at c.more 124 rfl)
  em_NoShare_BadPaper := of_decide_eq_true (exB_at c.more 125 rfl)
  ki_NoShare_BadPaper := of_decide_eq_true (exB_at c.more 126 rfl)
  em_NoShare_NoShare := of_decide_eq_true (exB_at c.more 127 rfl)
  ki_NoShare_NoShare := of_decide_eq_true (exB_at c.more 128 rfl)
  em_NoShare_NoPlan := of_decide_eq_true (exB_at c.more 129 rfl)
  ki_NoShare_NoPlan := of_decide_eq_true (exB_at c.more 130 rfl)
  em_NoShare_TooLarge := of_decide_eq_true (exB_at c.more 131 rfl)
  ki_NoShare_TooLarge := of_decide_eq_true (exB_at c.more 132 rfl)
  kv_NoShare := of_decide_eq_true (exB_at c.more 133 rfl)
  xc_NoPlan := excB_ok (exB_at c.more 134 rfl)
  em_NoPlan_LossError := of_decide_eq_true (exB_at c.more 135 rfl)
  ki_NoPlan_LossError := of_decide_eq_true (exB_at c.more 136 rfl)
  em_NoPlan_BadText := of_decide_eq_true (exB_at c.more 137 rfl)
  ki_NoPlan_BadText := of_decide_eq_true (exB_at c.more 138 rfl)
  em_NoPlan_BadRatio := of_decide_eq_true (exB_at c.more 139 rfl)
  ki_NoPlan_BadRatio := of_decide_eq_true (exB_at c.more 140 rfl)
  em_NoPlan_BadPlan := of_decide_eq_true (exB_at c.more 141 rfl)
  ki_NoPlan_BadPlan := of_decide_eq_true (exB_at c.more 142 rfl)
  em_NoPlan_BadPaper := of_decide_eq_true (exB_at c.more 143 rfl)
  ki_NoPlan_BadPaper := of_decide_eq_true (exB_at c.more 144 rfl)
  em_NoPlan_NoShare := of_decide_eq_true (exB_at c.more 145 rfl)
  ki_NoPlan_NoShare := of_decide_eq_true (exB_at c.more 146 rfl)
  em_NoPlan_NoPlan := of_decide_eq_true (exB_at c.more 147 rfl)
  ki_NoPlan_NoPlan := of_decide_eq_true (exB_at c.more 148 rfl)
  em_NoPlan_TooLarge := of_decide_eq_true (exB_at c.more 149 rfl)
  ki_NoPlan_TooLarge := of_decide_eq_true (exB_at c.more 150 rfl)
  kv_NoPlan := of_decide_eq_true (exB_at c.more 151 rfl)
  xc_TooLarge := excB_ok (exB_at c.more 152 rfl)
  em_TooLarge_LossError := of_decide_eq_true (exB_at c.more 153 rfl)
  ki_TooLarge_LossError := of_decide_eq_true (exB_at c.more 154 rfl)
  em_TooLarge_BadText := of_decide_eq_true (exB_at c.more 155 rfl)
  ki_TooLarge_BadText := of_decide_eq_true (exB_at c.more 156 rfl)
  em_TooLarge_BadRatio := of_decide_eq_true (exB_at c.more 157 rfl)
  ki_TooLarge_BadRatio := of_decide_eq_true (exB_at c.more 158 rfl)
  em_TooLarge_BadPlan := of_decide_eq_true (exB_at c.more 159 rfl)
  ki_TooLarge_BadPlan := of_decide_eq_true (exB_at c.more 160 rfl)
  em_TooLarge_BadPaper := of_decide_eq_true (exB_at c.more 161 rfl)
  ki_TooLarge_BadPaper := of_decide_eq_true (exB_at c.more 162 rfl)
  em_TooLarge_NoShare := of_decide_eq_true (exB_at c.more 163 rfl)
  ki_TooLarge_NoShare := of_decide_eq_true (exB_at c.more 164 rfl)
  em_TooLarge_NoPlan := of_decide_eq_true (exB_at c.more 165 rfl)
  ki_TooLarge_NoPlan := of_decide_eq_true (exB_at c.more 166 rfl)
  em_TooLarge_TooLarge := of_decide_eq_true (exB_at c.more 167 rfl)
  ki_TooLarge_TooLarge := of_decide_eq_true (exB_at c.more 168 rfl)
  kv_TooLarge := of_decide_eq_true (exB_at c.more 169 rfl)
  v_EVENTS := (exB_at c.more 170 rfl)
  sb_BadText := (exB_at c.more 171 rfl)
  xf_BadText := L2.xfB_ok (exB_at c.more 172 rfl)
  xn_BadText := eqO_ok (exB_at c.more 173 rfl)
  sb_BadPlan := (exB_at c.more 174 rfl)
  xf_BadPlan := L2.xfB_ok (exB_at c.more 175 rfl)
  xn_BadPlan := eqO_ok (exB_at c.more 176 rfl)
  sb_BadPaper := (exB_at c.more 177 rfl)
  xf_BadPaper := L2.xfB_ok (exB_at c.more 178 rfl)
  xn_BadPaper := eqO_ok (exB_at c.more 179 rfl)
  sb_NoShare := (exB_at c.more 180 rfl)
  xf_NoShare := L2.xfB_ok (exB_at c.more 181 rfl)
  xn_NoShare := eqO_ok (exB_at c.more 182 rfl)
  sb_NoPlan := (exB_at c.more 183 rfl)
  xf_NoPlan := L2.xfB_ok (exB_at c.more 184 rfl)
  xn_NoPlan := eqO_ok (exB_at c.more 185 rfl)
  sb_TooLarge := (exB_at c.more 186 rfl)
  xf_TooLarge := L2.xfB_ok (exB_at c.more 187 rfl)
  xn_TooLarge := eqO_ok (exB_at c.more 188 rfl)
  s_BadText := SupX.sup_of (P := PR) (x := "at") (exB_at c.more 171 rfl) (He.zsW_at z 0 rfl rfl) (by decide +kernel) (fun _ _ _ _ _ _ _ _ _ => rfl) rfl rfl rfl rfl rfl rfl (by decide +kernel) (by decide +kernel) (by decide +kernel) (by decide +kernel) (by decide +kernel) (by decide) (by decide) (fun _ _ _ _ => rfl) ⟨_, fun _ _ _ _ => rfl⟩ (fun _ _ _ _ => rfl) (fun _ _ _ _ => rfl)
  s_BadPlan := SupX.sup_of (P := PR) (x := "at") (exB_at c.more 174 rfl) (He.zsW_at z 1 rfl rfl) (by decide +kernel) (fun _ _ _ _ _ _ _ _ _ => rfl) rfl rfl rfl rfl rfl rfl (by decide +kernel) (by decide +kernel) (by decide +kernel) (by decide +kernel) (by decide +kernel) (by decide) (by decide) (fun _ _ _ _ => rfl) ⟨_, fun _ _ _ _ => rfl⟩ (fun _ _ _ _ => rfl) (fun _ _ _ _ => rfl)
  s_BadPaper := SupX.sup_of (P := PR) (x := "at") (exB_at c.more 177 rfl) (He.zsW_at z 2 rfl rfl) (by decide +kernel) (fun _ _ _ _ _ _ _ _ _ => rfl) rfl rfl rfl rfl rfl rfl (by decide +kernel) (by decide +kernel) (by decide +kernel) (by decide +kernel) (by decide +kernel) (by decide) (by decide) (fun _ _ _ _ => rfl) ⟨_, fun _ _ _ _ => rfl⟩ (fun _ _ _ _ => rfl) (fun _ _ _ _ => rfl)
  s_NoShare := SupX.sup_of (P := PR) (x := "what") (exB_at c.more 180 rfl) (He.zsW_at z 3 rfl rfl) (by decide +kernel) (fun _ _ _ _ _ _ _ _ _ => rfl) rfl rfl rfl rfl rfl rfl (by decide +kernel) (by decide +kernel) (by decide +kernel) (by decide +kernel) (by decide +kernel) (by decide) (by decide) (fun _ _ _ _ => rfl) ⟨_, fun _ _ _ _ => rfl⟩ (fun _ _ _ _ => rfl) (fun _ _ _ _ => rfl)
  s_NoPlan := SupX.sup_of (P := PR) (x := "least") (exB_at c.more 183 rfl) (He.zsW_at z 4 rfl rfl) (by decide +kernel) (fun _ _ _ _ _ _ _ _ _ => rfl) rfl rfl rfl rfl rfl rfl (by decide +kernel) (by decide +kernel) (by decide +kernel) (by decide +kernel) (by decide +kernel) (by decide) (by decide) (fun _ _ _ _ => rfl) ⟨_, fun _ _ _ _ => rfl⟩ (fun _ _ _ _ => rfl) (fun _ _ _ _ => rfl)
  s_TooLarge := SupX.sup_of (P := PR) (x := "what") (exB_at c.more 186 rfl) (He.zsW_at z 5 rfl rfl) (by decide +kernel) (fun _ _ _ _ _ _ _ _ _ => rfl) rfl rfl rfl rfl rfl rfl (by decide +kernel) (by decide +kernel) (by decide +kernel) (by decide +kernel) (by decide +kernel) (by decide) (by decide) (fun _ _ _ _ => rfl) ⟨_, fun _ _ _ _ => rfl⟩ (fun _ _ _ _ => rfl) (fun _ _ _ _ => rfl)
/-- what the written dicts hold -/
structure TabW (w : World) (K : PySem.W.Frag) : Prop where
  k_EVENTS : (ga K "EVENTS" == sysModules) = false ∧ ∀ z : Str, KGet K w (ga K "EVENTS") z ((([("shown", .int 1), ("asked", .int 2), ("did", .int 1)] : List (Str × He.Dv)).lookup z).map (He.Dv.v K))
theorem tabW_of {w : World} {K : PySem.W.Frag} {h : Heap} (c : He.SaysX fa fn tabs [] exB w h K) : TabW w K where
  k_EVENTS := by
    have e : tabs.map (fun t => He.dicW K (t.1 K)) = tabs.map fun t => some (He.keysIn w.params t.2) := congrArg (fun z : He.AlT => z.2) c.t
    have e2 : (tabs.map fun t => He.dicW K (t.1 K))[0]? = (tabs.map fun t => some (He.keysIn w.params t.2))[0]? := by rw [e]
    exact kget_of (kvs := [("shown", .int 1), ("asked", .int 2), ("did", .int 1)]) (Option.some.inj e2) (exB_at c.more 170 rfl)
/-! ### the head's run -/
def names0 : List Str := ["_wall", "LossError", "BadText", "BadRatio", "BadPlan", "BadPaper", "NoShare", "NoPlan", "TooLarge", "MOST_DIGITS", "Ratio", "added", "digits_of", "read_ratio", "Plan", "EVENTS", "plan_lines", "read_view", "read_plan", "checked", "_law_pool", "_law_draw", "_law_same", "_law_event", "_law_less", "_law_entries", "_law_text", "_law_line", "_law_digits", "_law_read"]
def names1 : List Str := ["_law_good", "_law_bad", "_law_near", "_law_word", "_law_changed"]
def names : List Str := names0 ++ names1
abbrev lawAt : Nat := 40
abbrev hk : PySem.W.Hook := He.hookY 4 fa fn tabs exB zs zv
def ob (s : PySem.W.SharedT) : He.AlX × List SupX.FnZ := He.obsY 4 fa fn tabs exB zs (HandSHeadRun.getT s)
theorem ob_eq (s : PySem.W.SharedT) : ob s = hk.obs s.abs := He.obsY_eq (HandSHeadRun.getT_eq s)
theorem run (w : World) : HandSHeadRun.RunEq R (PySem.W.view R.prog [lawAt]) hk ob 60000 names w := by
  refine PySem.W.byRow2 "special-get-raises" (P := fun w => HandSHeadRun.RunEq R (PySem.W.view R.prog [lawAt]) hk ob 60000 names w) (fun w => ?_) (fun w => ?_) w <;>
    (intro os
     kernel_rfl)
end LL
namespace LL
open PySem PySem.Spec PyProof.Rows L2 He Evl
/-! ### rules of own operators, own str -/
section
variable {X : Cx} {CX : CXT} {n : Nat} {C g : Addr} {sp : Sp} {E : XK}
def rOwnB (C : Addr) (sp : Sp) (E : XK) : R2 := fun x y H Q => ∃ a dx fs b dy gs, x = .ref a ∧ y = .ref b ∧ H a = some (.ins C dx fs) ∧ H b = some (.ins C dy gs) ∧ sp [x, y] H Q E
theorem op_ownB {op : Operator} (hc : PySem.W.selfFirst X.K C = true) (hs : PySem.W.findIn X.K (.ref C) (PySem.dunder op.info.2) = some (some (.ref g))) (hf : PySem.W.isFn X.K (.ref g) = true) (F : FnR X.prog X.w X.K X.mg X.base CX n g sp)
    (hr : Room n X.A) (hx : Passes CX X E) : OpR X (binaryOp op) (rOwnB C sp E) := by
  intro pins s σ H x y v u Q I rx ry h
  obtain ⟨a, dx, fs, b, dy, gs, rfl, rfl, ha, hb, q⟩ := h
  cases (show v = Value.ref a from rx)
  cases (show u = Value.ref b from ry)
  obtain ⟨mA, O, _⟩ := ins_get I.hok ha
  obtain ⟨od, J, _⟩ := O.look
  obtain ⟨mB, O2, _⟩ := ins_get I.hok hb
  obtain ⟨od2, J2, _⟩ := O2.look
  obtain ⟨m, hF⟩ := I.fr
  refine PySem.W.binop_K hF I.ok.mod.kin J J2.type hc hs hf ?_
  refine wpAny_mono (wpAny_call (run_fnR (us := [.ref a, .ref b]) (vs := [.ref a, .ref b]) F hr hx I (.cons rfl (.cons rfl .nil)) q)) (fun w s' z => ?_) fun _ _ x => x
  obtain ⟨z', H', I', rz, qz⟩ := z
  exact SlX.cmpback rz ⟨z', H', I', rz, qz⟩
theorem op_ownC {op : CmpOp} (hop : ∀ a b, compareOp op a b = richCompare op a b) (hn : PySem.W.notFirst X.K C (.ref C) = true) (hs : PySem.W.findIn X.K (.ref C) (cmpInfo op).2.1 = some (some (.ref g))) (hf : PySem.W.isFn X.K (.ref g) = true) (F : FnR X.prog X.w X.K X.mg X.base CX n g sp)
    (hr : Room n X.A) (hx : Passes CX X E) : OpR X (compareOp op) (rOwnB C sp E) := by
  intro pins s σ H x y v u Q I rx ry h
  obtain ⟨a, dx, fs, b, dy, gs, rfl, rfl, ha, hb, q⟩ := h
  cases (show v = Value.ref a from rx)
  cases (show u = Value.ref b from ry)
  obtain ⟨mA, O, _⟩ := ins_get I.hok ha
  obtain ⟨od, J, _⟩ := O.look
  obtain ⟨mB, O2, _⟩ := ins_get I.hok hb
  obtain ⟨od2, J2, _⟩ := O2.look
  obtain ⟨m, hF⟩ := I.fr
  rw [hop]
  refine PySem.W.cmp_K (op := op) (tb := .ref C) hr.units0 hF I.ok.mod.kin J J2.type hn hs hf ?_
  refine wpAny_mono (wpAny_call (run_fnR (us := [.ref a, .ref b]) (vs := [.ref a, .ref b]) F hr hx I (.cons rfl (.cons rfl .nil)) q)) (fun w s' z => ?_) fun _ _ x => x
  obtain ⟨z', H', I', rz, qz⟩ := z
  exact SlX.cmpback rz ⟨z', H', I', rz, qz⟩
def rStrOwn (C : Addr) (sp : Sp) (E : XK) : List V → Hp → VK → Prop := fun xs H Q => ∃ a dx fs, xs = [.ref a] ∧ H a = some (.ins C dx fs) ∧ sp [.ref a] H (fun z H' => ∃ y, z = .str y ∧ Q (.str y) H') E
open Builtin Builtin.Str PySem.W in
theorem call_strOwn (hs : PySem.W.findIn X.K (.ref C) "__str__" = some (some (.ref g))) (hf : PySem.W.isFn X.K (.ref g) = true) (F : FnR X.prog X.w X.K X.mg X.base CX n g sp) (hr : Room (n + 2) X.A) (hx : Passes CX X E) : CallR X (.type "str") (rStrOwn C sp E) := by
  intro pins s σ H xs us Q I r h
  obtain ⟨a, dx, fs, rfl, ha, q⟩ := h
  obtain ⟨u, rfl, ru⟩ := r.one
  cases (show u = Value.ref a from ru)
  obtain ⟨mA, O, _⟩ := ins_get I.hok ha
  obtain ⟨od, J, _⟩ := O.look
  have hr2 : Room n X.A.in1.in1 := (show Room (n + 1) X.A.in1 from Room.in1 hr).in1
  refine callType_codes (T := "str") (Bi := Builtin.«object.__init__») (Q₁ := fun r s₁ => ∃ y u, r = .str y u ∧ EP X pins σ Q r s₁) PySem.F.called_str (PySem.F.typeCall_str_1 _) PySem.F.entry_object_init ?_ ?_
  · refine codeAny_of_tree ?_
    show wpAny _ X.A.in1.in1 (do checkBuiltinCall "str.__new__" ⟨[.type "str", .ref a], []⟩; again (.builtin "str.__new__" ⟨[.type "str", .ref a], []⟩)) _ _ s
    refine wpAny_bind (wpAny_of_eq (PySem.F.newCall_str_1 _) (wpAny_pure ⟨plainId_quiet (by decide +kernel) _, codeAny_builtin PySem.F.entry_str_new ?_⟩))
    rw [Around.under_plainId (by decide +kernel) _]
    rw [str_new_tree]
    refine wpAny_bind (wpAny_pure ?_)
    refine wpAny_bind (wpAny_of_eq isSubtype_str_str ?_)
    have key : wpAny (model X.prog X.w) X.A.in1.in1 (PySem.Builtin.Str.strOf (.ref a)) (fun r s₁ => ∃ y u, r = .str y u ∧ EP X pins σ Q r s₁) X.xe s := by
      unfold PySem.Builtin.Str.strOf
      rw [show isExactStr (.ref a) = false from rfl]
      refine wpAny_bind (m := cRoomFor _ _) (wpAny_cRoomFor hr2.units0 ?_)
      refine wpAny_bind (m := callSpecial? (.ref a) (Str.ofString "__str__")) (special_fn I.kIn J hs (beq_iff_eq.mp hf) (wpAny_mono (wpAny_call (SlX.run_at (us := [.ref a]) (ws := [.ref a]) F hr2 I.env0.in1.in1 hx I (.cons rfl .nil) q)) (fun r s' z => ?_) fun _ _ y => y))
      obtain ⟨z', H', I', rz, y, ez, qz⟩ := z
      subst ez
      obtain ⟨t, e⟩ := (show ∃ t, r = Value.str y t from rz)
      cases e
      exact wpAny_pure ⟨_, _, rfl, .str y, H', I', ⟨t, rfl⟩, qz⟩
    exact wpAny_bind (wpAny_mono key (fun r s₁ hr => wpAny_pure hr) fun _ _ y => y)
  · rintro obj s₁ ⟨y, u, rfl, hq⟩
    exact ⟨typeIs_str _ _ _, PySem.F.args_object_init_2 _ _, object_init_meets PySem.F.called_str.init.lookup PySem.F.called_str.made (by decide) X.prog X.w X.A.in1 _ s₁ ⟨typeIs_str _ _ _, rfl, hq⟩⟩
end
section
variable {P : Program} {w : World} {K : PySem.W.Frag} {mg : Str → Option Value} {base : Heap}
abbrev Fn (P : Program) (w : World) (K : PySem.W.Frag) (mg : Str → Option Value) (base : Heap) (k : Nat) (f : Addr) (sp : Sp) : Prop := FnR P w K mg base (L2.CX P w) k f sp
/-- what a call lets out is what the def lets out -/
theorem pc {N : List Str} {qual : Str} {scope : Scope} {f : Addr} {cd : Value} {A : Around} {outer : List Env} {s : Shared} {H : Hp} {E : XK} (h : scope.kind = .function := by rfl) : Passes (L2.CX P w) (cxOf (L2.CX P w) P w K mg base N qual scope f cd A outer s H E) E :=
  passes_call (takes_of rfl rfl rfl rfl) (fun _ _ _ _ h => h)
theorem fn_def {x qual : Str} {st : Stmt} {f : Addr} {N ps : List Str} {k : Nat} {sp : Sp} (D : ∃ fd, FunD K x qual (defArgs st) (defBody st) (defScope st) [] [] f fd) (S : FnScope N ps (defScope st))
    (hb : ∀ (kV doc pm : Value) (an : Option Addr) (cdv ct : Value) (us : List Value), us.length = ps.length → bindArgs (PySem.W.fnOf x qual (defArgs st) (defBody st) (defScope st) .none kV doc pm an cdv ct) ⟨us, []⟩ = pure (ps.zip us))
    (len : ∀ vs H Q E, sp vs H Q E → vs.length = ps.length)
    (hbody : ∀ (cdv : Value) (A : Around) (outer : List Env) (s : Shared) (H : Hp) (vs : List V) (Q : VK) (E : XK), Room k (A.deeper (envOfC qual (defScope st) s.heap.objs.size f cdv)) → sp vs H Q E →
      ∃ t, PSs (cxOf (L2.CX P w) P w K mg base N qual (defScope st) f cdv A outer s H E) (defBody st) t ∧ t { nx := fun _ H' => Q .non H', rt := Q } (start N vs) H) : Fn P w K mg base (k + 1) f sp := by
  obtain ⟨fd, F⟩ := D
  exact (FnOk.raw (F.ok S len hbody) (F.bindsN hb) (dvs := []) .nil).imp (fun vs H Q E h => by simpa using h)
theorem pe_gr {X : Cx} {x : Str} {a : Addr} {pos : Pos} (hm : X.mg x = some (.ref a)) (hg : Gl X x := by rfl) (hd : (x == ("__debug__" : Str)) = false := by decide) : PE X (.Name x pos) (tC (.ref a)) := pe_glob hg hm rfl hd
/-! ### further rules -/
theorem kp_of {x qual : Str} {st : Stmt} {f : Addr} {dvs : List V} (D : ∃ fd, FunD K x qual (defArgs st) (defBody st) (defScope st) dvs [] f fd) : PySem.W.keepIn K (.ref f) = true := by
  obtain ⟨fd, F⟩ := D
  exact F.kp
theorem pe_fn {X : Cx} {CX : CXT} {k : Nat} {f : Addr} {sp : Sp} {E : XK} {x x' qual : Str} {st : Stmt} {dvs : List V} {e : Expr} {es : List Expr} {t : TA} {p pos : Pos} (D : ∃ fd, FunD X.K x' qual (defArgs st) (defBody st) (defScope st) dvs [] f fd)
    (F : FnR X.prog X.w X.K X.mg X.base CX k f sp) (hr : Room k X.A) (hm : X.mg x = some (.ref f)) (hx : Passes CX X E) (ha : PA X (e :: es) t) (hg : Gl X x := by rfl) (hdb : (x == ("__debug__" : Str)) = false := by decide)
    (he : starEach (e :: es) X.env = (false, eval e X.env) :: starEach es X.env := by rfl) (hpl : (backTo pos (starEach es X.env)).any (·.1) = false := by rfl) :
    PE X (.Call (.Name x p) (e :: es) [] pos) (fun σ H Q => t σ H fun vs H1 => sp vs H1 Q E) := by
  refine ⟨fun pins s σ H Q I h => ?_⟩
  refine wpAny_Call_Name_kw (ld_glob I hg hm ?_ hdb)
  refine PySem.W.callWith_K (h₀ := X.base) I.ok.mod.kin (kp_of D) (thn (ha.run pos pins s σ H _ I h) fun us s1 ⟨vs, H1, I1, r, q⟩ => ⟨I1.kIn, ?_⟩) he hpl
  exact wpAny_call (run_fnR F hr hx I1 r q)
theorem pe_methR0 {X : Cx} {CX : CXT} {k : Nat} {C f : Addr} {m : Str} {sp : Sp} {E : XK} {o : Expr} {ta : TE} {apos pos : Pos} {pl : Sem Bool} (he : PE X o ta) (c : Cls X.K C) (hm : Meth X.K C m f)
    (F : FnR X.prog X.w X.K X.mg X.base CX k f sp) (hr : Room k X.A) (hx : Passes CX X E)
    (ht : eval (.Call (.Attribute o m apos) [] [] pos) X.env = (do
      let ov ← eval o X.env
      standAt apos.atName
      let (f, first) ← holding [ov] (getMethod ov m pl)
      callWith pos f first (backTo pos (starEach [] X.env)) (backToKw pos (keywordEach [] X.env))) := by rfl) :
    PE X (.Call (.Attribute o m apos) [] [] pos) (tMethR C m sp E ta tNil) := by
  refine ⟨fun pins s σ H Q I h => ?_⟩
  refine PySem.W.methodCall_KW (pl := pl) (thn (he.run pins s σ H _ I h) fun u s1 ⟨x, H1, I1, rx, a, dx, fs, ex, ea, l, q⟩ => ?_) ht
  subst ex
  obtain rfl : u = Value.ref a := rx
  refine getmeth_ok I1 ea c hm l ?_
  exact PySem.W.callWith_K0 (first := [.ref a]) I1.kIn hm.kp (wpAny_call (run_fnR (us := [.ref a]) (vs := [.ref a]) F hr hx I1 (.cons rfl .nil) q))
theorem pe_gi {X : Cx} {x : Str} {i : Int} {pos : Pos} (h : ∃ t, X.mg x = some (.int i t)) (hg : Gl X x := by rfl) (hd : (x == ("__debug__" : Str)) = false := by decide) : PE X (.Name x pos) (tC (.int i)) := by
  obtain ⟨t, hm⟩ := h
  exact pe_glob hg hm ⟨_, rfl⟩ hd
theorem pe_gs {X : Cx} {x z : Str} {pos : Pos} (h : ∃ t, X.mg x = some (.str z t)) (hg : Gl X x := by rfl) (hd : (x == ("__debug__" : Str)) = false := by decide) : PE X (.Name x pos) (tC (.str z)) := by
  obtain ⟨t, hm⟩ := h
  exact pe_glob hg hm ⟨_, rfl⟩ hd
theorem run_makeR0 {X : Cx} {CX : CXT} {k : Nat} {f C : Addr} {sp : Sp} {E : XK} {pins : List (Addr × Obj)} {σ : L2.St} {H : Hp} {s : Shared} {Q : VK} (M : Mk X.K C f) (F : FnR X.prog X.w X.K X.mg X.base CX k f sp) (hr : Room (k + 1) X.A) (hx : Passes CX X E) (I : Inv X pins σ H s)
    (h : ∀ x dx, H x = Option.none → H dx = Option.none → dx ≠ x → sp [V.ref x] (upd (upd H dx (.own x)) x (.ins C dx [])) (fun v H2 => v = .non ∧ Q (.ref x) H2) E) :
    wpAny (model X.prog X.w) X.A (call (.ref C) []) (EP X pins σ Q) X.xe s := StX.run_makeR M F hr hx I .nil h
end
/-! ### calls in a try: what is let out is wished for at the slots -/
section
variable {X : Cx} {CX : CXT} {k : Nat} {f C : Addr} {sp : Sp} {E : L2.St → XK} {x : Str} {e : Expr} {es : List Expr} {t : TA} {p pos : Pos}
theorem run_makeRS {pins : List (Addr × Obj)} {σ : L2.St} {H : Hp} {s : Shared} {Q : VK} {us : List Value} {vs : List V} {E : XK} (M : Mk X.K C f) (F : FnR X.prog X.w X.K X.mg X.base CX k f sp) (hr : Room (k + 1) X.A) (hx : PassesAt CX X σ E) (I : Inv X pins σ H s) (r : Vals vs us)
    (h : ∀ x dx, H x = Option.none → H dx = Option.none → dx ≠ x → sp (V.ref x :: vs) (upd (upd H dx (.own x)) x (.ins C dx [])) (fun v H2 => v = .non ∧ Q (.ref x) H2) E) :
    wpAny (model X.prog X.w) X.A (call (.ref C) us) (EP X pins σ Q) X.xe s := by
  have hq := h (s.heap.objs.size + 1) s.heap.objs.size (I.hok.fresh (Nat.le_succ _)) (I.hok.fresh (Nat.le_refl _)) (Nat.ne_of_lt (Nat.lt_succ_self _))
  have I2 := Inv.made (C := C) I
  have r2 : Vals (V.ref (s.heap.objs.size + 1) :: vs) (Value.ref (s.heap.objs.size + 1) :: us) := .cons rfl r
  refine wpAny_call (make_map (f := f) I.kIn M.makes M.init (beq_iff_eq.mp M.fn) (codeAny_mono (F _ X.stack _ _ (Value.ref (s.heap.objs.size + 1) :: us) _ _ E (hr.make C us []) (I2.env0.make C us []) r2 hq) fun r s' hq' => ?_))
  cases r with
  | error e => exact hx pins _ _ e s' I2 hq'
  | ok fl =>
    cases fl with
    | ret u =>
      obtain ⟨v, H', I3, rv, ev, q3⟩ := I2.after hq'
      subst ev
      exact ⟨rv, ⟨V.ref (s.heap.objs.size + 1), H', I3, rfl, q3⟩⟩
    | next => exact False.elim hq'
    | brk => exact False.elim hq'
    | cont => exact False.elim hq'
def tMakeRS (C : Addr) (sp : Sp) (E : L2.St → XK) (t : TA) : TE := fun σ H Q => StX.tMakeR C sp (E σ) t σ H Q
theorem pe_makeRS (M : Mk X.K C f) (F : FnR X.prog X.w X.K X.mg X.base CX k f sp) (hr : Room (k + 1) X.A) (hg : Gl X x) (hm : X.mg x = some (.ref C)) (hx : ∀ σ, PassesAt CX X σ (E σ)) (ha : PA X (e :: es) t) (hdb : (x == ("__debug__" : Str)) = false := by decide)
    (he : starEach (e :: es) X.env = (false, eval e X.env) :: starEach es X.env := by rfl) (hpl : (backTo pos (starEach es X.env)).any (·.1) = false := by rfl) : PE X (.Call (.Name x p) (e :: es) [] pos) (tMakeRS C sp E t) := by
  refine ⟨fun pins s σ H Q I h => ?_⟩
  refine wpAny_Call_Name_kw (ld_glob I hg hm ?_ hdb)
  refine PySem.W.callWith_K (h₀ := X.base) I.ok.mod.kin M.kp (thn (ha.run pos pins s σ H _ I h) fun us s1 ⟨vs, H1, I1, r, q⟩ => ⟨I1.kIn, ?_⟩) he hpl
  exact run_makeRS M F hr (hx σ) I1 r q
theorem run_fnRS {pins : List (Addr × Obj)} {σ : L2.St} {H : Hp} {s : Shared} {E : XK} {Q : VK} {us : List Value} {vs : List V} (F : FnR X.prog X.w X.K X.mg X.base CX k f sp) (hr : Room k X.A) (hx : PassesAt CX X σ E) (I : Inv X pins σ H s) (r : Vals vs us) (h : sp vs H Q E) :
    codeAny (model X.prog X.w) X.A (.call (.ref f) ⟨us, []⟩) (fun r s' => match r with | .ok (.ret v) => EP X pins σ Q v s' | .ok _ => False | .error e => X.xe e s') s := by
  refine codeAny_mono (F X.A X.stack s H us vs Q E hr I.env0 r h) fun r s' hq => ?_
  cases r with
  | error e => exact hx pins H s e s' I hq
  | ok fl =>
    cases fl with
    | ret u => exact I.after hq
    | next => exact hq.elim
    | brk => exact hq.elim
    | cont => exact hq.elim
def tMethRS (C : Addr) (m : Str) (sp : Sp) (E : L2.St → XK) (ta : TE) (t : TA) : TE := fun σ H Q => tMethR C m sp (E σ) ta t σ H Q
theorem pe_methRS {m : Str} {o : Expr} {ta : TE} {apos : Pos} {pl : Sem Bool} (he : PE X o ta) (c : Cls X.K C) (hm : Meth X.K C m f)
    (F : FnR X.prog X.w X.K X.mg X.base CX k f sp) (hr : Room k X.A) (hx : ∀ σ, PassesAt CX X σ (E σ)) (ha : PA X (e :: es) t)
    (hst : starEach (e :: es) X.env = (false, eval e X.env) :: starEach es X.env := by rfl) (hpl : (backTo pos (starEach es X.env)).any (·.1) = false := by rfl)
    (ht : eval (.Call (.Attribute o m apos) (e :: es) [] pos) X.env = (do
      let ov ← eval o X.env
      standAt apos.atName
      let (f, first) ← holding [ov] (getMethod ov m pl)
      callWith pos f first (backTo pos (starEach (e :: es) X.env)) (backToKw pos (keywordEach [] X.env))) := by rfl) :
    PE X (.Call (.Attribute o m apos) (e :: es) [] pos) (tMethRS C m sp E ta t) := by
  refine ⟨fun pins s σ H Q I h => ?_⟩
  refine PySem.W.methodCall_KW (pl := pl) (thn (he.run pins s σ H _ I h) fun u s1 ⟨x, H1, I1, rx, a, dx, fs, ex, ea, l, q⟩ => ?_) ht
  subst ex
  obtain rfl : u = Value.ref a := rx
  refine getmeth_ok I1 ea c hm l ?_
  refine PySem.W.callWith_K (first := [.ref a]) (h₀ := X.base) I.ok.mod.kin hm.kp (thn (ha.run pos pins s1 σ H1 _ I1 q) fun us s2 ⟨vs, H2, I2, r, q2⟩ => ⟨I2.kIn, ?_⟩) hst hpl
  exact wpAny_call (run_fnRS (us := .ref a :: us) (vs := .ref a :: vs) F hr (hx σ) I2 (.cons rfl r) q2)
/-! ### the same rules with the written part by name (in a try) -/
theorem ixk_tup {X : Cx} (K : PySem.W.Frag) (h : X.K = K := by rfl) : IxR X (rIxT K) := by subst h; exact ix_tup
theorem ixk_list {X : Cx} (K : PySem.W.Frag) (h : X.K = K := by rfl) : IxR X (rIxL K) := by subst h; exact ix_list
theorem callk_isi {X : Cx} (K : PySem.W.Frag) (h : X.K = K := by rfl) : CallR X (.builtin "isinstance") (rIsi K) := by subst h; exact call_isi
theorem pek_fld {X : Cx} (K : PySem.W.Frag) {e : Expr} {ta : TE} {f : Str} {pos : Pos} (ha : PE X e ta) (hb : attributeBase e f X.env (eval e X.env) = eval e X.env) (h : X.K = K := by rfl) : PE X (.Attribute e f pos) (tFld K ta f) := by subst h; exact pe_fld ha hb
/-- a suite that is read under a condition -/
theorem pss_given {p : Prop} {st : List Stmt} {t : TS} (h : p → PSs X st t) : PSs X st (fun D σ H => p ∧ t D σ H) := ⟨fun pins s σ H D I hw => (h hw.1).run pins s σ H D I hw.2⟩
/-- isinstance(e, (c1, ..)), e the exception that the suite holds -/
def rIsET (K : PySem.W.Frag) (D a : Addr) : List V → Hp → VK → Prop := fun xs H Q => ∃ (tp : Addr) (cs : List V) (us : List Value) (b : Bool), xs = [.ref a, .ref tp] ∧ H tp = some (.tup cs) ∧ Paired ClsV cs us ∧ PySem.W.kitAny K (.ref D) us = some b ∧ Q (.bl b) H
theorem call_isET {a D : Addr} {oe : Obj} {pn : List (Addr × Obj)} (C : ExcC X.K D) (hz : Zc (.ref D) none oe) (hf : ∃ vs, oe.data = .fields vs) : CallR (X.suite a ((a, oe) :: pn)) (.builtin "isinstance") (rIsET X.K D a) := by
  intro pins s σ H xs us Q I r h
  obtain ⟨tp, cs, ws, b, rfl, hT, k, e, q⟩ := h
  obtain ⟨u1, u2, rfl, r1, r2⟩ := vals2 r
  cases (show u1 = Value.ref a from r1)
  cases (show u2 = Value.ref tp from r2)
  obtain ⟨_, its, rv, o, h1, h2, n, h3⟩ := (show ObjOk X.prog X.w H s.heap tp (.tup cs) from I.hok tp _ hT)
  have e3 := ClsV.all k rv
  subst e3
  obtain ⟨oc, od, dt, sl⟩ := o
  simp only at h2 h3
  subst h2 h3
  obtain ⟨hget, _⟩ := I.pin (a, oe) (List.mem_append.mpr (.inl List.mem_cons_self))
  obtain ⟨vs, hv⟩ := hf
  have J : PySem.W.InstAt s.heap a oe D none := by
    obtain ⟨oc, od, oda, osl⟩ := oe
    obtain ⟨h1, h2⟩ := hz
    dsimp only at h1 h2 hv
    subst h1 h2 hv
    exact ⟨hget, rfl, rfl, trivial⟩
  exact PySem.W.kia_tup (PySem.W.handS_kitx_exc C.hg C.hk C.hs C.hd C.ha C.hn C.ht C.hm) I.kIn J h1 e (fun z => nomatch z) fun tk => ⟨.bl b, H, I.kept (t' := tk) fun _ _ z => z, rfl, q⟩
theorem callk_isE (K : PySem.W.Frag) {a D : Addr} {oe : Obj} {pn : List (Addr × Obj)} (C : ExcC K D) (hz : Zc (.ref D) none oe) (hf : ∃ vs, oe.data = .fields vs) (h : X.K = K := by rfl) : CallR (X.suite a ((a, oe) :: pn)) (.builtin "isinstance") (rIsE K D a) := by subst h; exact call_isE C hz hf
theorem callk_isET (K : PySem.W.Frag) {a D : Addr} {oe : Obj} {pn : List (Addr × Obj)} (C : ExcC K D) (hz : Zc (.ref D) none oe) (hf : ∃ vs, oe.data = .fields vs) (h : X.K = K := by rfl) : CallR (X.suite a ((a, oe) :: pn)) (.builtin "isinstance") (rIsET K D a) := by subst h; exact call_isET C hz hf
end
end LL
namespace LL
open PySem PySem.Spec PyProof.Rows L2 He
/-! ### Ratios over the heap -/
abbrev cR (K : PySem.W.Frag) : Addr := ga K "Ratio"
def rf (n d : Int) : List (Str × V) := [("num", .int n), ("den", .int d)]
theorem nd_ne : ¬ (("num" : Str) = "den") := by decide +kernel
theorem rf_put (n d : Int) : putF "den" (.int d) (putF "num" (.int n) []) = rf n d := by
  show (if ("num" : Str) = "den" then _ else (("num" : Str), V.int n) :: putF "den" (V.int d) []) = _
  rw [if_neg nd_ne] <;> rfl
theorem rf_num (n d : Int) : (rf n d).lookup ("num" : Str) = some (.int n) := by simp [rf, List.lookup]
theorem rf_den (n d : Int) : (rf n d).lookup ("den" : Str) = some (.int d) := by
  have h : (("den" : Str) == "num") = false := by decide +kernel
  simp [rf, List.lookup, h]
theorem rf_no (n d : Int) {m : Str} (h1 : (m == ("num" : Str)) = false) (h2 : (m == ("den" : Str)) = false) : (rf n d).lookup m = none := by
  simp [rf, List.lookup, h1, h2]
/-- v is the Ratio q -/
def RatAt (K : PySem.W.Frag) (H : Hp) (v : V) (q : Rat) : Prop := ∃ a dx, v = .ref a ∧ H a = some (.ins (cR K) dx (rf q.num q.den))
theorem RatAt.mono {K : PySem.W.Frag} {H H' : Hp} {v : V} {q : Rat} (e : Same H H') (h : RatAt K H v q) : RatAt K H' v q := by
  obtain ⟨a, dx, h1, h2⟩ := h
  exact ⟨a, dx, h1, e _ _ h2⟩
/-! ### Ratio(num, den) -/
def spRI (K : PySem.W.Frag) : Sp := fun vs H Q E => ∃ (p dx : Addr) (n d : Int), vs = [.ref p, .int n, .int d] ∧ H p = some (.ins (cR K) dx []) ∧
  (d < 1 → E (.ref (ga K "BadRatio")) none H) ∧ (0 < d → d.natAbs < 2 ^ 9000 ∧ Q .non (upd H p (.ins (cR K) dx (rf (mkRat n d.toNat).num (mkRat n d.toNat).den))))
section
variable {P : Program} {w : World} {K : PySem.W.Frag} {mg : Str → Option Value} {base : Heap}
theorem gcd_turn (l r : Nat) : Nat.gcd r (l % r) = Nat.gcd l r := by rw [Nat.gcd_comm l r, Nat.gcd_rec r l, Nat.gcd_comm]
theorem ok_RI (T : Txt K mg) : ∃ fd, FunD K "__init__" "Ratio.__init__" (defArgs s_Ratio_init) (defBody s_Ratio_init) (defScope s_Ratio_init) (List.map (He.Dv.v K) [.int 1]) [] (ma K (cR K) "__init__") fd ∧
    FnOk P w K mg base (L2.CX P w) 1 (ma K (cR K) "__init__") fd ["self", "num", "den"] (spRI K) := by
  obtain ⟨fd, F⟩ := T.d_Ratio_init
  refine ⟨fd, F, F.ok sc_Ratio_init (fun vs H Q E h => ?_) (fun cdv A outer s H vs Q E hr h => ?_)⟩
  · obtain ⟨p, dx, n, d, rfl, _⟩ := h
    rfl
  · obtain ⟨p, dx, n, d, rfl, hp, kb, kg⟩ := h
    have nd := sc_Ratio_init.nd
    refine ⟨_, pss_cons (ps_if (pt_cmpR op_lt (pv 2) pe_int (nomark _)) (pss_one (ps_raise rfl (takes_of rfl rfl rfl rfl) (pmk_own PySem.F.excBase_ValueError T.x_BadRatio.1 T.g_BadRatio T.x_BadRatio.2.1 (raises_own T.x_BadRatio.2.2.1 T.x_BadRatio.2.2.2) rfl))) pss_nil)
      (pss_cons (ps_set (i := 3) nd rfl (Or.inl rfl) (pe_callB call_abs (by rfl) T.f_abs (by decide +kernel) (pa_cons (pv 1) pa_nil)))
      (pss_cons (ps_set (i := 4) nd rfl (Or.inl rfl) (pv 2))
      (pss_cons (ps_while (passes_of rfl) (pt_truth (pv 4) (by intro _; rfl)) (pss_one (ps_par (i := 3) (j := 4) (by rfl) nd rfl rfl (by decide) rfl rfl (pa_cons (pv 4) (pa_cons (pe_op op_mod (pv 3) (pv 4)) pa_nil)) (by rfl))))
      (pss_cons (ps_fld (pv 0) (pe_op op_fdivW (pv 1) (pv 3)) rfl)
      (pss_one (ps_fld (pv 0) (pe_op op_fdivW (pv 2) (pv 3)) rfl)))))), ?_⟩
    refine ⟨_, rfl, _, _, rfl, rfl, _, rfl, ite2 (fun c => kb (of_decide_eq_true c)) fun c => ?_⟩
    have hd : 0 < d := by
                       have c' : ¬ d < 1 := fun z => c (decide_eq_true z)
                       omega
    obtain ⟨hz, k⟩ := kg hd
    refine ⟨_, rfl, _, rfl, _, rfl, ?_⟩
    dsimp only [gName, tSeq]
    refine while_by (fun σ H' => H' = H ∧ ∃ l r : Nat, σ = [some (.ref p), some (.int n), some (.int d), some (.int (l : Int)), some (.int (r : Int))] ∧ Nat.gcd l r = Nat.gcd n.natAbs d.toNat)
      (fun σ _ => match σ with | [_, _, _, _, some (.int r)] => r.toNat | _ => 0) ⟨rfl, n.natAbs, d.toNat, ?_, rfl⟩ ?_ ?_
    · show [_, _, _, some (V.int (if n < 0 then -n else n)), some (V.int d)] = _
      have e1 : (if n < 0 then -n else n) = (n.natAbs : Int) := by split <;> omega
      have e2 : d = ((d.toNat : Nat) : Int) := by omega
      rw [e1, ← e2]
    · rintro σ H' ⟨rfl, l, r, rfl, hg⟩
      refine ⟨_, rfl, _, rfl, ite2 (fun c => ?_) fun c => ?_⟩
      · have hr0 : r ≠ 0 := by intro z; subst z; simp at c
        have hr1 : 0 < r := Nat.pos_of_ne_zero hr0
        refine ⟨_, rfl, _, rfl, _, rfl, _, _, rfl, rfl, (by show (0 : Int) < (r : Int); omega), _, _, rfl, ?_⟩
        refine ⟨⟨rfl, r, l % r, ?_, (gcd_turn l r).trans hg⟩, ?_⟩
        · show [_, _, _, some (V.int (r : Int)), some (V.int ((l : Int) % (r : Int)))] = _
          rw [← Int.natCast_emod]
        · show ((l : Int) % (r : Int)).toNat < ((r : Int)).toNat
          rw [← Int.natCast_emod]
          exact Nat.mod_lt l hr1
      · have hr0 : r = 0 := by
          cases r with
          | zero => rfl
          | succ r => exact absurd (by simp; omega) c
        subst hr0
        rw [Nat.gcd_zero_right] at hg
        have hdn : 0 < d.toNat := by omega
        have hl0 : 0 < l := by rw [hg]; exact Nat.gcd_pos_of_pos_right _ hdn
        have hl1 : l ≤ d.toNat := by rw [hg]; exact Nat.gcd_le_right _ hdn
        have hw : CDivW n (l : Int) := wide_div (b := 9000) (by omega) (by omega) (by omega) (by omega)
        have hw2 : CDivW d (l : Int) := hw
        refine ⟨_, rfl, _, rfl, _, _, rfl, rfl, hw, _, rfl, p, cR K, dx, [], rfl, hp, T.c_Ratio, T.a_Ratio_num, (by show 0 < 1000; decide), _, rfl, _, rfl, _, _, rfl, rfl, hw2, _, rfl, p, cR K, dx, _, rfl, upd_same, T.c_Ratio, T.a_Ratio_den, (by show 1 < 1000; decide), ?_⟩
        have en : (mkRat n d.toNat).num = n / (l : Int) := by
          rw [Rat.num_mkRat, if_neg (by omega), Nat.gcd_comm, ← hg]
        have ed : ((mkRat n d.toNat).den : Int) = d / (l : Int) := by
          rw [Rat.den_mkRat, if_neg (by omega), Nat.gcd_comm, ← hg, Int.natCast_ediv]
          congr 1; omega
        rw [upd_upd]
        have e1 : putF "den" (V.int (d / (l : Int))) (putF "num" (V.int (n / (l : Int))) []) = rf (mkRat n d.toNat).num (mkRat n d.toNat).den := by rw [en, ed, rf_put]
        rw [show putF (Str.ofString "den") (V.int (d / (l : Int))) (putF (Str.ofString "num") (V.int (n / (l : Int))) []) = _ from e1]
        exact k
    · intro σ H' Q Q' hq h
      obtain ⟨v, h1, b, h2, h3⟩ := h
      exact ⟨v, h1, b, h2, hq _ _ h3⟩
end
end LL
namespace LL
open PySem PySem.Spec PyProof.Rows L2 He
section
variable {P : Program} {w : World} {K : PySem.W.Frag} {mg : Str → Option Value} {base : Heap}
theorem fn_RI2 (T : Txt K mg) : Fn P w K mg base 1 (ma K (cR K) "__init__") (spRI K) := by
  obtain ⟨fd, F, G⟩ := ok_RI (P := P) (w := w) (base := base) T
  obtain ⟨ds, hd, hb⟩ := F.binds1 3 1 (by simp) rfl (ps := ["self", "num", "den"]) (fun _ _ _ _ _ _ _ us its hl hi => match us, hl, its, hi with | [_, _, _], _, [_], _ => ⟨_, rfl, rfl⟩)
  have e := G.raw hb hd
  exact e.imp fun vs H Q E h => by simpa using h
theorem fn_RI1 (T : Txt K mg) : Fn P w K mg base 1 (ma K (cR K) "__init__") (fun vs H Q E => spRI K (vs ++ [.int 1]) H Q E) := by
  obtain ⟨fd, F, G⟩ := ok_RI (P := P) (w := w) (base := base) T
  obtain ⟨ds, hd, hb⟩ := F.binds1 2 0 (by simp) rfl (ps := ["self", "num", "den"]) (fun _ _ _ _ _ _ _ us its hl hi => match us, hl, its, hi with | [_, _], _, [_], _ => ⟨_, rfl, rfl⟩)
  exact G.raw hb hd
/-- a rational whose parts are below 2 ^ k -/
def Sz (k : Nat) (q : Rat) : Prop := q.num.natAbs < 2 ^ k ∧ q.den < 2 ^ k
theorem Sz.mono {j k : Nat} {q : Rat} (h : Sz j q) (l : j ≤ k) : Sz k q :=
  ⟨Nat.lt_of_lt_of_le h.1 (Nat.pow_le_pow_right (by decide) l), Nat.lt_of_lt_of_le h.2 (Nat.pow_le_pow_right (by decide) l)⟩
/-- a new Ratio -/
theorem mk_ratio {H : Hp} {n d : Int} {Q : VK} {E : XK} (hd : 0 < d) (hz : d.natAbs < 2 ^ 9000) (k : ∀ v H', Same H H' → RatAt K H' v (mkRat n d.toNat) → Q v H') :
    ∀ x dx, H x = none → H dx = none → dx ≠ x → spRI K [.ref x, .int n, .int d] (upd (upd H dx (.own x)) x (.ins (cR K) dx [])) (fun v H2 => v = .non ∧ Q (.ref x) H2) E := by
  intro x dx nx ndx ne
  refine ⟨x, dx, n, d, rfl, upd_same, fun h => by omega, fun _ => ⟨hz, rfl, ?_⟩⟩
  refine k _ _ (fun b o e => ?_) ⟨x, dx, rfl, ?_⟩
  · rw [upd_ne (ne_of_none e nx), upd_ne (ne_of_none e nx), upd_ne (ne_of_none e ndx)]
    exact e
  · exact upd_same
theorem mul_lt_pow {a b m n : Nat} (h1 : a < 2 ^ m) (h2 : b < 2 ^ n) : a * b < 2 ^ (m + n) := by
  rw [Nat.pow_add]
  exact Nat.mul_lt_mul'' h1 h2
def spB (K : PySem.W.Frag) (f : Rat → Rat → Rat) : Sp := fun vs H Q _ => ∃ (x y : V) (p q : Rat) (j k : Nat), vs = [x, y] ∧ RatAt K H x p ∧ RatAt K H y q ∧ (1 ≤ j ∧ 1 ≤ k ∧ j + k ≤ 9000) ∧ Sz j p ∧ Sz k q ∧ ∀ v H', Same H H' → RatAt K H' v (f p q) → Q v H'
theorem add_mk (p q : Rat) : p + q = mkRat (p.num * q.den + q.num * p.den) ((p.den : Int) * (q.den : Int)).toNat := by
  rw [Rat.add_def, Rat.normalize_eq_mkRat, ← Int.natCast_mul, Int.toNat_natCast]
theorem sub_mk (p q : Rat) : p - q = mkRat (p.num * q.den - q.num * p.den) ((p.den : Int) * (q.den : Int)).toNat := by
  rw [Rat.sub_def, Rat.normalize_eq_mkRat, ← Int.natCast_mul, Int.toNat_natCast]
theorem mul_mk (p q : Rat) : p * q = mkRat (p.num * q.num) ((p.den : Int) * (q.den : Int)).toNat := by
  rw [Rat.mul_def, Rat.normalize_eq_mkRat, ← Int.natCast_mul, Int.toNat_natCast]
theorem den_nz (p q : Rat) : (0 : Int) < (p.den : Int) * (q.den : Int) := by
  have h1 := p.den_pos
  have h2 := q.den_pos
  exact Int.mul_pos (by omega) (by omega)
theorem den_sz {p q : Rat} {j k : Nat} (hp : Sz j p) (hq : Sz k q) (hk : j + k ≤ 9000) : ((p.den : Int) * (q.den : Int)).natAbs < 2 ^ 9000 := by
  rw [← Int.natCast_mul, Int.natAbs_natCast]
  exact Nat.lt_of_lt_of_le (mul_lt_pow hp.2 hq.2) (Nat.pow_le_pow_right (by decide) hk)
theorem cm {i j : Int} {a b : Nat} (h : 1 ≤ a ∧ 1 ≤ b ∧ a + b ≤ 9000) (ha : i.natAbs < 2 ^ a) (hb : j.natAbs < 2 ^ b) : CMulW i j := wide_mul ha hb (by omega) (by omega) (by omega)
theorem cm' {i j : Int} {a b : Nat} (h : 1 ≤ a ∧ 1 ≤ b ∧ a + b ≤ 9000) (ha : i.natAbs < 2 ^ b) (hb : j.natAbs < 2 ^ a) : CMulW i j := wide_mul ha hb (by omega) (by omega) (by omega)
theorem fn_Ratio_add (T : Txt K mg) : Fn P w K mg base 3 (ma K (cR K) "__add__") (spB K (· + ·)) := by
  obtain ⟨fd, F⟩ := T.d_Ratio_add
  have b := F.bindsN (ps := ["self", "other"]) fun _ _ _ _ _ _ us hl => match us, hl with | [_, _], _ => rfl
  refine (FnOk.raw (k := 3) (sp := spB K (· + ·)) (F.ok sc_Ratio_add (fun vs H Q E h => ?_) (fun cdv A outer s H vs Q E hr h => ?_)) b (dvs := []) .nil).imp (fun vs H Q E h => by simpa using h)
  · obtain ⟨x, y, p, q, _, _, rfl, _⟩ := h
    rfl
  · obtain ⟨x, y, p, q, j0, k0, rfl, ⟨a, dx, rfl, ha⟩, ⟨b, dy, rfl, hb⟩, hjk, zp, zq, k⟩ := h
    refine ⟨_, pss_one (ps_ret (StX.pe_makeR T.m_Ratio (fn_RI2 T) hr rfl T.g_Ratio pc (pa_cons (pe_op op_add (pe_op op_mulW (pe_fld (pv 0) rfl) (pe_fld (pv 1) rfl)) (pe_op op_mulW (pe_fld (pv 1) rfl) (pe_fld (pv 0) rfl))) (pa_cons (pe_op op_mulW (pe_fld (pv 0) rfl) (pe_fld (pv 1) rfl)) pa_nil)))), ?_⟩
    refine ⟨_, rfl, a, _, dx, _, _, rfl, ha, T.c_Ratio, T.a_Ratio_num, rf_num _ _, _, rfl, b, _, dy, _, _, rfl, hb, T.c_Ratio, T.a_Ratio_den, rf_den _ _, _, _, rfl, rfl, cm hjk zp.1 zq.2, ?_⟩
    refine ⟨_, rfl, b, _, dy, _, _, rfl, hb, T.c_Ratio, T.a_Ratio_num, rf_num _ _, _, rfl, a, _, dx, _, _, rfl, ha, T.c_Ratio, T.a_Ratio_den, rf_den _ _, _, _, rfl, rfl, cm' hjk zq.1 zp.2, _, _, rfl, rfl, ?_⟩
    refine ⟨_, rfl, a, _, dx, _, _, rfl, ha, T.c_Ratio, T.a_Ratio_den, rf_den _ _, _, rfl, b, _, dy, _, _, rfl, hb, T.c_Ratio, T.a_Ratio_den, rf_den _ _, _, _, rfl, rfl, cm hjk zp.2 zq.2, ?_⟩
    refine mk_ratio (den_nz p q) (den_sz zp zq (by omega)) fun v H' e r => k v H' e ?_
    rw [← add_mk] at r
    exact r
end
end LL
namespace LL
open PySem PySem.Spec PyProof.Rows L2 He
section
variable {P : Program} {w : World} {K : PySem.W.Frag} {mg : Str → Option Value} {base : Heap}
theorem fn_Ratio_sub (T : Txt K mg) : Fn P w K mg base 3 (ma K (cR K) "__sub__") (spB K (· - ·)) := by
  refine fn_def T.d_Ratio_sub sc_Ratio_sub (fun _ _ _ _ _ _ us hl => match us, hl with | [_, _], _ => rfl) (fun vs H Q E h => ?_) (fun cdv A outer s H vs Q E hr h => ?_)
  · obtain ⟨x, y, p, q, _, _, rfl, _⟩ := h
    rfl
  · obtain ⟨x, y, p, q, j0, k0, rfl, ⟨a, dx, rfl, ha⟩, ⟨b, dy, rfl, hb⟩, hjk, zp, zq, k⟩ := h
    refine ⟨_, pss_one (ps_ret (StX.pe_makeR T.m_Ratio (fn_RI2 T) hr rfl T.g_Ratio pc (pa_cons (pe_op op_sub (pe_op op_mulW (pe_fld (pv 0) rfl) (pe_fld (pv 1) rfl)) (pe_op op_mulW (pe_fld (pv 1) rfl) (pe_fld (pv 0) rfl))) (pa_cons (pe_op op_mulW (pe_fld (pv 0) rfl) (pe_fld (pv 1) rfl)) pa_nil)))), ?_⟩
    refine ⟨_, rfl, a, _, dx, _, _, rfl, ha, T.c_Ratio, T.a_Ratio_num, rf_num _ _, _, rfl, b, _, dy, _, _, rfl, hb, T.c_Ratio, T.a_Ratio_den, rf_den _ _, _, _, rfl, rfl, cm hjk zp.1 zq.2, ?_⟩
    refine ⟨_, rfl, b, _, dy, _, _, rfl, hb, T.c_Ratio, T.a_Ratio_num, rf_num _ _, _, rfl, a, _, dx, _, _, rfl, ha, T.c_Ratio, T.a_Ratio_den, rf_den _ _, _, _, rfl, rfl, cm' hjk zq.1 zp.2, _, _, rfl, rfl, ?_⟩
    refine ⟨_, rfl, a, _, dx, _, _, rfl, ha, T.c_Ratio, T.a_Ratio_den, rf_den _ _, _, rfl, b, _, dy, _, _, rfl, hb, T.c_Ratio, T.a_Ratio_den, rf_den _ _, _, _, rfl, rfl, cm hjk zp.2 zq.2, ?_⟩
    refine mk_ratio (den_nz p q) (den_sz zp zq (by omega)) fun v H' e r => k v H' e ?_
    rw [← sub_mk] at r
    exact r
theorem fn_Ratio_mul (T : Txt K mg) : Fn P w K mg base 3 (ma K (cR K) "__mul__") (spB K (· * ·)) := by
  refine fn_def T.d_Ratio_mul sc_Ratio_mul (fun _ _ _ _ _ _ us hl => match us, hl with | [_, _], _ => rfl) (fun vs H Q E h => ?_) (fun cdv A outer s H vs Q E hr h => ?_)
  · obtain ⟨x, y, p, q, _, _, rfl, _⟩ := h
    rfl
  · obtain ⟨x, y, p, q, j0, k0, rfl, ⟨a, dx, rfl, ha⟩, ⟨b, dy, rfl, hb⟩, hjk, zp, zq, k⟩ := h
    refine ⟨_, pss_one (ps_ret (StX.pe_makeR T.m_Ratio (fn_RI2 T) hr rfl T.g_Ratio pc (pa_cons (pe_op op_mulW (pe_fld (pv 0) rfl) (pe_fld (pv 1) rfl)) (pa_cons (pe_op op_mulW (pe_fld (pv 0) rfl) (pe_fld (pv 1) rfl)) pa_nil)))), ?_⟩
    refine ⟨_, rfl, a, _, dx, _, _, rfl, ha, T.c_Ratio, T.a_Ratio_num, rf_num _ _, _, rfl, b, _, dy, _, _, rfl, hb, T.c_Ratio, T.a_Ratio_num, rf_num _ _, _, _, rfl, rfl, cm hjk zp.1 zq.1, ?_⟩
    refine ⟨_, rfl, a, _, dx, _, _, rfl, ha, T.c_Ratio, T.a_Ratio_den, rf_den _ _, _, rfl, b, _, dy, _, _, rfl, hb, T.c_Ratio, T.a_Ratio_den, rf_den _ _, _, _, rfl, rfl, cm hjk zp.2 zq.2, ?_⟩
    refine mk_ratio (den_nz p q) (den_sz zp zq (by omega)) fun v H' e r => k v H' e ?_
    rw [← mul_mk] at r
    exact r
def spEqR (K : PySem.W.Frag) : Sp := fun vs H Q _ => ∃ (x y : V) (p q : Rat), vs = [x, y] ∧ RatAt K H x p ∧ RatAt K H y q ∧ ∀ H', Same H H' → Q (.bl (decide (p = q))) H'
theorem eqv_pair (a b c d : Int) : PyData.eqv (.tuple [.int a, .int b]) (.tuple [.int c, .int d]) = decide (a = c ∧ b = d) := by
  simp only [PyData.eqv, PyData.eqvAll, Bool.and_true, Bool.decide_and]
  congr 1
theorem fn_Ratio_eq (T : Txt K mg) : Fn P w K mg base 1 (ma K (cR K) "__eq__") (spEqR K) := by
  refine fn_def T.d_Ratio_eq sc_Ratio_eq (fun _ _ _ _ _ _ us hl => match us, hl with | [_, _], _ => rfl) (fun vs H Q E h => ?_) (fun cdv A outer s H vs Q E hr h => ?_)
  · obtain ⟨x, y, p, q, rfl, _⟩ := h
    rfl
  · obtain ⟨x, y, p, q, rfl, ⟨a, dx, rfl, ha⟩, ⟨b, dy, rfl, hb⟩, k⟩ := h
    refine ⟨_, pss_one (ps_ret (pe_and (pe_callB call_isi (by rfl) T.f_isinstance (by decide +kernel) (pa_cons (pv 1) (pa_cons (pe_gr T.g_Ratio) pa_nil)))
      (pe_one (pe_cmpR (op_eqD hr.units) (pe_tup (pa_cons (pe_fld (pv 0) rfl) (pa_cons (pe_fld (pv 0) rfl) pa_nil))) (pe_tup (pa_cons (pe_fld (pv 1) rfl) (pa_cons (pe_fld (pv 1) rfl) pa_nil))) (nomark _))))), ?_⟩
    refine ⟨_, rfl, _, _, _, _, _, rfl, ClsV.own _, TyX.base (TyOf.ins hb T.c_Ratio T.oc_Ratio T.og T.ot T.om_Ratio), T.ki_Ratio_Ratio, true, rfl, iteT ?_⟩
    refine ⟨_, rfl, a, _, dx, _, _, rfl, ha, T.c_Ratio, T.a_Ratio_num, rf_num _ _, _, rfl, a, _, dx, _, _, rfl, ha, T.c_Ratio, T.a_Ratio_den, rf_den _ _, (by show 2 ≤ sizeLine; decide), fun t1 n1 => ?_⟩
    have hb1 : (upd H t1 (.tup [.int p.num, .int p.den])) b = _ := (upd_ne (ne_of_none hb n1)).trans hb
    refine ⟨_, rfl, b, _, dy, _, _, rfl, hb1, T.c_Ratio, T.a_Ratio_num, rf_num _ _, _, rfl, b, _, dy, _, _, rfl, hb1, T.c_Ratio, T.a_Ratio_den, rf_den _ _, (by show 2 ≤ sizeLine; decide), fun t2 n2 => ?_⟩
    have ht1 : upd (upd H t1 (.tup [.int p.num, .int p.den])) t2 (.tup [.int q.num, .int q.den]) t1 = some (.tup [.int p.num, .int p.den]) := (upd_ne (ne_of_none upd_same n2)).trans upd_same
    refine ⟨_, _, Dp.tup (SqT.of ht1) (.cons (.int _) (.cons (.int _) .nil)), Dp.tup (SqT.of upd_same) (.cons (.int _) (.cons (.int _) .nil)), rfl, rfl, ?_⟩
    rw [eqv_pair]
    have e : decide (p = q) = decide (p.num = q.num ∧ (p.den : Int) = q.den) := by
      have z : p = q ↔ (p.num = q.num ∧ (p.den : Int) = q.den) := ⟨fun h => by subst h; exact ⟨rfl, rfl⟩, fun h => Rat.ext h.1 (Int.ofNat.inj h.2)⟩
      simp only [z]
    rw [← e]
    exact k _ fun c o h => by rw [upd_ne (ne_of_none ((upd_ne (ne_of_none h n1)).trans h) n2), upd_ne (ne_of_none h n1)]; exact h
/-- what str writes -/
def ratStr (q : Rat) : Str := if q.den = 1 then Str.ofString (toString q.num) else Str.ofString (toString q.num) ++ Str.ofString "/" ++ Str.ofString (toString (q.den : Int))
theorem empty_cat (x : Str) : Str.empty ++ x = x := by
  obtain ⟨c⟩ := x
  show Str.mk (#[] ++ c) = ⟨c⟩
  simp
def spStrR (K : PySem.W.Frag) : Sp := fun vs H Q _ => ∃ (x : V) (p : Rat), vs = [x] ∧ RatAt K H x p ∧ Sz 1900 p ∧ Q (.str (ratStr p)) H
theorem log_lt {n k : Nat} (h : n < 2 ^ k) (hk : 0 < k) : n.log2 < k := PySem.Flt.log2_lt_of hk h
theorem fn_Ratio_str (T : Txt K mg) : Fn P w K mg base 1 (ma K (cR K) "__str__") (spStrR K) := by
  refine fn_def T.d_Ratio_str sc_Ratio_str (fun _ _ _ _ _ _ us hl => match us, hl with | [_], _ => rfl) (fun vs H Q E h => ?_) (fun cdv A outer s H vs Q E hr h => ?_)
  · obtain ⟨x, p, rfl, _⟩ := h
    rfl
  · obtain ⟨x, p, rfl, ⟨a, dx, rfl, ha⟩, zp, k⟩ := h
    refine ⟨_, pss_cons (ps_if (pt_cmpR op_eq (pe_fld (pv 0) rfl) pe_int (nomark _)) (pss_one (ps_ret (pe_callTy call_str_int (by rfl) T.f_str (by decide +kernel) (pa_cons (pe_fld (pv 0) rfl) pa_nil)))) pss_nil)
      (pss_one (ps_ret (pe_joined (PJ.cons (pe_fmt (pe_fld (pv 0) rfl)) (PJ.cons pe_str (PJ.cons (pe_fmt (pe_fld (pv 0) rfl)) .nil)))))), ?_⟩
    refine ⟨_, rfl, a, _, dx, _, _, rfl, ha, T.c_Ratio, T.a_Ratio_den, rf_den _ _, rfl, _, rfl, ite2 (fun c => ?_) fun c => ?_⟩
    · have c' : p.den = 1 := by
        have := of_decide_eq_true c
        simp only [V.int.injEq] at this
        omega
      have ek : ratStr p = Str.ofString (toString p.num) := by unfold ratStr; rw [if_pos c']
      rw [ek] at k
      exact ⟨_, rfl, a, _, dx, _, _, rfl, ha, T.c_Ratio, T.a_Ratio_num, rf_num _ _, _, rfl, log_lt (Nat.lt_of_lt_of_le zp.1 (Nat.pow_le_pow_right (by decide) (by decide))) (by decide), k⟩
    · have c' : ¬ p.den = 1 := fun z => c (decide_eq_true (by rw [z]; rfl))
      have ek : ratStr p = Str.ofString (toString p.num) ++ Str.ofString "/" ++ Str.ofString (toString (p.den : Int)) := by unfold ratStr; rw [if_neg c']
      have l1 : p.num.natAbs.log2 < 1920 := log_lt (Nat.lt_of_lt_of_le zp.1 (Nat.pow_le_pow_right (by decide) (by decide))) (by decide)
      have l2 : ((p.den : Int)).natAbs.log2 < 1920 := log_lt (by rw [Int.natAbs_natCast]; exact Nat.lt_of_lt_of_le zp.2 (Nat.pow_le_pow_right (by decide) (by decide))) (by decide)
      have z1 := int_text_len_1921 l1
      have z2 := int_text_len_1921 l2
      have sl : 100000 ≤ sizeLine := by decide
      have s1 : (Str.ofString "/").length = 1 := by decide +kernel
      rw [ek] at k
      refine ⟨_, rfl, a, _, dx, _, _, rfl, ha, T.c_Ratio, T.a_Ratio_num, rf_num _ _, .inr ⟨_, rfl, l1, _, rfl, ?_, _, rfl, ?_, _, rfl, a, _, dx, _, _, rfl, ha, T.c_Ratio, T.a_Ratio_den, rf_den _ _, .inr ⟨_, rfl, l2, _, rfl, ?_, ?_⟩⟩⟩
      · rw [empty_cat]; omega
      · rw [empty_cat, PySem.strLen_append]; omega
      · rw [empty_cat, PySem.strLen_append, PySem.strLen_append]; omega
      · rw [empty_cat]; exact k
end
end LL
/-! == of lists and tuples, item by item, either way -/
namespace QB
open PySem PySem.SeqAt
open AutoSeq1 (wpAny_loadPart')
open MeetsSeq MeetsSeq2 MeetsSeq3 SeqRoads2 GQ
section
variable {prog : Program} {w : World} {A : Around} {R : Result → Shared → Prop}
/-- at each turn the two lists are read anew: N items each, the i-th two are equal if e i -/
def ListB (prog : Program) (w : World) (A : Around) (E : Value → Shared → Prop) (l b : Addr) (N : Nat) (e : Nat → Bool) (I : Nat → Shared → Prop) : Prop :=
  ∀ i s, I i s → ∃ (items items2 : Array Value) (n n2 : Nat), s.heap.get? l = some { cls := .type "list", data := .seq items n } ∧ s.heap.get? b = some { cls := .type "list", data := .seq items2 n2 } ∧ items.size = N ∧ items2.size = N ∧
    ∀ (h1 : i < items.size) (h2 : i < items2.size), wpAny (model prog w) A.in1 (eqBool items[i] items2[i]) (fun r s' => r = e i ∧ I (i + 1) s') E s
def allE (e : Nat → Bool) (i N : Nat) : Bool := (List.range (N - i)).all fun j => e (i + j)
theorem allE_end {e : Nat → Bool} {N : Nat} : allE e N N = true := by unfold allE; rw [Nat.sub_self]; rfl
theorem allE_step {e : Nat → Bool} {i N : Nat} (h : i < N) : allE e i N = (e i && allE e (i + 1) N) := by
  unfold allE
  obtain ⟨k, rfl⟩ : ∃ k, N = i + 1 + k := ⟨N - (i + 1), by omega⟩
  rw [show i + 1 + k - i = k + 1 by omega, show i + 1 + k - (i + 1) = k by omega, List.range_succ_eq_map, List.all_cons, List.all_map]
  congr 1
  congr 1
  funext j
  show e (i + (j + 1)) = e (i + 1 + j)
  congr 1
  omega
theorem eq_loopB (l b : Addr) (N : Nat) (e : Nat → Bool) (I : Nat → Shared → Prop) (hl : ListB prog w A (fun e s' => R (.error e) s') l b N e I)
    (B : Bool) (fin : ∀ i s, I i s → R (.ok (.ret (.bool B))) s) (k : Nat) :
    ∀ i : Nat, N - i = k → i ≤ N → allE e i N = B → ∀ s, I i s →
      wpAny (model prog w) A.in1 (Builtin.«list.__eq__.loop» ⟨[.ref l, .ref b, rawInt i, rawInt 2], []⟩) (FinOf prog w A R) (fun e s' => R (.error e) s') s := by
  induction k with
  | zero =>
    intro i hk hi hB s h
    obtain ⟨items, items2, n, n2, hl1, hb1, hs1, hs2, _⟩ := hl _ _ h
    have hi' : i = N := by omega
    have hB' : B = true := by rw [← hB, hi', allE_end]
    have hR : R (.ok (.ret (.bool true))) s := by rw [← hB']; exact fin i s h
    obtain ⟨hp, g, d, tk, os⟩ := s
    wp_walk using wpAny_loadPart' hl1, wpAny_loadPart' hb1
    have hi1 : items[((i : Nat) : Int).toNat]? = none := by simp; omega
    have hi2 : items2[((i : Nat) : Int).toNat]? = none := by simp; omega
    rw [hi1, hi2]
    wp_walk using wpAny_loadPart' hl1, wpAny_loadPart' hb1
    show R (.ok (.ret (.bool (items.size == items2.size)))) _
    rw [hs1, hs2]
    simpa using hR
  | succ k ih =>
    intro i hk hi hB s h
    obtain ⟨items, items2, n, n2, hl1, hb1, hs1, hs2, turn⟩ := hl _ _ h
    have hlt : i < items.size := by omega
    have hlt2 : i < items2.size := by omega
    have ht := turn hlt hlt2
    rw [allE_step (by omega)] at hB
    obtain ⟨hp, g, d, tk, os⟩ := s
    wp_walk using wpAny_loadPart' hl1, wpAny_loadPart' hb1
    have hi1 : items[((i : Nat) : Int).toNat]? = some items[i] := by simp [hlt]
    have hi2 : items2[((i : Nat) : Int).toNat]? = some items2[i] := by simp [hlt2]
    have hc : ((i : Int) + 1) = ((i + 1 : Nat) : Int) := by omega
    rw [hi1, hi2]
    refine wpAny_bind (wpAny_mono ht (fun r s2 h2 => ?_) fun _ _ x => x)
    obtain ⟨hr, h2⟩ := h2
    subst hr
    cases he : e i with
    | true =>
      have hrec := ih (i + 1) (by omega) (by omega) (by rw [he] at hB; simpa using hB) s2 h2
      obtain ⟨hp2, g2, d2, tk2, os2⟩ := s2
      wp_walk
      rw [hc]
      exact ⟨plainId_quiet plain_eq_loop _, codeAny_builtin entry_eq_loop (by
        rw [Around.under_plainId plain_eq_loop _]
        exact hrec)⟩
    | false =>
      have hB' : B = false := by rw [he] at hB; simpa using hB.symm
      have hR : R (.ok (.ret (.bool false))) s2 := by rw [← hB']; exact fin _ s2 h2
      obtain ⟨items', items2', n', n2', hl1', hb1', hs1', hs2', _⟩ := hl _ _ h2
      obtain ⟨hp2, g2, d2, tk2, os2⟩ := s2
      wp_walk using wpAny_loadPart' hl1', wpAny_loadPart' hb1'
      have hi1' : items'[((i : Nat) : Int).toNat]? = some items'[i] := by simp [show i < items'.size by omega]
      have hi2' : items2'[((i : Nat) : Int).toNat]? = some items2'[i] := by simp [show i < items2'.size by omega]
      rw [hi1', hi2']
      wp_walk using wpAny_loadPart' hl1', wpAny_loadPart' hb1'
      exact hR
theorem list_eqB (l b : Addr) (N : Nat) (e : Nat → Bool) (I : Nat → Shared → Prop) (hl : ListB prog w A (fun e s' => R (.error e) s') l b N e I)
    (fin : ∀ i s, I i s → R (.ok (.ret (.bool (allE e 0 N)))) s) {s : Shared} (h : I 0 s) :
    wpAny (model prog w) A.in1 (Builtin.«list.__eq__» ⟨[.ref l, .ref b], []⟩) (FinOf prog w A R) (fun e s' => R (.error e) s') s := by
  obtain ⟨items, items2, n, n2, hl1, hb1, hs1, hs2, _⟩ := hl _ _ h
  have hrec := eq_loopB (A := A) (R := R) l b N e I hl _ fin _ 0 rfl (Nat.zero_le _) rfl s h
  obtain ⟨hp, g, d, tk, os⟩ := s
  have f3 := AutoSeq1.sub_list_list
  have hne : ¬ (items.size != items2.size) = true := by simp [hs1, hs2]
  wp_walk using wpAny_loadPart' hl1, wpAny_loadPart' hb1
  exact ⟨plainId_quiet plain_eq_loop _, codeAny_builtin entry_eq_loop (by
    rw [Around.under_plainId plain_eq_loop _]
    exact hrec)⟩
/-- lists of different length -/
theorem list_neB (l b : Addr) {items items2 : Array Value} {n n2 : Nat} {s : Shared} (hl1 : s.heap.get? l = some { cls := .type "list", data := .seq items n }) (hb1 : s.heap.get? b = some { cls := .type "list", data := .seq items2 n2 }) (hsz : items.size ≠ items2.size)
    (fin : R (.ok (.ret (.bool false))) s) : wpAny (model prog w) A.in1 (Builtin.«list.__eq__» ⟨[.ref l, .ref b], []⟩) (FinOf prog w A R) (fun e s' => R (.error e) s') s := by
  obtain ⟨hp, g, d, tk, os⟩ := s
  have f3 := AutoSeq1.sub_list_list
  have hne : (items.size != items2.size) = true := by simp [hsz]
  wp_walk using wpAny_loadPart' hl1, wpAny_loadPart' hb1
  exact fin
theorem tuple_eqB (l b : Addr) (items items2 : Array Value) (n n2 : Nat) (dd dd2 : Option Addr) (sl sl2 : Array (Option Value)) (e : Nat → Bool) (I : Nat → Shared → Prop)
    (turn : ∀ i (h1 : i < items.size) (h2 : i < items2.size) s, I i s → wpAny (model prog w) A.in1 (eqBool items[i] items2[i]) (fun r s' => r = e i ∧ I (i + 1) s') (fun e s' => R (.error e) s') s)
    (fin : ∀ i s, I i s → R (.ok (.ret (.bool (decide (items.size = items2.size) && allE e 0 items.size)))) s) {s : Shared} (hl1 : s.heap.get? l = some { cls := .type "tuple", dict := dd, data := .seq items n, slots := sl }) (hb1 : s.heap.get? b = some { cls := .type "tuple", dict := dd2, data := .seq items2 n2, slots := sl2 }) (h : I 0 s) :
    wpAny (model prog w) A.in1 (Builtin.«tuple.__eq__» ⟨[.ref l, .ref b], []⟩) (FinOf prog w A R) (fun e s' => R (.error e) s') s := by
  have f2 := AutoSeq1.sub_tuple_tuple
  have hZ : (items.toList.zip items2.toList).length = min items.size items2.size := by simp
  have h0 := h
  obtain ⟨hp, g, d, tk, os⟩ := s
  have hB : ∀ i, i ≤ items.size → allE e 0 items.size = (allE e 0 i && allE e i items.size) := by
    intro i hi
    unfold allE
    obtain ⟨k, hk⟩ : ∃ k, items.size = i + k := ⟨items.size - i, by omega⟩
    rw [hk, show i + k - 0 = i + k by omega, show i - 0 = i by omega, show i + k - i = k by omega, List.range_add, List.all_append, List.all_map]
    congr 1
    congr 1
    funext j
    show e (0 + (i + j)) = e (i + j)
    rw [Nat.zero_add]
  wp_walk using wpAny_loadPart' hl1, wpAny_loadPart' hb1, wpAny_forIn_list _ (fun rest b s' => (b.1 = none ∧ ∃ i, rest = (items.toList.zip items2.toList).drop i ∧ i ≤ items.size ∧ i ≤ items2.size ∧ allE e 0 i = true ∧ I i s') ∨
    (rest = [] ∧ b.1 = some (.done (.ret (.bool false))) ∧ (decide (items.size = items2.size) && allE e 0 items.size) = false ∧ ∃ i, I i s')) _
  case turn =>
    rintro ⟨y, x⟩ rest b s' (⟨hb', i, hz, hi, hi2, hae, hI⟩ | ⟨hz, _⟩)
    case inr => cases hz
    have hlt : i < (items.toList.zip items2.toList).length := by
      rcases Nat.lt_or_ge i (items.toList.zip items2.toList).length with h' | h'
      · exact h'
      · rw [List.drop_of_length_le h'] at hz; cases hz
    rw [hZ] at hlt
    have h1 : i < items.size := by omega
    have h2 : i < items2.size := by omega
    rw [List.drop_eq_getElem_cons (by rw [hZ]; exact hlt)] at hz
    injection hz with hyx hrest
    have hy : y = items[i] := by have := congrArg Prod.fst hyx; simpa using this
    have hx : x = items2[i] := by have := congrArg Prod.snd hyx; simpa using this
    subst hy hx
    refine wpAny_bind (wpAny_mono (turn i h1 h2 s' hI) (fun r s2 q2 => ?_) fun _ _ x => x)
    obtain ⟨hr, q2⟩ := q2
    subst hr
    cases he : e i with
    | true =>
      wp_walk
      refine .inl ⟨rfl, i + 1, hrest, h1, h2, ?_, q2⟩
      unfold allE at hae ⊢
      rw [Nat.sub_zero] at hae
      rw [Nat.sub_zero, List.range_succ, List.all_append, hae]
      simp [he]
    | false =>
      have hR := fin _ s2 q2
      rw [hB i (by omega), allE_step h1, he] at hR
      simp only [Bool.false_and, Bool.and_false] at hR
      wp_walk
      exact hR
  case fin =>
    rintro ⟨b1, b2⟩ s' (⟨hb', i, hz, hi, hi2, hae, hI⟩ | ⟨_, hb', hfa, i, hI⟩)
    · simp only at hb'
      subst hb'
      have hge : min items.size items2.size ≤ i := by
        rcases Nat.lt_or_ge i (items.toList.zip items2.toList).length with h' | h'
        · rw [List.drop_eq_getElem_cons h'] at hz; cases hz
        · rw [← hZ]; exact h'
      have hR := fin i s' hI
      wp_walk
      show R (.ok (.ret (.bool (items.size == items2.size)))) _
      have : (items.size == items2.size) = (decide (items.size = items2.size) && allE e 0 items.size) := by
        by_cases z : items.size = items2.size
        · have : i = items.size := by omega
          subst this
          rw [hae]
          simp [z]
        · simp [z]
      rw [this]
      exact hR
    · simp only at hb'
      subst hb'
      have hR := fin i s' hI
      rw [hfa] at hR
      wp_walk
      exact hR
  case h =>
    exact .inl ⟨rfl, 0, rfl, Nat.zero_le _, Nat.zero_le _, rfl, h0⟩
section
variable {prog : Program} {w : World} {A : Around} {E : Value → Shared → Prop} {s : Shared}
theorem rc_listB {l b : Addr} {N : Nat} {e : Nat → Bool} {Q : Value → Shared → Prop} (hu : A.units < cLine) (I : Nat → Shared → Prop) (hl : ListB prog w A E l b N e I)
    (fin : ∀ i s, I i s → Q (.bool (allE e 0 N)) s) (h : I 0 s) : wpAny (model prog w) A (richCompare .Eq (.ref l) (.ref b)) Q E s := by
  obtain ⟨items, items2, n, n2, hl1, hb1, _, _, _⟩ := hl _ _ h
  refine wpAny_richCompare_same_room (op := .Eq) ⟨_, hl1, rfl⟩ ⟨_, hb1, rfl⟩ F.slot_list_eq (call_here F.slot_list_eq ⟨_, hl1, rfl⟩ F.entry_list_eq (F.args_list_eq_2 _ _) ?_) hu
  exact list_eqB (R := wants (fun v s' => v ≠ .notImplemented ∧ Q v s') E) l b N e I hl (fun i s' q => ⟨(fun x => nomatch x), fin i s' q⟩) h
theorem rc_listNeB {l b : Addr} {items items2 : Array Value} {n n2 : Nat} {Q : Value → Shared → Prop} (hu : A.units < cLine) (hl1 : s.heap.get? l = some { cls := .type "list", data := .seq items n }) (hb1 : s.heap.get? b = some { cls := .type "list", data := .seq items2 n2 }) (hsz : items.size ≠ items2.size)
    (h : Q (.bool false) s) : wpAny (model prog w) A (richCompare .Eq (.ref l) (.ref b)) Q E s := by
  refine wpAny_richCompare_same_room (op := .Eq) ⟨_, hl1, rfl⟩ ⟨_, hb1, rfl⟩ F.slot_list_eq (call_here F.slot_list_eq ⟨_, hl1, rfl⟩ F.entry_list_eq (F.args_list_eq_2 _ _) ?_) hu
  exact list_neB (R := wants (fun v s' => v ≠ .notImplemented ∧ Q v s') E) l b hl1 hb1 hsz ⟨(fun x => nomatch x), h⟩
theorem rc_tupB {l b : Addr} {items items2 : Array Value} {e : Nat → Bool} {Q : Value → Shared → Prop} (hu : A.units < cLine) (I : Nat → Shared → Prop)
    (hl : s.heap.IsTuple l items) (hb : s.heap.IsTuple b items2)
    (turn : ∀ i (h1 : i < items.size) (h2 : i < items2.size) s, I i s → wpAny (model prog w) A.in1 (eqBool items[i] items2[i]) (fun r s' => r = e i ∧ I (i + 1) s') E s)
    (fin : ∀ i s, I i s → Q (.bool (decide (items.size = items2.size) && allE e 0 items.size)) s) (h : I 0 s) : wpAny (model prog w) A (richCompare .Eq (.ref l) (.ref b)) Q E s := by
  obtain ⟨⟨cls, dd, data, sl⟩, ho, hc, n, hd⟩ := id hl
  obtain ⟨⟨cls2, dd2, data2, sl2⟩, ho2, hc2, n2, hd2⟩ := id hb
  simp only at hc hd hc2 hd2
  subst hc hd hc2 hd2
  refine wpAny_richCompare_same_room (op := .Eq) ⟨_, ho, rfl⟩ ⟨_, ho2, rfl⟩ F.slot_tuple_eq (call_here F.slot_tuple_eq ⟨_, ho, rfl⟩ F.entry_tuple_eq (F.args_tuple_eq_2 _ _) ?_) hu
  exact tuple_eqB (R := wants (fun v s' => v ≠ .notImplemented ∧ Q v s') E) l b items items2 n n2 dd dd2 sl sl2 e I turn (fun i s' q => ⟨(fun x => nomatch x), fin i s' q⟩) ho ho2 h
end
end
end QB
namespace LL
open PySem PySem.Spec PyProof.Rows L2 He Evl
/-! ### the law's pool of draws -/
structure Pl where
  cells : List Int
  at_ : Addr
  ix : Nat
  big : Int
  st : Int
  run : Int
  bud : Int
def Pl.l (P : Pl) : List V := [.ref P.at_, .int P.ix, .int P.big, .int P.st, .int P.run, .int P.bud]
/-- the pool P stands at p -/
structure PoolAt (H : Hp) (p : Addr) (P : Pl) : Prop where
  l : H p = some (.lst P.l)
  c : H P.at_ = some (.lst (P.cells.map V.int))
  n : P.cells.length ≤ 63
theorem PoolAt.ne {H : Hp} {p : Addr} {P : Pl} (h : PoolAt H p P) : P.at_ ≠ p := by
  intro e
  have h1 := h.c
  rw [e, h.l] at h1
  simp only [Option.some.injEq, HO.lst.injEq, Pl.l] at h1
  cases hc : P.cells with
  | nil => rw [hc] at h1; simp at h1
  | cons a r => rw [hc] at h1; simp at h1
/-- all but what stands at p is as it was -/
def But (p : Addr) (H H' : Hp) : Prop := ∀ b o, b ≠ p → H b = some o → H' b = some o
theorem But.refl {p : Addr} (H : Hp) : But p H H := fun _ _ _ h => h
theorem But.trans {p : Addr} {H H1 H2 : Hp} (a : But p H H1) (b : But p H1 H2) : But p H H2 := fun c o n h => b c o n (a c o n h)
theorem But.same {p : Addr} {H H' : Hp} (e : Same H H') : But p H H' := fun b o _ h => e b o h
theorem But.upd {p : Addr} {H : Hp} {o : HO} : But p H (upd H p o) := fun b _ n h => (upd_ne n).trans h
theorem But.put {p : Addr} {H H' : Hp} {o : HO} (h : But p H H') : But p H (L2.upd H' p o) := h.trans .upd
theorem PoolAt.put {H : Hp} {p : Addr} {P P' : Pl} (h : PoolAt H p P) (e : P'.at_ = P.at_ ∧ P'.cells = P.cells) : PoolAt (upd H p (.lst P'.l)) p P' :=
  ⟨upd_same, by rw [e.1, e.2, upd_ne h.ne]; exact h.c, by rw [e.2]; exact h.n⟩
theorem PoolAt.mono {H H' : Hp} {p : Addr} {P : Pl} (e : Same H H') (h : PoolAt H p P) : PoolAt H' p P := ⟨e _ _ h.l, e _ _ h.c, h.n⟩
def spPool (K : PySem.W.Frag) : Sp := fun vs H Q _ => ∃ (a : Addr) (ns : List Int) (b : Int), vs = [.ref a, .int b] ∧ SqL K H a (ns.map V.int) ∧ ns.length ≤ 63 ∧ ∀ p H' P, Same H H' → H p = none → H P.at_ = none → PoolAt H' p P → P.bud = b → Q (.ref p) H'
/-- _law_draw(pool, n): some number from 0 to n - 1, the pool changed -/
def spDraw : Sp := fun vs H Q _ => ∃ (p : Addr) (n : Int) (P : Pl), vs = [.ref p, .int n] ∧ PoolAt H p P ∧ 0 < n ∧ n < 1073741824 ∧
  ∀ (r : Int) (P' : Pl), 0 ≤ r → r < n → P'.at_ = P.at_ → P'.cells = P.cells → P'.bud = P.bud → Q (.int r) (upd H p (.lst P'.l))
section
variable {P : Program} {w : World} {K : PySem.W.Frag} {mg : Str → Option Value} {base : Heap}
theorem fn_l_pool (T : Txt K mg) : Fn P w K mg base 1 (ga K "_law_pool") (spPool K) := by
  refine fn_def T.d_l_pool sc_l_pool (fun _ _ _ _ _ _ us hl => match us, hl with | [_, _], _ => rfl) (fun vs H Q E h => ?_) (fun cdv A outer s H vs Q E hr h => ?_)
  · obtain ⟨a, ns, b, rfl, _⟩ := h
    rfl
  · obtain ⟨a, ns, b, rfl, hS, hz, k⟩ := h
    refine ⟨_, pss_one (ps_ret (pe_lst (pa_cons (pe_callTy call_list_of (by rfl) T.f_list (by decide +kernel) (pa_cons (pv 0) pa_nil)) (pa_cons (pe_int) (pa_cons (pe_int) (pa_cons (pe_int) (pa_cons (pe_int) (pa_cons (pv 1) pa_nil)))))))), ?_⟩
    refine ⟨_, rfl, a, _, rfl, .inl hS, fun c nc => ?_⟩
    refine ⟨_, rfl, (by show 6 ≤ sizeLine; decide), fun p np => ?_⟩
    have ncp : c ≠ p := ne_of_none upd_same np
    have np0 : H p = none := by rw [upd_ne ncp.symm] at np; exact np
    refine k p _ ⟨ns, c, 0, 0, 1, 0, b⟩ (fun x o e => ?_) np0 nc ⟨upd_same, (upd_ne ncp).trans upd_same, hz⟩ rfl
    rw [upd_ne (ne_of_none e np0), upd_ne (ne_of_none e nc)]
    exact e
theorem w_ix {σ : L2.St} {H : Hp} {Q : VK} {i : Nat} {p : Addr} {xs : List V} {k : Int} {v : V} (hp : H p = some (.lst xs)) (ha : atI xs k = some v) (q : Q v H) (hs : σ[i]? = some (some (.ref p)) := by rfl) : tOp (rIxL K) (tVar i) (tC (.int k)) σ H Q :=
  ⟨_, hs, p, xs, k, v, rfl, rfl, SqL.of hp, ha, q⟩
theorem fn_l_draw (T : Txt K mg) : Fn P w K mg base 1 (ga K "_law_draw") (spDraw) := by
  refine fn_def T.d_l_draw sc_l_draw (fun _ _ _ _ _ _ us hl => match us, hl with | [_, _], _ => rfl) (fun vs H Q E h => ?_) (fun cdv A outer s H vs Q E hr h => ?_)
  · obtain ⟨a, ns, b, rfl, _⟩ := h
    rfl
  · obtain ⟨p, n, ⟨cells, at_, ix, big, st, run, bud⟩, rfl, hP, h0, h1, k⟩ := h
    have nd := sc_l_draw.nd
    refine ⟨_, Evl.pss_cut (ps_if (PW.pt (pw_and (pt_cmpR op_le (pe_ix ix_list (pv 0) (pe_int) (fun _ _ => rfl)) (pe_int) (nomark _)) (pw_and (pt_cmpR op_le (pe_ix ix_list (pv 0) (pe_int) (fun _ _ => rfl)) (pe_int) (nomark _)) (pw_and1 (pt_cmpR op_lt (pe_ix ix_list (pv 0) (pe_int) (fun _ _ => rfl)) (pe_callB call_len_seq (by rfl) T.f_len PySem.boot_len (pa_cons (pe_ix ix_list (pv 0) (pe_int) (fun _ _ => rfl)) pa_nil)) (nomark _)))))) (pss_cons (ps_set (i := 2) nd rfl (by first | exact Or.inl rfl | exact Or.inr rfl) (pe_ix ix_list (pe_ix ix_list (pv 0) (pe_int) (fun _ _ => rfl)) (pe_ix ix_list (pv 0) (pe_int) (fun _ _ => rfl)) (fun _ _ => rfl)))
      (pss_cons (ps_asg (pe_op op_add (pe_ix ix_list (pv 0) (pe_int) (fun _ _ => rfl)) (pe_int)) (pg_sub (pv 0) (pe_int) set_list))
      (pss_cons (ps_asg (pe_op op_mod (pe_callTy call_int1 (by rfl) T.f_int (by decide +kernel) (pa_cons (pe_op op_add (pe_op op_mul (pe_ix ix_list (pv 0) (pe_int) (fun _ _ => rfl)) (pe_int)) (pv 2)) pa_nil)) (pe_int)) (pg_sub (pv 0) (pe_int) set_list))
      (pss_cons (ps_asg (pe_int) (pg_sub (pv 0) (pe_int) set_list))
      (pss_one (ps_if (pt_cmpR op_ge (pv 2) (pe_op op_pow (pe_int) (pe_int)) (nomark _)) (pss_one (ps_asg (pv 2) (pg_sub (pv 0) (pe_int) set_list))) (pss_nil))))))) (pss_nil))
      (pss_cons (ps_if (pt_cmpR op_gt (pe_ix ix_list (pv 0) (pe_int) (fun _ _ => rfl)) (pe_int) (nomark _)) (pss_cons (ps_set (i := 3) nd rfl (by first | exact Or.inl rfl | exact Or.inr rfl) (pe_op op_mod (pe_callTy call_int1 (by rfl) T.f_int (by decide +kernel) (pa_cons (pe_ix ix_list (pv 0) (pe_int) (fun _ _ => rfl)) pa_nil)) (pv 1)))
      (pss_cons (ps_asg (pe_op op_fdiv (pe_ix ix_list (pv 0) (pe_int) (fun _ _ => rfl)) (pv 1)) (pg_sub (pv 0) (pe_int) set_list))
      (pss_cons (ps_asg (pe_int) (pg_sub (pv 0) (pe_int) set_list))
      (pss_one (ps_ret (pv 3)))))) (pss_nil))
      (pss_cons (ps_asg (pe_op op_sub (pe_ix ix_list (pv 0) (pe_int) (fun _ _ => rfl)) (pe_int)) (pg_sub (pv 0) (pe_int) set_list))
      (pss_cons (ps_asg (pe_op op_mod (pe_callTy call_int1 (by rfl) T.f_int (by decide +kernel) (pa_cons (pe_op op_add (pe_op op_mul (pe_ix ix_list (pv 0) (pe_int) (fun _ _ => rfl)) (pe_int)) (pe_int)) pa_nil)) (pe_int)) (pg_sub (pv 0) (pe_int) set_list))
      (pss_one (ps_ret (pe_op op_mod (pe_op op_mod (pe_callTy call_int1 (by rfl) T.f_int (by decide +kernel) (pa_cons (pe_op op_add (pe_op op_mul (pe_ix ix_list (pv 0) (pe_int) (fun _ _ => rfl)) (pe_int)) (pe_int)) pa_nil)) (pe_int)) (pv 1))))))), ?_⟩
    have hl : H p = some (.lst [.ref at_, .int ix, .int big, .int st, .int run, .int bud]) := hP.l
    have hc : H at_ = some (.lst (cells.map V.int)) := hP.c
    have nac : at_ ≠ p := hP.ne
    refine ⟨fun σ H' => ∃ (P' : Pl) (v : Option V), σ = [some (.ref p), some (.int n), v, none] ∧ H' = upd H p (.lst P'.l) ∧ P'.at_ = at_ ∧ P'.cells = cells ∧ P'.bud = bud, ?_, ?_⟩
    · have no : ∃ (P' : Pl) (v : Option V), L2.start n_l_draw [V.ref p, V.int n] = [some (.ref p), some (.int n), v, none] ∧ H = upd H p (.lst (Pl.l P')) ∧ P'.at_ = at_ ∧ P'.cells = cells ∧ P'.bud = bud := by
        refine ⟨⟨cells, at_, ix, big, st, run, bud⟩, none, rfl, ?_, rfl, rfl, rfl⟩
        funext b
        by_cases e : b = p
        · subst e; rw [upd_same]; exact hl
        · rw [upd_ne e]
      refine ⟨_, rfl, p, _, _, _, rfl, rfl, SqL.of hl, rfl, _, _, rfl, rfl, _, rfl, ite2 (fun c1 => ?_) fun c1 => iteF no⟩
      refine ⟨_, rfl, p, _, _, _, rfl, rfl, SqL.of hl, rfl, _, _, rfl, rfl, _, rfl, ite2 (fun c2 => ?_) fun c2 => iteF no⟩
      refine ⟨_, rfl, p, _, _, _, rfl, rfl, SqL.of hl, rfl, _, rfl, p, _, _, _, rfl, rfl, SqL.of hl, rfl, at_, _, rfl, .inl (SqL.of hc), _, _, rfl, rfl, _, rfl, ite2 (fun c3 => ?_) fun c3 => no⟩
      have c3' : ix < cells.length := by
        have := of_decide_eq_true c3
        rw [List.length_map] at this
        omega
      have hx : atI (cells.map V.int) (ix : Int) = some (V.int cells[ix]) := at_of (j := ix) rfl (by rw [List.getElem?_map, List.getElem?_eq_getElem c3']; rfl)
      refine ⟨_, rfl, p, _, _, _, rfl, rfl, SqL.of hl, rfl, _, rfl, p, _, _, _, rfl, rfl, SqL.of hl, rfl, at_, _, _, _, rfl, rfl, SqL.of hc, hx, ?_⟩
      refine ⟨_, rfl, p, _, _, _, rfl, rfl, SqL.of hl, rfl, _, _, rfl, rfl, _, rfl, p, _, _, _, rfl, rfl, hl, rfl, ?_⟩
      refine ⟨_, rfl, p, _, _, _, rfl, rfl, SqL.of upd_same, rfl, _, _, rfl, rfl, .inr ⟨by decide, by decide⟩, _, rfl, _, _, rfl, rfl, .inl ⟨_, rfl, _, _, rfl, rfl, (by show (0 : Int) < 2147483647; decide), _, rfl, p, _, _, _, rfl, rfl, upd_same, rfl, ?_⟩⟩
      refine ⟨_, rfl, p, _, _, _, rfl, rfl, upd_same, rfl, ?_⟩
      refine ⟨_, rfl, _, _, rfl, rfl, ⟨by decide, by decide, by decide⟩, _, _, rfl, rfl, _, rfl, ite2 (fun c4 => ?_) fun c4 => ?_⟩
      · refine ⟨_, rfl, _, rfl, p, _, _, _, rfl, rfl, upd_same, rfl, ?_⟩
        refine ⟨⟨cells, at_, ix + 1, cells[ix], (st * 31 + cells[ix]) % 2147483647, 7, bud⟩, _, rfl, ?_, rfl, rfl, rfl⟩
        rw [upd_upd, upd_upd, upd_upd]
        rfl
      · refine ⟨⟨cells, at_, ix + 1, big, (st * 31 + cells[ix]) % 2147483647, 7, bud⟩, _, rfl, ?_, rfl, rfl, rfl⟩
        rw [upd_upd, upd_upd]
        rfl
    · rintro σ H' ⟨⟨cells', at', ix', big', st', run', bud'⟩, v, rfl, rfl, e1, e2, e3⟩
      dsimp only at e1 e2 e3
      subst e1 e2 e3
      refine ⟨_, rfl, p, _, _, _, rfl, rfl, SqL.of upd_same, rfl, _, _, rfl, rfl, _, rfl, ite2 (fun c5 => ?_) fun c5 => ?_⟩
      · refine ⟨_, rfl, p, _, _, _, rfl, rfl, SqL.of upd_same, rfl, .inl ⟨_, rfl, _, rfl, _, _, rfl, rfl, h0, ?_⟩⟩
        refine ⟨_, rfl, p, _, _, _, rfl, rfl, SqL.of upd_same, rfl, _, rfl, _, _, rfl, rfl, ⟨h0, h1⟩, _, rfl, p, _, _, _, rfl, rfl, upd_same, rfl, ?_⟩
        refine ⟨_, rfl, p, _, _, _, rfl, rfl, upd_same, rfl, _, rfl, ?_⟩
        rw [upd_upd, upd_upd]
        exact k (big' % n) ⟨cells', at', ix', big' / n, st', 0, bud'⟩ (Int.emod_nonneg _ (by omega)) (Int.emod_lt_of_pos _ h0) rfl rfl rfl
      · refine ⟨_, rfl, p, _, _, _, rfl, rfl, SqL.of upd_same, rfl, _, _, rfl, rfl, _, rfl, p, _, _, _, rfl, rfl, upd_same, rfl, ?_⟩
        refine ⟨_, rfl, p, _, _, _, rfl, rfl, SqL.of upd_same, rfl, _, _, rfl, rfl, .inr ⟨by decide, by decide⟩, _, _, rfl, rfl, .inl ⟨_, rfl, _, _, rfl, rfl, (by show (0 : Int) < 2147483647; decide), _, rfl, p, _, _, _, rfl, rfl, upd_same, rfl, ?_⟩⟩
        refine ⟨_, rfl, p, _, _, _, rfl, rfl, SqL.of upd_same, rfl, _, _, rfl, rfl, .inr ⟨by decide, by decide⟩, _, _, rfl, rfl, .inl ⟨_, rfl, _, _, rfl, rfl, (by show (0 : Int) < 2147483647; decide), _, rfl, _, _, rfl, rfl, h0, ?_⟩⟩
        rw [upd_upd, upd_upd]
        exact k _ ⟨cells', at', ix', big', (st' * 48271 + 12345) % 2147483647, run' - 1, bud'⟩ (Int.emod_nonneg _ (by omega)) (Int.emod_lt_of_pos _ h0) rfl rfl rfl
theorem PoolAt.step {H : Hp} {p : Addr} {P P' : Pl} (h : PoolAt H p P) (e1 : P'.at_ = P.at_) (e2 : P'.cells = P.cells) : PoolAt (upd H p (.lst P'.l)) p P' ∧ But p H (upd H p (.lst P'.l)) := ⟨h.put ⟨e1, e2⟩, .upd⟩
theorem at3 {a b c : V} {r : Int} (h0 : 0 ≤ r) (h1 : r < 3) : ∃ v, atI [a, b, c] r = some v ∧ (v = a ∨ v = b ∨ v = c) := by
  rcases (show r = 0 ∨ r = 1 ∨ r = 2 by omega) with rfl | rfl | rfl
  · exact ⟨_, rfl, .inl rfl⟩
  · exact ⟨_, rfl, .inr (.inl rfl)⟩
  · exact ⟨_, rfl, .inr (.inr rfl)⟩
theorem at2 {a b : V} {r : Int} (h0 : 0 ≤ r) (h1 : r < 2) : ∃ v, atI [a, b] r = some v ∧ (v = a ∨ v = b) := by
  rcases (show r = 0 ∨ r = 1 by omega) with rfl | rfl
  · exact ⟨_, rfl, .inl rfl⟩
  · exact ⟨_, rfl, .inr rfl⟩
end
section
variable {P : Program} {w : World} {K : PySem.W.Frag} {mg : Str → Option Value} {base : Heap}
/-! ### data and their kinds -/
def Dep : Nat → PyData → Prop
  | 0, .list _ => False
  | 0, .tuple _ => False
  | n + 1, .list ds => ds.length ≤ 100000 ∧ ∀ d ∈ ds, Dep n d
  | n + 1, .tuple ds => ds.length ≤ 100000 ∧ ∀ d ∈ ds, Dep n d
  | _, .dict _ => False
  | _, _ => True
def tyN : PyData → String
  | .none => "NoneType" | .bool _ => "bool" | .int _ => "int" | .str _ => "str" | .list _ => "list" | .tuple _ => "tuple" | .dict _ => "dict"
def isTup : PyData → Bool | .tuple _ => true | _ => false
def isLst : PyData → Bool | .list _ => true | _ => false
def isBoo : PyData → Bool | .bool _ => true | _ => false
def isInt : PyData → Bool | .bool _ => true | .int _ => true | _ => false
def isStr : PyData → Bool | .str _ => true | _ => false
theorem ty_dp {H : Hp} {v : V} {d : PyData} (h : Dp K H v d) : TyX K H v (.type (tyN d)) := by
  cases h with
  | non => exact .base .non
  | bl b => exact .base (.bl b)
  | int i => exact .base (.int i)
  | str x => exact .base (.str x)
  | lst hs _ =>
    rcases hs with (h | ⟨o, h⟩) | ⟨o, its, n, h, c, _⟩
    · exact .base (.lst h)
    · exact .base (.frz h)
    · exact .kList h c
  | tup hs _ =>
    rcases hs with (h | ⟨o, h⟩) | ⟨o, its, n, h, c, _⟩
    · exact .base (.tup h)
    · exact .fTuple h
    · exact .kTuple h c
theorem kit_tup (d : PyData) : PySem.W.kitOne K (.type (tyN d)) (.type "tuple") = some (isTup d) := by cases d <;> (simp only [tyN, isTup, isLst, isBoo, isInt, isStr]; exact kit_ty (by decide +kernel))
theorem kit_lst (d : PyData) : PySem.W.kitOne K (.type (tyN d)) (.type "list") = some (isLst d) := by cases d <;> (simp only [tyN, isTup, isLst, isBoo, isInt, isStr]; exact kit_ty (by decide +kernel))
theorem kit_boo (d : PyData) : PySem.W.kitOne K (.type (tyN d)) (.type "bool") = some (isBoo d) := by cases d <;> (simp only [tyN, isTup, isLst, isBoo, isInt, isStr]; exact kit_ty (by decide +kernel))
theorem kit_int (d : PyData) : PySem.W.kitOne K (.type (tyN d)) (.type "int") = some (isInt d) := by cases d <;> (simp only [tyN, isTup, isLst, isBoo, isInt, isStr]; exact kit_ty (by decide +kernel))
theorem kit_str (d : PyData) : PySem.W.kitOne K (.type (tyN d)) (.type "str") = some (isStr d) := by cases d <;> (simp only [tyN, isTup, isLst, isBoo, isInt, isStr]; exact kit_ty (by decide +kernel))
theorem dp_all_len {H : Hp} : ∀ {xs : List V} {ds : List PyData}, DpAll K H xs ds → xs.length = ds.length
  | _, _, .nil => rfl
  | _, _, .cons _ t => congrArg (· + 1) (dp_all_len t)
theorem dp_all_get {H : Hp} : ∀ {xs : List V} {ds : List PyData} {i : Nat}, DpAll K H xs ds → i < xs.length → ∃ x d, xs[i]? = some x ∧ ds[i]? = some d ∧ Dp K H x d
  | _, _, 0, .cons h _, _ => ⟨_, _, rfl, rfl, h⟩
  | _, _, i + 1, .cons _ t, l => dp_all_get (i := i) t (by simpa using l)
  | _, _, _, .nil, l => by simp at l
def isNon : PyData → Bool | .none => true | _ => false
theorem dp_non {H : Hp} {v : V} {d : PyData} (h : Dp K H v d) : decide (v = .non) = isNon d := by
  cases h <;> simp [isNon]
mutual
theorem dp_mono {H H' : Hp} (e : Ex H H') : ∀ {v : V} {d : PyData}, Dp K H v d → Dp K H' v d
  | _, _, .non => .non
  | _, _, .bl b => .bl b
  | _, _, .int i => .int i
  | _, _, .str x => .str x
  | _, _, .lst h a => .lst (ex_l e h) (dpa_mono e a)
  | _, _, .tup h a => .tup (ex_t e h) (dpa_mono e a)
theorem dpa_mono {H H' : Hp} (e : Ex H H') : ∀ {vs : List V} {ds : List PyData}, DpAll K H vs ds → DpAll K H' vs ds
  | _, _, .nil => .nil
  | _, _, .cons h a => .cons (dp_mono e h) (dpa_mono e a)
end
theorem ev_isi {σ : L2.St} {H : Hp} {ta : TE} {x : V} {d : PyData} {n : String} {b : Bool} (ha : Ev ta σ H x) (hd : Dp K H x d) (hk : PySem.W.kitOne K (.type (tyN d)) (.type n) = some b) : Ev (tCB (rIsi K) (tCons ta (tCons (tC (.ty n)) tNil))) σ H (.bl b) :=
  fun H1 e Q q => ha H1 e _ fun H2 e2 => ⟨_, _, _, _, b, rfl, ClsV.ty _, ty_dp (dp_mono (e.trans e2) hd), hk, q H2 e2⟩
theorem ev_isN {σ : L2.St} {H : Hp} {ta : TE} {x : V} {d : PyData} (ha : Ev ta σ H x) (hd : Dp K H x d) : Ev (tOp (fun x y H Q => y = .non ∧ Q (.bl (decide (x = .non))) H) ta (tC .non)) σ H (.bl (isNon d)) :=
  fun H1 e Q q => ha H1 e _ fun H2 e2 => ⟨rfl, by rw [dp_non hd]; exact q H2 e2⟩
theorem ev_eqD {σ : L2.St} {H : Hp} {ta tb : TE} {x y : V} {d f : PyData} (ha : Ev ta σ H x) (hb : Ev tb σ H y) (hd : Dp K H x d) (hf : Dp K H y f) (s1 : SeqAt.shaped d = true) (s2 : SeqAt.shaped f = true) : Ev (tOp (rEqD K) ta tb) σ H (.bl (PyData.eqv d f)) :=
  fun H1 e Q q => ha H1 e _ fun H2 e2 => hb H2 (e.trans e2) _ fun H3 e3 => ⟨d, f, dp_mono ((e.trans e2).trans e3) hd, dp_mono ((e.trans e2).trans e3) hf, s1, s2, q H3 (e2.trans e3)⟩
theorem ev_lenS {σ : L2.St} {H : Hp} {ta : TE} {a : Addr} {xs : List V} (ha : Ev ta σ H (.ref a)) (h : SqL K H a xs ∨ SqT K H a xs) : Ev (tCB (rLenS K) (tCons ta tNil)) σ H (.int (xs.length : Int)) :=
  fun H1 e Q q => ha H1 e _ fun H2 e2 => ⟨_, xs, rfl, h.imp (ex_l (e.trans e2)) (ex_t (e.trans e2)), q H2 e2⟩
open Classical in
noncomputable def same (d e : PyData) : Bool := decide (d = e)
theorem same_t {d e : PyData} (h : d = e) : same d e = true := by simp [same, h]
theorem same_f {d e : PyData} (h : d ≠ e) : same d e = false := by simp [same, h]
theorem same_of {d e : PyData} {b : Bool} (h : b = true ↔ d = e) : b = same d e := by
  cases b with
  | true => exact (same_t (h.mp rfl)).symm
  | false => exact (same_f fun z => by simpa using h.mpr z).symm
def spSame (K : PySem.W.Frag) (n : Nat) : Sp := fun vs H Q _ => ∃ (x y : V) (d e : PyData), vs = [x, y] ∧ Dp K H x d ∧ Dp K H y e ∧ Dep n e ∧ ∀ H', Ex H H' → Q (.bl (same d e)) H'
theorem sv_same {n : Nat} {H : Hp} {x y : V} {d e : PyData} (hd : Dp K H x d) (he : Dp K H y e) (hn : Dep n e) : SpV (spSame K n) [x, y] H (.bl (same d e)) :=
  fun H1 e1 Q q E => ⟨x, y, d, e, rfl, dp_mono e1 hd, dp_mono e1 he, hn, fun H' e2 => q H' e2⟩
theorem ev_fn {sp : Sp} {vs : List V} {E : XK} {ta : TA} {σ : L2.St} {H : Hp} {z : V} (h : EvA ta σ H vs) (hs : SpV sp vs H z) : Ev (fun σ H Q => ta σ H fun vs H1 => sp vs H1 Q E) σ H z := fun H1 e Q q =>
  h H1 e _ fun H2 e2 => hs H2 (e.trans e2) Q (fun H3 e3 => q H3 (e2.trans e3)) E
theorem rv_seq {H : Hp} {p : Addr} {xs : List V} {i : Int} {v : V} (h : SqL K H p xs ∨ SqT K H p xs) (ha : atI xs i = some v) : RV (fun x y H Q => rIxL K x y H Q ∨ rIxT K x y H Q ∨ rIxS x y H Q) (.ref p) (.int i) H v :=
  fun H1 e Q q => h.elim (fun h => .inl (rv_ixL h ha H1 e Q q)) (fun h => .inr (.inl (rv_ixT h ha H1 e Q q)))
theorem leaf_eq {H : Hp} {x y : V} {d e : PyData} (hd : Dp K H x d) (he : Dp K H y e) (ht : tyN d = tyN e) (h1 : isTup e = false) (h2 : isLst e = false) : scal x y = true ∧ decide (x = y) = same d e := by
  have hs : scal x y = true := by cases hd <;> cases he <;> first | rfl | (simp [tyN] at ht; done) | (simp [isTup] at h1; done) | (simp [isLst] at h2; done)
  refine ⟨hs, same_of ?_⟩
  cases hd <;> cases he <;> first | (simp [tyN] at ht; done) | (simp [isTup] at h1; done) | (simp [isLst] at h2; done) | simp
def spPrev (K : PySem.W.Frag) : Nat → Sp
  | 0 => fun _ _ _ _ => False
  | n + 1 => spSame K n
theorem dp_seq {H : Hp} {a : Addr} {e : PyData} (h : Dp K H (.ref a) e) : ∃ xs ds, DpAll K H xs ds ∧ ((e = .list ds ∧ SqL K H a xs) ∨ (e = .tuple ds ∧ SqT K H a xs)) := by
  cases h with
  | lst h1 h2 => exact ⟨_, _, h2, .inl ⟨rfl, h1⟩⟩
  | tup h1 h2 => exact ⟨_, _, h2, .inr ⟨rfl, h1⟩⟩
theorem fn_l_same (T : Txt K mg) : ∀ n, Fn P w K mg base (n + 1) (ga K "_law_same") (spSame K n) := by
  have go : ∀ n, Fn P w K mg base n (ga K "_law_same") (spPrev K n) → Fn P w K mg base (n + 1) (ga K "_law_same") (spSame K n) := by
    intro n IH
    refine fn_def T.d_l_same sc_l_same (fun _ _ _ _ _ _ us hl => match us, hl with | [_, _], _ => rfl) (fun vs H Q E h => ?_) (fun cdv A outer s H vs Q E hr h => ?_)
    · obtain ⟨a, ns, _, b, rfl, _⟩ := h
      rfl
    · obtain ⟨x, y, d, e, rfl, hd, he, hde, k⟩ := h
      have nd := sc_l_same.nd
      refine ⟨_, pss_cons (ps_if (PW.pt (pw_or (pt_val (pe_callB call_isi (by rfl) T.f_isinstance (by decide +kernel) (pa_cons (pv 1) (pa_cons (pe_bltn (v := .ty "tuple") rfl T.f_tuple (by decide +kernel) rfl) pa_nil)))) (pw_or1 (pt_val (pe_callB call_isi (by rfl) T.f_isinstance (by decide +kernel) (pa_cons (pv 1) (pa_cons (pe_bltn (v := .ty "list") rfl T.f_list (by decide +kernel) rfl) pa_nil))))))) (pss_cons (ps_if (PW.pt (pw_or (pt_cmpR op_ne (pe_callB call_isi (by rfl) T.f_isinstance (by decide +kernel) (pa_cons (pv 1) (pa_cons (pe_bltn (v := .ty "tuple") rfl T.f_tuple (by decide +kernel) rfl) pa_nil))) (pe_callB call_isi (by rfl) T.f_isinstance (by decide +kernel) (pa_cons (pv 0) (pa_cons (pe_bltn (v := .ty "tuple") rfl T.f_tuple (by decide +kernel) rfl) pa_nil))) (nomark _)) (pw_or1 (pt_cmpR op_ne (pe_callB call_isi (by rfl) T.f_isinstance (by decide +kernel) (pa_cons (pv 1) (pa_cons (pe_bltn (v := .ty "list") rfl T.f_list (by decide +kernel) rfl) pa_nil))) (pe_callB call_isi (by rfl) T.f_isinstance (by decide +kernel) (pa_cons (pv 0) (pa_cons (pe_bltn (v := .ty "list") rfl T.f_list (by decide +kernel) rfl) pa_nil))) (nomark _))))) (pss_one (ps_ret (pe_bl))) (pss_nil))
      (pss_cons (ps_if (pt_cmpR op_ne (pe_callB call_len_seq (by rfl) T.f_len PySem.boot_len (pa_cons (pv 0) pa_nil)) (pe_callB call_len_seq (by rfl) T.f_len PySem.boot_len (pa_cons (pv 1) pa_nil)) (nomark _)) (pss_one (ps_ret (pe_bl))) (pss_nil))
      (pss_cons (ps_for (passes_of rfl) rfl (pi_range1 rfl T.f_range (pa_cons (pe_callB call_len_seq (by rfl) T.f_len PySem.boot_len (pa_cons (pv 1) pa_nil)) pa_nil)) (pg_name (i := 2) nd rfl (by first | exact Or.inl rfl | exact Or.inr rfl)) (pss_one (ps_if (pt_not (pt_val (pe_fn T.d_l_same IH hr T.g_l_same pc (pa_cons (pe_ix ix_seq (pv 0) (pv 2) (fun _ _ => rfl)) (pa_cons (pe_ix ix_seq (pv 1) (pv 2) (fun _ _ => rfl)) pa_nil))))) (pss_one (ps_ret (pe_bl))) (pss_nil))))
      (pss_one (ps_ret (pe_bl)))))) (pss_nil))
      (pss_cons (ps_if (PW.pt (pw_or (pt_cmpR op_isN (pv 1) (pe_non) (nomark _)) (pw_or1 (pt_val (pe_callB call_isi (by rfl) T.f_isinstance (by decide +kernel) (pa_cons (pv 1) (pa_cons (pe_bltn (v := .ty "bool") rfl T.f_bool (by decide +kernel) rfl) pa_nil))))))) (pss_one (ps_ret (pe_and (pe_cmpR op_eq (pe_cmpR op_isN (pv 0) (pe_non) (nomark _)) (pe_cmpR op_isN (pv 1) (pe_non) (nomark _)) (nomark _)) (pe_and (pe_or (pe_cmpR op_isN (pv 1) (pe_non) (nomark _)) (pe_one (pe_callB call_isi (by rfl) T.f_isinstance (by decide +kernel) (pa_cons (pv 0) (pa_cons (pe_bltn (v := .ty "bool") rfl T.f_bool (by decide +kernel) rfl) pa_nil))))) (pe_one (pe_cmpR op_eq (pv 0) (pv 1) (nomark _))))))) (pss_nil))
      (pss_cons (ps_if (pt_val (pe_callB call_isi (by rfl) T.f_isinstance (by decide +kernel) (pa_cons (pv 1) (pa_cons (pe_bltn (v := .ty "int") rfl T.f_int (by decide +kernel) rfl) pa_nil)))) (pss_one (ps_ret (pe_and (pe_callB call_isi (by rfl) T.f_isinstance (by decide +kernel) (pa_cons (pv 0) (pa_cons (pe_bltn (v := .ty "int") rfl T.f_int (by decide +kernel) rfl) pa_nil))) (pe_and (pe_not (pe_callB call_isi (by rfl) T.f_isinstance (by decide +kernel) (pa_cons (pv 0) (pa_cons (pe_bltn (v := .ty "bool") rfl T.f_bool (by decide +kernel) rfl) pa_nil)))) (pe_one (pe_cmpR op_eq (pv 0) (pv 1) (nomark _))))))) (pss_nil))
      (pss_one (ps_ret (pe_and (pe_callB call_isi (by rfl) T.f_isinstance (by decide +kernel) (pa_cons (pv 0) (pa_cons (pe_bltn (v := .ty "str") rfl T.f_str (by decide +kernel) rfl) pa_nil))) (pe_one (pe_cmpR op_eq (pv 0) (pv 1) (nomark _)))))))), ?_⟩
      have vx : ∀ H1, Ev (tVar 0) (L2.start n_l_same [x, y]) H1 x := fun H1 => ev_var rfl
      have vy : ∀ H1, Ev (tVar 1) (L2.start n_l_same [x, y]) H1 y := fun H1 => ev_var rfl
      refine s_if (et_or (et_B (ev_isi (vy _) he (kit_tup e))) fun _ => et_B (ev_isi (vy _) he (kit_lst e))) (fun hb H1 e1 => ?_) (fun hb H1 e1 => ?_)
      · have hb' : isTup e = true ∨ isLst e = true := by
          cases h1 : isTup e with
          | true => exact .inl rfl
          | false => rw [h1] at hb; exact .inr (by simpa using hb)
        have hd1 := dp_mono e1 hd
        have he1 := dp_mono e1 he
        refine s_if (et_or (et_test (ev_op (ev_isi (vy _) he1 (kit_tup e)) (ev_isi (vx _) hd1 (kit_tup d)) (rv_ne rfl))) fun _ => et_test (ev_op (ev_isi (vy _) he1 (kit_lst e)) (ev_isi (vx _) hd1 (kit_lst d)) (rv_ne rfl))) (fun hc H2 e2 => ?_) (fun hc H2 e2 => ?_)
        · have ne : d ≠ e := fun z => by subst z; simp at hc
          exact s_ret ev_c fun H3 e3 => by rw [same_f ne] at k; exact k H3 ((e1.trans e2).trans e3)
        · have h1 : isTup e = isTup d := by
            cases h1 : isTup e <;> cases h2 : isTup d <;> rw [h1, h2] at hc <;> simp at hc ⊢
          have h2 : isLst e = isLst d := by
            cases h1 : isLst e <;> cases h2 : isLst d <;> rw [h1, h2] at hc <;> simp at hc ⊢
          have both : ∃ (a b : Addr) (xs ys : List V) (ds es : List PyData), x = .ref a ∧ y = .ref b ∧ DpAll K H xs ds ∧ DpAll K H ys es ∧ (SqL K H a xs ∨ SqT K H a xs) ∧ (SqL K H b ys ∨ SqT K H b ys) ∧ (d = e ↔ ds = es) ∧ es.length ≤ 100000 ∧ ∃ m, n = m + 1 ∧ ∀ z ∈ es, Dep m z := by
            cases he with
            | lst g1 g2 =>
              cases hd with
              | lst f1 f2 =>
                cases n with
                | zero => exact hde.elim
                | succ m => exact ⟨_, _, _, _, _, _, rfl, rfl, f2, g2, .inl f1, .inl g1, by simp, hde.1, m, rfl, hde.2⟩
              | _ => simp [isLst] at h2
            | tup g1 g2 =>
              cases hd with
              | tup f1 f2 =>
                cases n with
                | zero => exact hde.elim
                | succ m => exact ⟨_, _, _, _, _, _, rfl, rfl, f2, g2, .inr f1, .inr g1, by simp, hde.1, m, rfl, hde.2⟩
              | _ => simp [isTup] at h1
            | _ => simp [isTup, isLst] at hb'
          obtain ⟨a, b, xs, ys, ds, es, rfl, rfl, fx, fy, sx, sy, hiff, hlen, m, rfl, hdm⟩ := both
          have lx := dp_all_len fx
          have ly := dp_all_len fy
          have e12 := e1.trans e2
          have sx2 := sx.imp (ex_l e12) (ex_t e12)
          have sy2 := sy.imp (ex_l e12) (ex_t e12)
          refine s_if (et_test (ev_op (ev_lenS (vx _) sx2) (ev_lenS (vy _) sy2) (rv_ne rfl))) (fun hc H3 e3 => ?_) (fun hc H3 e3 => ?_)
          · have ne : d ≠ e := fun z => by
              have := hiff.mp z
              subst this
              simp [lx, ly] at hc
            exact s_ret ev_c fun H4 e4 => by rw [same_f ne] at k; exact k H4 ((e12.trans e3).trans e4)
          · have el : xs.length = ys.length := by
              have : (xs.length : Int) = ys.length := by simpa using hc
              omega
            have e13 := e12.trans e3
            have sy3 := sy.imp (ex_l e13) (ex_t e13)
            have sx3 := sx.imp (ex_l e13) (ex_t e13)
            refine s_forR1 (n := (ys.length : Int)) (ea_cons (ev_lenS (vy _) sy3) ea_nil) (by omega) (fun i σ' H' => Ex H H' ∧ (∃ v, σ' = [some (.ref a), some (.ref b), v]) ∧ ds.take i = es.take i) (fun H4 e4 => ⟨e13.trans e4, ⟨none, rfl⟩, rfl⟩) ?_ ?_
            · rintro i σ' H' hi ⟨e4, ⟨v, rfl⟩, ht⟩
              have hi' : i < ys.length := by omega
              obtain ⟨x1, d1, gx, gd, gp⟩ := dp_all_get fx (by omega : i < xs.length)
              obtain ⟨y1, d2, gy, ge, gq⟩ := dp_all_get fy hi'
              have sx4 := sx.imp (ex_l e4) (ex_t e4)
              have sy4 := sy.imp (ex_l e4) (ex_t e4)
              have r1 : Ev (tOp (fun x y H Q => rIxL K x y H Q ∨ rIxT K x y H Q ∨ rIxS x y H Q) (tVar 0) (tVar 2)) [some (.ref a), some (.ref b), some (.int (i : Int))] H' x1 := ev_op (ev_var rfl) (ev_var rfl) (rv_seq sx4 (atI_nat gx))
              have r2 : Ev (tOp (fun x y H Q => rIxL K x y H Q ∨ rIxT K x y H Q ∨ rIxS x y H Q) (tVar 1) (tVar 2)) [some (.ref a), some (.ref b), some (.int (i : Int))] H' y1 := ev_op (ev_var rfl) (ev_var rfl) (rv_seq sy4 (atI_nat gy))
              have td : ds.take (i + 1) = ds.take i ++ [d1] := by rw [List.take_add_one, gd]; rfl
              have te : es.take (i + 1) = es.take i ++ [d2] := by rw [List.take_add_one, ge]; rfl
              refine s_if (et_not (et_B (ev_fn (ea_cons r1 (ea_cons r2 ea_nil)) (sv_same (dp_mono e4 gp) (dp_mono e4 gq) (hdm _ (List.mem_of_getElem? ge)))))) (fun hc H5 e5 => ?_) (fun hc H5 e5 => ?_)
              · have n1 : d1 ≠ d2 := fun z => by rw [same_t z] at hc; simp at hc
                have ne : d ≠ e := fun z => by
                  have := hiff.mp z
                  subst this
                  rw [gd] at ge
                  exact n1 (Option.some.inj ge)
                exact s_ret ev_c fun H6 e6 => by rw [same_f ne] at k; exact k H6 ((e4.trans e5).trans e6)
              · have n1 : d1 = d2 := Classical.byContradiction fun z => by rw [same_f z] at hc; simp at hc
                exact ⟨e4.trans e5, ⟨_, rfl⟩, by rw [td, te, ht, n1]⟩
            · rintro σ' H' ⟨e4, ⟨v, rfl⟩, ht⟩
              have eq : ds = es := by
                have h1 : ds.take ds.length = ds := List.take_length
                have h2 : es.take es.length = es := List.take_length
                have z1 : ((ys.length : Int)).toNat = ds.length := by omega
                have z2 : ((ys.length : Int)).toNat = es.length := by omega
                rw [z1] at ht
                rw [h1] at ht
                rw [ht]
                rw [← z1, z2, h2]
              dsimp only
              exact s_ret ev_c fun H5 e5 => by rw [same_t (hiff.mpr eq)] at k; exact k H5 (e4.trans e5)
      · have n1 : isTup e = false := by cases h : isTup e <;> rw [h] at hb <;> simp at hb ⊢
        have n2 : isLst e = false := by cases h : isLst e <;> rw [h] at hb <;> simp at hb ⊢
        have hd1 := dp_mono e1 hd
        have he1 := dp_mono e1 he
        refine s_if (et_or (et_test (ev_isN (vy _) he1)) fun _ => et_B (ev_isi (vy _) he1 (kit_boo e))) (fun hc H2 e2 => ?_) (fun hc H2 e2 => ?_)
        · have hd2 := dp_mono e2 hd1
          have he2 := dp_mono e2 he1
          refine s_ret (ev_is (ev_andV (ev_op (ev_isN (vx _) hd2) (ev_isN (vy _) he2) (rv_eq rfl)) (fun h => ev_andV (ev_orV (ev_isN (vy _) he2) (fun _ => ev_isi (vx _) hd2 (kit_boo d))) (fun h2 => ev_op (vx _) (vy _) (rv_eq (leaf_eq hd2 he2 ?_ n1 n2).1)))) ?_) fun H3 e3 => k H3 ((e1.trans e2).trans e3)
          · cases d <;> cases e <;> simp [isNon, isBoo] at h h2 hc <;> rfl
          · congr 1
            by_cases ht : tyN d = tyN e
            · rw [(leaf_eq hd2 he2 ht n1 n2).2]
              cases d <;> cases e <;> simp [isNon, isBoo, tyN] at hc ht ⊢
            · rw [same_f (fun z => ht (by rw [z]))]
              cases d <;> cases e <;> simp [isNon, isBoo, tyN] at hc ht ⊢
        · refine s_if (et_B (ev_isi (vy _) (dp_mono e2 he1) (kit_int e))) (fun hi H3 e3 => ?_) (fun hi H3 e3 => ?_)
          · have hd2 := dp_mono (e2.trans e3) hd1
            have he2 := dp_mono (e2.trans e3) he1
            refine s_ret (ev_is (ev_andV (ev_isi (vx _) hd2 (kit_int d)) (fun h => ev_andV (ev_notV (ev_isi (vx _) hd2 (kit_boo d))) (fun h2 => ev_op (vx _) (vy _) (rv_eq (leaf_eq hd2 he2 ?_ n1 n2).1)))) ?_) fun H4 e4 => k H4 (((e1.trans e2).trans e3).trans e4)
            · cases d <;> cases e <;> simp [isNon, isBoo, isInt] at h h2 hc hi <;> rfl
            · congr 1
              by_cases ht : tyN d = tyN e
              · rw [(leaf_eq hd2 he2 ht n1 n2).2]
                cases d <;> cases e <;> simp [isNon, isBoo, isInt, tyN] at hc hi ht ⊢
              · rw [same_f (fun z => ht (by rw [z]))]
                cases d <;> cases e <;> simp [isNon, isBoo, isInt, tyN] at hc hi ht ⊢
          · have hd2 := dp_mono (e2.trans e3) hd1
            have he2 := dp_mono (e2.trans e3) he1
            have es : ∃ s, e = .str s := by cases he <;> simp [isNon, isBoo, isInt, isTup, isLst] at hc hi n1 n2 ⊢
            obtain ⟨z, rfl⟩ := es
            refine s_ret (ev_is (ev_andV (ev_isi (vx _) hd2 (kit_str d)) (fun h => ev_op (vx _) (vy _) (rv_eq (leaf_eq hd2 he2 ?_ n1 n2).1))) ?_) fun H4 e4 => k H4 (((e1.trans e2).trans e3).trans e4)
            · cases d <;> simp [isStr] at h <;> rfl
            · congr 1
              by_cases ht : tyN d = tyN (.str z)
              · rw [(leaf_eq hd2 he2 ht n1 n2).2]
                cases d <;> simp [isStr, tyN] at ht ⊢
              · rw [same_f (fun z => ht (by rw [z]))]
                cases d <;> simp [isStr, tyN] at ht ⊢
  intro n
  induction n with
  | zero => exact go 0 (fun _ _ _ _ _ _ _ _ _ _ _ h => h.elim)
  | succ n ih => exact go (n + 1) ih
end
end LL
namespace LL
open PySem PySem.Spec PyProof.Rows L2 He Evl
/-! ### readings that give some value of which a thing is true -/
abbrev VP := V → Hp → Prop
def Mono (P : VP) : Prop := ∀ v H H', Ex H H' → P v H → P v H'
def EvP (te : TE) (σ : L2.St) (H : Hp) (R : VP) : Prop := ∀ H1, Ex H H1 → ∀ Q : VK, (∀ v H2, Ex H1 H2 → R v H2 → Q v H2) → te σ H1 Q
def SpP (sp : Sp) (vs : List V) (H : Hp) (R : VP) : Prop := ∀ (Q : VK) (E : XK), (∀ v H2, Ex H H2 → R v H2 → Q v H2) → sp vs H Q E
section
variable {σ : L2.St} {H H' : Hp} {te ta tb : TE} {R R1 R2 : VP} {D : Ends} {i : Nat} {v : V} {sp : Sp} {E : XK}
theorem EvP.mono (e : Ex H H') (h : EvP te σ H R) : EvP te σ H' R := fun H1 a Q q => h H1 (e.trans a) Q q
theorem ev_p (h : Ev te σ H v) : EvP te σ H (fun w _ => w = v) := fun H1 e Q q => h H1 e Q fun H2 e2 => q v H2 e2 rfl
theorem EvP.ev (h : EvP te σ H (fun w _ => w = v)) : Ev te σ H v := fun H1 e Q q => h H1 e Q fun w H2 e2 z => by subst z; exact q H2 e2
theorem EvP.imp (h : EvP te σ H R) (f : ∀ v H1, Ex H H1 → R v H1 → R1 v H1) : EvP te σ H R1 := fun H1 e Q q => h H1 e Q fun w H2 e2 z => q w H2 e2 (f w H2 (e.trans e2) z)
theorem evp_var (h : σ[i]? = some (some v)) (m : Mono R) (r : R v H) : EvP (tVar i) σ H R := fun H1 e _ q => ⟨v, h, q v H1 (Ex.refl H1) (m _ _ _ e r)⟩
theorem s_asgP (h : EvP te σ H R) (k : ∀ v H1, Ex H H1 → R v H1 → D.nx (σ.set i (some v)) H1) : tAsg te (gName i) D σ H := h H (Ex.refl H) _ fun v H1 e r => k v H1 e r
theorem s_retP (h : EvP te σ H R) (k : ∀ v H1, Ex H H1 → R v H1 → D.rt v H1) : tRet te D σ H := h H (Ex.refl H) _ fun v H1 e r => k v H1 e r
theorem evp_fn1 (h1 : EvP ta σ H R1) (hs : ∀ x H1, Ex H H1 → R1 x H1 → SpP sp [x] H1 R) : EvP (fun σ H Q => tCons ta tNil σ H fun vs H1 => sp vs H1 Q E) σ H R := fun H1 e Q q =>
  h1 H1 e _ fun x H2 e2 r1 => hs x H2 (e.trans e2) r1 Q E fun v H3 e3 r => q v H3 (e2.trans e3) r
theorem evp_fn2 (h1 : EvP ta σ H R1) (m1 : Mono R1) (h2 : EvP tb σ H R2) (hs : ∀ x y H1, Ex H H1 → R1 x H1 → R2 y H1 → SpP sp [x, y] H1 R) : EvP (fun σ H Q => tCons ta (tCons tb tNil) σ H fun vs H1 => sp vs H1 Q E) σ H R := fun H1 e Q q =>
  h1 H1 e _ fun x H2 e2 r1 => h2 H2 (e.trans e2) _ fun y H3 e3 r2 => hs x y H3 ((e.trans e2).trans e3) (m1 _ _ _ e3 r1) r2 Q E fun v H4 e4 r => q v H4 ((e2.trans e3).trans e4) r
theorem evp_op {r : L2.R2} (h1 : EvP ta σ H R1) (m1 : Mono R1) (h2 : EvP tb σ H R2) (hs : ∀ x y H1, Ex H H1 → R1 x H1 → R2 y H1 → ∀ Q : VK, (∀ v H2, Ex H1 H2 → R v H2 → Q v H2) → r x y H1 Q) : EvP (tOp r ta tb) σ H R := fun H1 e Q q =>
  h1 H1 e _ fun x H2 e2 r1 => h2 H2 (e.trans e2) _ fun y H3 e3 r2 => hs x y H3 ((e.trans e2).trans e3) (m1 _ _ _ e3 r1) r2 Q fun v H4 e4 r => q v H4 ((e2.trans e3).trans e4) r
theorem mono_eq : Mono (fun w _ => w = v) := fun _ _ _ _ h => h
end
end LL
namespace LL
open PySem PySem.Spec PyProof.Rows L2 He Evl
/-! ### a base that never changes beside cells that do: B is part of H, B2 of H2; B2 has B's things and new ones; of the rest only the cells ms may have changed -/
structure Stp (ms : List Addr) (B H B2 H2 : Hp) : Prop where
  base : Ex B B2
  in_ : Ex B2 H2
  nw : ∀ b, B b = none → H b ≠ none → B2 b = none
  fr : ∀ b o, b ∉ ms → H b = some o → H2 b = some o
  al : ∀ b, H b ≠ none → H2 b ≠ none
theorem ex_none {B H : Hp} {b : Addr} (e : Ex B H) (h : H b = none) : B b = none := fresh_back e h
namespace Stp
variable {ms ns : List Addr} {B H B2 H2 B3 H3 : Hp} {p : Addr} {o u : HO}
theorem refl (e : Ex B H) : Stp ms B H B H := ⟨Ex.refl B, e, fun _ h _ => h, fun _ _ _ h => h, fun _ h => h⟩
theorem trans (a : Stp ms B H B2 H2) (b : Stp ms B2 H2 B3 H3) : Stp ms B H B3 H3 :=
  ⟨a.base.trans b.base, b.in_, fun c h1 h2 => b.nw c (a.nw c h1 h2) (a.al c h2), fun c o n h => b.fr c o n (a.fr c o n h), fun c h => b.al c (a.al c h)⟩
theorem wk (a : Stp ms B H B2 H2) (h : ∀ x ∈ ms, x ∈ ns) : Stp ns B H B2 H2 := ⟨a.base, a.in_, a.nw, fun b o n => a.fr b o fun z => n (h b z), a.al⟩
theorem nil (a : Stp [] B H B2 H2) : Stp ns B H B2 H2 := a.wk fun _ h => nomatch h
/-- a new thing of the base -/
theorem new (e : Ex B H) (h : H p = none) : Stp ms B H (upd B p o) (upd H p o) :=
  ⟨Ex.new (ex_none e h), fun b u hb => by
      by_cases z : b = p
      · subst z; rw [upd_same] at hb ⊢; exact hb
      · rw [upd_ne z] at hb ⊢; exact e b u hb,
    fun b h1 h2 => by rw [upd_ne (fun z => by subst z; exact h2 h)]; exact h1,
    fun b u _ hb => by rw [upd_ne (ne_of_none hb h)]; exact hb,
    fun b hb => by
      by_cases z : b = p
      · subst z; rw [upd_same]; exact fun q => nomatch q
      · rw [upd_ne z]; exact hb⟩
/-- a new cell beside the base -/
theorem cell (e : Ex B H) (h : H p = none) : Stp ms B H B (upd H p o) :=
  ⟨Ex.refl B, Ex.mut e (ex_none e h), fun _ h1 _ => h1, fun b u _ hb => by rw [upd_ne (ne_of_none hb h)]; exact hb,
    fun b hb => by
      by_cases z : b = p
      · subst z; rw [upd_same]; exact fun q => nomatch q
      · rw [upd_ne z]; exact hb⟩
/-- a store to a cell -/
theorem put (e : Ex B H) (h : B p = none) (m : p ∈ ms) : Stp ms B H B (upd H p o) :=
  ⟨Ex.refl B, Ex.mut e h, fun _ h1 _ => h1, fun b u hn hb => by rw [upd_ne (fun z => hn (by rw [z]; exact m))]; exact hb,
    fun b hb => by
      by_cases z : b = p
      · subst z; rw [upd_same]; exact fun q => nomatch q
      · rw [upd_ne z]; exact hb⟩
/-- a cell becomes a thing of the base -/
theorem keep (e : Ex B H) (h : H p = some o) (hb : B p = none) : Ex B (upd B p o) ∧ Ex (upd B p o) H :=
  ⟨Ex.new hb, fun b u q => by
    by_cases z : b = p
    · subst z; rw [upd_same] at q; rw [h]; exact q
    · rw [upd_ne z] at q; exact e b u q⟩
/-- what is no thing of the base and was there is no thing of the new base -/
theorem off (a : Stp ms B H B2 H2) (h : B p = none) (h2 : H p = some o) : B2 p = none := a.nw p h (by rw [h2]; exact fun q => nomatch q)
theorem ne (a : Stp ms B H B2 H2) (h : H p = some o) (h2 : H2 p = none) : False := a.al p (by rw [h]; exact fun q => nomatch q) h2
/-- from another's step: what stood is as it was -/
theorem ofEx (e : Ex B H) (x : Ex H H2) : Stp ms B H B H2 := ⟨Ex.refl B, e.trans x, fun _ h _ => h, fun b o _ h => x b o h, fun b h q => by
  cases hb : H b with
  | none => exact h hb
  | some o => rw [x b o hb] at q; cases q⟩
end Stp
/-- a step of a def that began with the local cell p (not known to its caller): the caller sees none of it -/
theorem Stp.drop {ms : List Addr} {B H B2 H2 : Hp} {p : Addr} (a : Stp (p :: ms) B H B2 H2) (h : H p = none) : Stp ms B H B2 H2 :=
  ⟨a.base, a.in_, a.nw, fun b o n hb => a.fr b o (fun z => by
    rcases List.mem_cons.mp z with e | e
    · subst e; rw [h] at hb; cases hb
    · exact n e) hb, a.al⟩
/-- behind the making of a local cell: the whole way, seen from ahead of it -/
theorem Stp.with {ms : List Addr} {B H B2 H2 : Hp} {p : Addr} {o : HO} (h : H p = none) (a : Stp (p :: ms) B (upd H p o) B2 H2) : Stp ms B H B2 H2 :=
  ⟨a.base, a.in_, fun b h1 h2 => a.nw b h1 (by rw [upd_ne (fun z => by subst z; exact h2 h)]; exact h2), fun b u n hb => a.fr b u (fun z => by
      rcases List.mem_cons.mp z with e | e
      · subst e; rw [h] at hb; cases hb
      · exact n e) (by rw [upd_ne (ne_of_none hb h)]; exact hb),
    fun b hb => a.al b (by rw [upd_ne (fun z => by subst z; exact hb h)]; exact hb)⟩
/-- the local cell q is done: it goes into the base -/
theorem Stp.close {ms : List Addr} {B H B2 H2 : Hp} {q : Addr} {o0 o : HO} (e : Ex B H) (hq : H q = none) (a : Stp (q :: ms) B (upd H q o0) B2 H2) (hv : H2 q = some o) : Stp ms B H (upd B2 q o) H2 := by
  have b2 : B2 q = none := a.off (ex_none e hq) upd_same
  have w := Stp.with hq a
  obtain ⟨k1, k2⟩ := Stp.keep w.in_ hv b2
  refine ⟨w.base.trans k1, k2, fun b h1 h2 => ?_, w.fr, w.al⟩
  rw [upd_ne (fun z => by subst z; exact h2 hq)]
  exact w.nw b h1 h2
/-- the pool stands at p; its copy of the script is a thing of the base -/
def Pool (p : Addr) (B H : Hp) : Prop := ∃ P : Pl, H p = some (.lst P.l) ∧ B P.at_ = some (.lst (P.cells.map V.int)) ∧ P.cells.length ≤ 63
theorem Pool.at {p : Addr} {B H : Hp} (h : Pool p B H) : ∃ o, H p = some o := let ⟨_, z, _⟩ := h; ⟨_, z⟩
theorem Pool.of {p : Addr} {B B2 H H2 : Hp} (h : Pool p B H) (e : Ex B B2) (hp : H2 p = H p) : Pool p B2 H2 := let ⟨P, h1, h2, h3⟩ := h; ⟨P, hp.trans h1, e _ _ h2, h3⟩
theorem Pool.ne {p q : Addr} {B H : Hp} (h : Pool p B H) (n : H q = none) : q ≠ p := fun z => by
  subst z
  obtain ⟨o, ho⟩ := h.at
  rw [n] at ho
  cases ho
theorem Pool.n1 {p q : Addr} {B H : Hp} {o : HO} (h : Pool p B H) (n : H q = none) : Pool p B (upd H q o) := h.of (Ex.refl B) (upd_ne (h.ne n).symm)
theorem Pool.n2 {p q : Addr} {B H : Hp} {o : HO} (h : Pool p B H) (e : Ex B H) (n : H q = none) : Pool p (upd B q o) (upd H q o) := h.of (Ex.new (ex_none e n)) (upd_ne (h.ne n).symm)
theorem Pool.p1 {p q : Addr} {B H : Hp} {o : HO} (h : Pool p B H) (n : q ≠ p) : Pool p B (upd H q o) := h.of (Ex.refl B) (upd_ne n.symm)
theorem Pool.stp {ms : List Addr} {p : Addr} {B H B2 H2 : Hp} (h : Pool p B H) (a : Stp ms B H B2 H2) (n : p ∉ ms) : Pool p B2 H2 := by
  obtain ⟨o, ho⟩ := h.at
  exact h.of a.base ((a.fr _ _ n ho).trans ho.symm)
/-- a draw: the base stays, some number comes -/
theorem draw_s {p : Addr} {B H : Hp} {n : Int} {Q : VK} {E : XK} (e : Ex B H) (hb : B p = none) (hP : Pool p B H) (h0 : 0 < n) (h1 : n < 1073741824)
    (k : ∀ (r : Int) (H2 : Hp), 0 ≤ r → r < n → Stp [p] B H B H2 → Pool p B H2 → (∀ b, b ≠ p → H2 b = H b) → Q (.int r) H2) : spDraw [.ref p, .int n] H Q E := by
  obtain ⟨P, hl, hc, hz⟩ := hP
  refine ⟨p, n, P, rfl, ⟨hl, e _ _ hc, hz⟩, h0, h1, fun r P' a b e1 e2 _ => k r _ a b (Stp.put e hb (.head _)) ⟨P', upd_same, by rw [e1, e2]; exact hc, by rw [e2]; exact hz⟩ fun b hb => upd_ne hb⟩
end LL
/-! entries of plans: == -/
namespace LL
open PySem PySem.Spec PyProof.Rows L2 He Evl ND
theorem pcN {X : Cx} {P : Program} {w : World} : Passes (L2.CX P w) X (fun _ _ _ => False) := fun _ _ _ _ _ _ _ h => by
  obtain ⟨_, _, _, _, _, _, _, _, _, _, _, _, h⟩ := h
  exact h.elim
abbrev RatsAt (K : PySem.W.Frag) (H : Hp) (vs : List V) (qs : List Rat) : Prop := Paired (fun v q => RatAt K H v q) vs qs
def EntAt (K : PySem.W.Frag) (H : Hp) (v : V) (e : NestedKey × List Rat) : Prop := ∃ (t b lt : Addr) (vs : List V), v = .ref t ∧ SqT K H t [.ref b, .ref lt] ∧ KeyAt K H b e.1 ∧ SqT K H lt vs ∧ RatsAt K H vs e.2
abbrev EntsAt (K : PySem.W.Frag) (H : Hp) (vs : List V) (es : List (NestedKey × List Rat)) : Prop := Paired (EntAt K H) vs es
theorem paired_mono {α β : Type} {F G : α → β → Prop} {xs : List α} {ys : List β} (h : Paired F xs ys) (f : ∀ a b, F a b → G a b) : Paired G xs ys := Paired.mapP h f
theorem _root_.ND.KeyAt.mono {K : PySem.W.Frag} {H H' : Hp} {b : Addr} {k : NestedKey} (h : KeyAt K H b k) (e : Ex H H') : KeyAt K H' b k := ⟨h.1, h.2.1, dp_mono e h.2.2⟩
theorem _root_.ND.KsAt.mono {K : PySem.W.Frag} {H H' : Hp} {kvs : List NE} (h : KsAt K H kvs) (e : Ex H H') : KsAt K H' kvs := fun x hx => KeyAt.mono (h x hx) e
theorem rats_mono {K : PySem.W.Frag} {H H' : Hp} {vs : List V} {qs : List Rat} (h : RatsAt K H vs qs) (e : Ex H H') : RatsAt K H' vs qs := paired_mono h fun _ _ z => z.mono e
theorem EntAt.mono {K : PySem.W.Frag} {H H' : Hp} {v : V} {x : NestedKey × List Rat} (h : EntAt K H v x) (e : Ex H H') : EntAt K H' v x := by
  obtain ⟨t, b, lt, vs, h1, h2, h3, h4, h5⟩ := h
  exact ⟨t, b, lt, vs, h1, ex_t e h2, h3.mono e, ex_t e h4, rats_mono h5 e⟩
theorem ents_mono {K : PySem.W.Frag} {H H' : Hp} {vs : List V} {es : List (NestedKey × List Rat)} (h : EntsAt K H vs es) (e : Ex H H') : EntsAt K H' vs es := paired_mono h fun _ _ z => z.mono e
theorem ratAt_inj {K : PySem.W.Frag} {H : Hp} {v : V} {p q : Rat} (hp : RatAt K H v p) (hq : RatAt K H v q) : p = q := by
  obtain ⟨a, dx, rfl, ha⟩ := hp
  obtain ⟨b, dy, e, hb⟩ := hq
  cases e
  rw [ha] at hb
  have h1 := (HO.ins.inj (Option.some.inj hb)).2.2
  simp only [rf, List.cons.injEq, Prod.mk.injEq, true_and, and_true] at h1
  obtain ⟨h2, h3⟩ := h1
  injection h2 with h2
  injection h3 with h3
  exact Rat.ext h2 (by omega)
theorem rats_inj {K : PySem.W.Frag} {H : Hp} : ∀ {vs : List V} {ps qs : List Rat}, RatsAt K H vs ps → RatsAt K H vs qs → ps = qs
  | _, _, _, .nil, .nil => rfl
  | _, _, _, .cons h1 t1, .cons h2 t2 => by rw [ratAt_inj h1 h2, rats_inj t1 t2]
theorem allE_iff {e : Nat → Bool} {N : Nat} : QB.allE e 0 N = true ↔ ∀ i, i < N → e i = true := by
  unfold QB.allE
  rw [List.all_eq_true]
  constructor
  · intro h i hi
    have := h i (List.mem_range.mpr (by omega))
    rwa [Nat.zero_add] at this
  · intro h i hi
    rw [Nat.zero_add]
    exact h i (by have := List.mem_range.mp hi; omega)
theorem list_eqE {α : Type} [DecidableEq α] (xs ys : List α) : (decide (xs.length = ys.length) && QB.allE (fun i => decide (xs[i]? = ys[i]?)) 0 xs.length) = decide (xs = ys) := by
  by_cases h : xs = ys
  · subst h
    rw [decide_eq_true rfl, decide_eq_true rfl, Bool.true_and]
    exact allE_iff.mpr fun i _ => decide_eq_true rfl
  · rw [decide_eq_false h, Bool.and_eq_false_iff]
    by_cases hl : xs.length = ys.length
    · right
      cases q : QB.allE (fun i => decide (xs[i]? = ys[i]?)) 0 xs.length with
      | false => rfl
      | true =>
        exfalso
        apply h
        have := allE_iff.mp q
        apply List.ext_getElem?
        intro i
        by_cases hi : i < xs.length
        · exact of_decide_eq_true (this i hi)
        · rw [List.getElem?_eq_none (by omega), List.getElem?_eq_none (by omega)]
    · left
      exact decide_eq_false hl
section
variable {X : Cx} {A : Around} {pins : List (Addr × Obj)} {s : Shared} {σ : L2.St} {H : Hp}
abbrev Aft (X : Cx) (pins : List (Addr × Obj)) (σ : L2.St) (H : Hp) (b : Bool) (r : Bool) (s' : Shared) : Prop := r = b ∧ LoopI X pins σ H s'
theorem eqb_rat (T : Txt X.K X.mg) {x y : V} {u v : Value} {p q : Rat} (sb : Sub X 1 A) (I : Inv X pins σ H s) (rx : RelV x u) (ry : RelV y v) (hx : RatAt X.K H x p) (hy : RatAt X.K H y q) :
    wpAny (model X.prog X.w) A (eqBool u v) (Aft X pins σ H (decide (p = q))) X.xe s := by
  obtain ⟨a, dx, rfl, ha⟩ := id hx
  obtain ⟨b, dy, rfl, hb⟩ := id hy
  cases rx
  cases ry
  by_cases hab : a = b
  · subst hab
    have := ratAt_inj hx hy
    subst this
    exact SeqAt.EqAt.same (A := A) (s := s) (.ref a) X.prog X.w X.xe _ ⟨(decide_eq_true rfl).symm, H, I, Ext.rfl'⟩
  · refine GQ.eqBool_refG hab ?_
    obtain ⟨mA, J, _⟩ := ins_get I.hok ha
    obtain ⟨mB, J', _⟩ := ins_get I.hok hb
    obtain ⟨od, J, _⟩ := J.look
    obtain ⟨od', J', _⟩ := J'.look
    obtain ⟨m, hF⟩ := I.fr
    refine PySem.W.cmp_K (op := .Eq) (tb := .ref (cR X.K)) sb.room.units0 hF I.ok.mod.kin J J'.type (by simp [PySem.W.notFirst]) T.t_Ratio_eq.at_ T.t_Ratio_eq.fn ?_
    have e0 : Env0 X.prog X.w X.K X.mg X.base A X.stack s H := by
      have e := I.env0
      exact ⟨by rw [sb.fr]; exact e.frames, e.mod, e.bs, e.bsz, e.funs, e.frf, e.hok, e.bare⟩
    refine wpAny_call (codeAny_mono (fn_Ratio_eq T A X.stack s H [.ref a, .ref b] [.ref a, .ref b] (fun v H' => v = .bl (decide (p = q)) ∧ Ext H H') (fun _ _ _ => False) sb.room e0 (.cons rfl (.cons rfl .nil)) ⟨_, _, p, q, rfl, hx, hy, fun H' e => ⟨rfl, e⟩⟩) fun r s' hq => ?_)
    cases r with
    | error e => exact (pcN (P := X.prog) (w := X.w)) pins σ H s e s' I hq
    | ok fl =>
      cases fl with
      | ret w =>
        obtain ⟨z, H', I', rz, ez, ex⟩ := I.after hq
        subst ez
        cases rz
        exact ⟨_, rfl, rfl, H', I', ex⟩
      | next => exact False.elim hq
      | brk => exact False.elim hq
      | cont => exact False.elim hq
theorem at_arr {us : List Value} {i : Nat} (h : i < us.toArray.size) : us[i]? = some us.toArray[i] := by
  have h' : i < us.length := by simpa using h
  rw [List.getElem?_eq_getElem h'] <;> simp
theorem eqb_rats (T : Txt X.K X.mg) {a b : Addr} {vs us : List V} {ps qs : List Rat} (sb : Sub X 2 A) (I : Inv X pins σ H s) (ha : SqT X.K H a vs) (hb : SqT X.K H b us) (hp : RatsAt X.K H vs ps) (hq : RatsAt X.K H us qs) :
    wpAny (model X.prog X.w) A (eqBool (.ref a) (.ref b)) (Aft X pins σ H (decide (ps = qs))) X.xe s := by
  by_cases hab : a = b
  · subst hab
    have := I.tuple_inj ha hb
    subst this
    have := rats_inj hp hq
    subst this
    exact SeqAt.EqAt.same (A := A) (s := s) (.ref a) X.prog X.w X.xe _ ⟨(decide_eq_true rfl).symm, H, I, Ext.rfl'⟩
  · refine GQ.eqBool_refG hab ?_
    obtain ⟨its, r, e, z⟩ := I.tuple ha
    obtain ⟨its2, r2, e2, z2⟩ := I.tuple hb
    have l1 : its.toArray.size = ps.length := by rw [List.size_toArray, ← r.length]; exact Paired.length hp
    have l2 : its2.toArray.size = qs.length := by rw [List.size_toArray, ← r2.length]; exact Paired.length hq
    refine QB.rc_tupB sb.room.units0 (fun _ s' => LoopI X pins σ H s') e e2 (e := fun i => decide (ps[i]? = qs[i]?)) (fun i h1 h2 s' q => ?_) (fun i s' q => ⟨_, rfl, ?_, q⟩) ⟨H, I, Ext.rfl'⟩
    · obtain ⟨H1, I1, x1⟩ := q
      have k1 : i < ps.length := by omega
      have k2 : i < qs.length := by omega
      have v1 : i < vs.length := by rw [Paired.length hp]; exact k1
      have v2 : i < us.length := by rw [Paired.length hq]; exact k2
      obtain ⟨u, hu, ru⟩ := r.get (List.getElem?_eq_getElem v1)
      obtain ⟨v, hv, rv⟩ := r2.get (List.getElem?_eq_getElem v2)
      rw [at_arr h1] at hu
      rw [at_arr h2] at hv
      obtain ⟨p, hp1, hp2⟩ := paired_get hp (List.getElem?_eq_getElem v1)
      obtain ⟨q, hq1, hq2⟩ := paired_get hq (List.getElem?_eq_getElem v2)
      rw [Option.some.inj hu, Option.some.inj hv]
      refine wpAny_mono (eqb_rat T sb.in1 I1 ru rv (hp2.mono x1) (hq2.mono x1)) (fun rr s2 q2 => ?_) fun _ _ x => x
      obtain ⟨er, H2, I2, x2⟩ := q2
      refine ⟨?_, H2, I2, x1.trans x2⟩
      rw [er, hp1, hq1]
      simp
    · rw [l1, l2]
      exact list_eqE ps qs
theorem eqb_key {a b : Addr} {k j : NestedKey} (sb : Sub X 1 A) (I : Inv X pins σ H s) (ha : KeyAt X.K H a k) (hb : KeyAt X.K H b j) : wpAny (model X.prog X.w) A (eqBool (.ref a) (.ref b)) (Aft X pins σ H (decide (k = j))) X.xe s := by
  have hu : (nestedKind X.prog X.w).room A := by
    show A.units + 8 < cLine
    have := sb.room.un
    omega
  exact (nestedKind X.prog X.w).eqBool hu (key_is I ha) (key_is I hb) ⟨rfl, H, I.tok _, Ext.rfl'⟩
theorem key_inj (I : Inv X pins σ H s) {a : Addr} {k j : NestedKey} (ha : KeyAt X.K H a k) (hb : KeyAt X.K H a j) : k = j := (nestedKind X.prog X.w).inj (key_is I ha) (key_is I hb)
theorem ent_inj (I : Inv X pins σ H s) {v : V} {x y : NestedKey × List Rat} (hx : EntAt X.K H v x) (hy : EntAt X.K H v y) : x = y := by
  obtain ⟨t, b, lt, vs, rfl, h2, h3, h4, h5⟩ := hx
  obtain ⟨t', b', lt', vs', e, k2, k3, k4, k5⟩ := hy
  cases e
  have e1 := I.tuple_inj h2 k2
  simp only [List.cons.injEq, V.ref.injEq, and_true] at e1
  obtain ⟨rfl, rfl⟩ := e1
  have e2 := I.tuple_inj h4 k4
  subst e2
  exact Prod.ext (key_inj I h3 k3) (rats_inj h5 k5)
theorem eqb_ent (T : Txt X.K X.mg) {x y : V} {u v : Value} {d e : NestedKey × List Rat} (sb : Sub X 3 A) (I : Inv X pins σ H s) (rx : RelV x u) (ry : RelV y v) (hd : EntAt X.K H x d) (he : EntAt X.K H y e) :
    wpAny (model X.prog X.w) A (eqBool u v) (Aft X pins σ H (decide (d = e))) X.xe s := by
  obtain ⟨t, b, lt, vs, rfl, h2, h3, h4, h5⟩ := id hd
  obtain ⟨t', b', lt', vs', rfl, k2, k3, k4, k5⟩ := id he
  cases rx
  cases ry
  by_cases hab : t = t'
  · subst hab
    have := ent_inj I hd he
    subst this
    exact SeqAt.EqAt.same (A := A) (s := s) (.ref t) X.prog X.w X.xe _ ⟨(decide_eq_true rfl).symm, H, I, Ext.rfl'⟩
  · refine GQ.eqBool_refG hab ?_
    obtain ⟨its, r, e1, z⟩ := I.tuple h2
    obtain ⟨its2, r2, e2, z2⟩ := I.tuple k2
    cases r with
    | cons r1 rr =>
      cases rr with
      | cons r3 rr =>
        cases rr
        cases r2 with
        | cons q1 qq =>
          cases qq with
          | cons q3 qq =>
            cases qq
            cases r1
            cases r3
            cases q1
            cases q3
            refine QB.rc_tupB sb.room.units0 (fun _ s' => LoopI X pins σ H s') e1 e2 (e := fun i => if i = 0 then decide (d.1 = e.1) else decide (d.2 = e.2)) (fun i g1 g2 s' q => ?_) (fun i s' q => ⟨_, rfl, ?_, q⟩) ⟨H, I, Ext.rfl'⟩
            · obtain ⟨H1, I1, x1⟩ := q
              have g1' : i < 2 := g1
              rcases (by omega : i = 0 ∨ i = 1) with rfl | rfl
              · refine wpAny_mono (eqb_key (sb.in1.mono (by decide)) I1 (h3.mono x1) (k3.mono x1)) (fun rr s2 q2 => ?_) fun _ _ x => x
                obtain ⟨er, H2, I2, x2⟩ := q2
                exact ⟨er, H2, I2, x1.trans x2⟩
              · refine wpAny_mono (eqb_rats T sb.in1 I1 (ex_t x1 h4) (ex_t x1 k4) (rats_mono h5 x1) (rats_mono k5 x1)) (fun rr s2 q2 => ?_) fun _ _ x => x
                obtain ⟨er, H2, I2, x2⟩ := q2
                exact ⟨er, H2, I2, x1.trans x2⟩
            · show (decide (2 = 2) && QB.allE (fun i => if i = 0 then decide (d.1 = e.1) else decide (d.2 = e.2)) 0 2) = decide (d = e)
              have : decide (d = e) = (decide (d.1 = e.1) && decide (d.2 = e.2)) := by
                rw [← Bool.decide_and]
                congr 1
                exact propext ⟨fun z => by subst z; exact ⟨rfl, rfl⟩, fun z => Prod.ext z.1 z.2⟩
              rw [this]
              unfold QB.allE
              simp [List.range_succ]
def rEqEnts (K : PySem.W.Frag) : R2 := fun x y H Q => ∃ (a b : Addr) (xs ys : List V) (es fs : List (NestedKey × List Rat)), x = .ref a ∧ y = .ref b ∧ H a = some (.lst xs) ∧ H b = some (.lst ys) ∧ EntsAt K H xs es ∧ EntsAt K H ys fs ∧ ∀ H', Ex H H' → Q (.bl (decide (es = fs))) H'
theorem op_eqEnts (T : Txt X.K X.mg) (hr : Room 4 X.A) : OpR X (compareOp .Eq) (rEqEnts X.K) := by
  intro pins s σ H x y v u Q I rx ry hq
  obtain ⟨a, b, xs, ys, es, fs, rfl, rfl, ha, hb, he, hf, q⟩ := hq
  cases (show v = Value.ref a from rx)
  cases (show u = Value.ref b from ry)
  have sb : Sub X 4 X.A := ⟨hr, rfl⟩
  show wpAny (model X.prog X.w) X.A (richCompare .Eq (.ref a) (.ref b)) (EP X pins σ Q) X.xe s
  obtain ⟨z, its, n, r, e1⟩ := I.hok a _ ha
  obtain ⟨z2, its2, n2, r2, e2⟩ := I.hok b _ hb
  have l1 : its.toArray.size = es.length := by rw [List.size_toArray, ← r.length]; exact Paired.length he
  have l2 : its2.toArray.size = fs.length := by rw [List.size_toArray, ← r2.length]; exact Paired.length hf
  by_cases hl : es.length = fs.length
  · refine QB.rc_listB (N := es.length) (e := fun i => decide (es[i]? = fs[i]?)) sb.room.units0 (fun _ s' => LoopI X pins σ H s') (fun i s' qq => ?_) (fun i s' qq => ?_) ⟨H, I, Ext.rfl'⟩
    · obtain ⟨H1, I1, x1⟩ := id qq
      obtain ⟨z, its, k, r, e1⟩ := I1.hok a _ (x1 _ _ ha)
      obtain ⟨z2, its2, k2, r2, e2⟩ := I1.hok b _ (x1 _ _ hb)
      have l1 : its.toArray.size = es.length := by rw [List.size_toArray, ← r.length]; exact Paired.length he
      have l2 : its2.toArray.size = fs.length := by rw [List.size_toArray, ← r2.length]; exact Paired.length hf
      refine ⟨its.toArray, its2.toArray, k, k2, e1, e2, l1, by rw [l2, hl], fun h1 h2 => ?_⟩
      have v1 : i < xs.length := by rw [Paired.length he]; omega
      have v2 : i < ys.length := by rw [Paired.length hf]; omega
      obtain ⟨u, hu, ru⟩ := r.get (List.getElem?_eq_getElem v1)
      obtain ⟨v, hv, rv⟩ := r2.get (List.getElem?_eq_getElem v2)
      rw [at_arr h1] at hu
      rw [at_arr h2] at hv
      obtain ⟨d, hd1, hd2⟩ := paired_get he (List.getElem?_eq_getElem v1)
      obtain ⟨e, he1, he2⟩ := paired_get hf (List.getElem?_eq_getElem v2)
      rw [Option.some.inj hu, Option.some.inj hv]
      refine wpAny_mono (eqb_ent T sb.in1 I1 ru rv (hd2.mono x1) (he2.mono x1)) (fun rr s2 q2 => ?_) fun _ _ x => x
      obtain ⟨er, H2, I2, x2⟩ := q2
      refine ⟨?_, H2, I2, x1.trans x2⟩
      show rr = decide (es[i]? = fs[i]?)
      rw [er, hd1, he1]
      simp
    · obtain ⟨H1, I1, x1⟩ := qq
      have e := list_eqE es fs
      rw [decide_eq_true hl, Bool.true_and] at e
      rw [e]
      exact ⟨.bl _, H1, I1, rfl, q H1 x1⟩
  · refine QB.rc_listNeB sb.room.units0 e1 e2 (by rw [l1, l2]; exact hl) ⟨.bl false, H, I, rfl, ?_⟩
    have : decide (es = fs) = false := decide_eq_false fun z => hl (by rw [z])
    rw [← this]
    exact q H (Ex.refl H)
end
end LL
namespace LL
open PySem PySem.Spec PyProof.Rows L2 He Evl
/-! ### the words of numbers -/
abbrev istr (i : Int) : Str := Str.ofString (toString i)
theorem istr_l {i : Int} (h0 : 0 ≤ i) : (istr i).cps.toList = TL.numL i.toNat := by
  obtain ⟨n, rfl⟩ : ∃ n : Nat, i = n := ⟨i.toNat, by omega⟩
  exact TL.tl_num n
theorem istr_n (n : Nat) : (istr (n : Int)).cps.toList = TL.numL n := istr_l (by omega)
theorem numL_head : ∀ (n : Nat), 1 ≤ n → ∃ c r, TL.numL n = c :: r ∧ 49 ≤ c := by
  intro n
  induction n using Nat.strongRecOn with
  | ind n ih =>
    intro h
    by_cases h10 : n < 10
    · exact ⟨48 + n, [], TL.numL_lt h10, by omega⟩
    · obtain ⟨c, r, e, hc⟩ := ih (n / 10) (by omega) (by omega)
      exact ⟨c, r ++ [48 + n % 10], by rw [TL.numL_step (by omega), e]; rfl, hc⟩
theorem numL_top (n : Nat) : n < 10 ^ (TL.numL n).length := by
  induction n using Nat.strongRecOn with
  | ind n ih =>
    by_cases h : n < 10
    · rw [TL.numL_lt h]; simpa using h
    · have := ih (n / 10) (by omega)
      rw [TL.numL_step (by omega), List.length_append, List.length_singleton, Nat.pow_succ]
      omega
/-- digits are a number's text when no 0 is too many -/
theorem canon : ∀ (k : Nat) (cs : List Nat), cs.length = k → cs ≠ [] → (∀ c ∈ cs, 48 ≤ c ∧ c ≤ 57) → (cs = [48] ∨ cs[0]? ≠ some 48) → ∃ n, cs = TL.numL n := by
  intro k
  induction k with
  | zero => intro cs h1 h2; exact absurd (List.length_eq_zero_iff.mp h1) h2
  | succ k ih =>
    intro cs h1 h2 h3 h4
    obtain ⟨ds, d, rfl⟩ : ∃ ds d, cs = ds ++ [d] := ⟨cs.dropLast, cs.getLast h2, (List.dropLast_concat_getLast h2).symm⟩
    have hd := h3 d (by simp)
    by_cases e : ds = []
    · subst e
      exact ⟨d - 48, by rw [TL.numL_lt (by omega)]; show [d] = _; congr 1; omega⟩
    · have h0 : ds[0]? ≠ some 48 := by
        rcases h4 with h4 | h4
        · exfalso
          have := congrArg List.length h4
          rw [List.length_append] at this
          simp at this
          exact e this
        · intro z
          apply h4
          rw [List.getElem?_append_left (List.length_pos_iff.mpr e)]
          exact z
      have hlen : ds.length = k := by rw [List.length_append] at h1; simp at h1; exact h1
      obtain ⟨m, hm⟩ := ih ds hlen e (fun c hc => h3 c (by simp [hc])) (.inr h0)
      have hm1 : 1 ≤ m := by
        rcases Nat.eq_zero_or_pos m with z | z
        · exfalso; subst z; apply h0; rw [hm]; rfl
        · exact z
      refine ⟨10 * m + (d - 48), ?_⟩
      rw [TL.numL_step (by omega), show (10 * m + (d - 48)) / 10 = m from by omega, show 48 + (10 * m + (d - 48)) % 10 = d from by omega, hm]
theorem str_l {x y : Str} (h : x.cps.toList = y.cps.toList) : x = y := TL.ext_tl h
/-- x writes n with up to 60 digits -/
def Num (x : Str) (n : Nat) : Prop := x = istr (n : Int) ∧ n < 10 ^ 60
theorem Num.len {x : Str} {n : Nat} (h : Num x n) : 1 ≤ x.length ∧ x.length ≤ 60 := by
  have e : x.length = (TL.numL n).length := by rw [← istr_n, h.1]; simp [Str.length]
  rw [e]
  exact ⟨List.length_pos_iff.mpr (TL.numL_ne _), TL.numL_len (by decide) h.2⟩
theorem Num.dig {x : Str} {n : Nat} (h : Num x n) : ∀ c ∈ x.cps.toList, 48 ≤ c ∧ c ≤ 57 := by
  rw [h.1, istr_n]
  exact fun c hc => TL.numL_digits _ c hc
theorem Num.head {x : Str} {n : Nat} (h : Num x n) : x = "0" ∨ ∃ c, x.cps.toList[0]? = some c ∧ 49 ≤ c := by
  by_cases z : n = 0
  · subst z; exact .inl h.1
  · obtain ⟨c, r, e, hc⟩ := numL_head n (by omega)
    exact .inr ⟨c, by rw [h.1, istr_n, e]; rfl, hc⟩
theorem Num.val {x : Str} {n : Nat} (h : Num x n) : PySem.intText? x = some (n : Int) := by
  rw [h.1]
  exact TL.int_num (Nat.le_trans (TL.numL_len (k := 60) (by decide) h.2) (by decide))
theorem Num.inj {x : Str} {m n : Nat} (h : Num x m) (k : Num x n) : m = n := by
  have := h.val.symm.trans k.val
  exact Int.ofNat.inj (Option.some.inj this)
theorem num_of {x : Str} (h1 : 1 ≤ x.length) (h2 : x.length ≤ 60) (h3 : ∀ c ∈ x.cps.toList, 48 ≤ c ∧ c ≤ 57) (h4 : x = "0" ∨ x.cps.toList[0]? ≠ some 48) : ∃ n, Num x n := by
  have hl : x.length = x.cps.toList.length := by simp [Str.length]
  obtain ⟨n, hn⟩ := canon _ x.cps.toList rfl (by intro z; rw [z] at hl; simp at hl; omega) h3 (by
    rcases h4 with h4 | h4
    · exact .inl (by rw [h4]; rfl)
    · exact .inr h4)
  refine ⟨n, str_l (by rw [hn, istr_n]), ?_⟩
  have := numL_top n
  rw [← hn, ← hl] at this
  exact Nat.lt_of_lt_of_le this (Nat.pow_le_pow_right (by decide) h2)
def DIG_ : Str := "0123456789"
theorem dig_in (c : Nat) : c ∈ DIG_.cps.toList ↔ 48 ≤ c ∧ c ≤ 57 := by
  have e : DIG_.cps.toList = [48, 49, 50, 51, 52, 53, 54, 55, 56, 57] := by decide +kernel
  rw [e]
  simp only [List.mem_cons, List.not_mem_nil, or_false]
  omega
theorem atI_nat {α : Type} {xs : List α} {j : Nat} {x : α} (h : xs[j]? = some x) : atI xs (j : Int) = some x := by
  obtain ⟨hj, e⟩ := List.getElem?_eq_some_iff.mp h
  unfold atI
  rw [ixN_nat hj]
  simp [hj, e]
/-! ### joined words -/
theorem spl_words {W : List Str} {s : Str} {c : Nat} (es : s.cps.toList = [c]) (hc : c < 256) (hne : W ≠ []) (h : ∀ x ∈ W, c ∉ x.cps.toList) : Txt.split (Txt.join s W) s = W := by
  refine TL.split_join (s := c) (S := []) es ?_ hne h
  rw [← Array.all_toList, es]
  simpa using hc
theorem spl_ne (c : Nat) : ∀ (l acc : List Nat), TL.spl [c] 0 acc l ≠ []
  | [], acc => by rw [TL.spl_nil]; simp
  | d :: r, acc => by
    by_cases h : TL.pre [c] (d :: r) = true
    · rw [TL.spl_hit h]; simp
    · rw [TL.spl_miss (by simpa using h)]; exact spl_ne c r _
theorem spl_back (c : Nat) : ∀ (l acc : List Nat), TL.joinL [c] (TL.spl [c] 0 acc l) = acc ++ l
  | [], acc => by rw [TL.spl_nil, List.append_nil]; rfl
  | d :: r, acc => by
    by_cases h : TL.pre [c] (d :: r) = true
    · have hd : d = c := by
        have h2 : (([d] : List Nat) == [c]) = true := h
        simpa using h2
      rw [TL.spl_hit h]
      have ih := spl_back c r []
      show TL.joinL [c] (acc :: TL.spl [c] 0 [] r) = _
      cases e : TL.spl [c] 0 [] r with
      | nil => exact absurd e (spl_ne c r [])
      | cons p t =>
        rw [e] at ih
        show acc ++ ([c] ++ TL.joinL [c] (p :: t)) = _
        rw [ih, hd]
        simp
    · rw [TL.spl_miss (by simpa using h), spl_back c r]
      simp
/-- a text's parts give the text back -/
theorem split_back {x s : Str} {c : Nat} (es : s.cps.toList = [c]) (hc : c < 256) : Txt.split x s ≠ [] ∧ Txt.join s (Txt.split x s) = x := by
  have hk : ¬ Builtin.Str.strKind x < Builtin.Str.strKind s := TL.kind_ok (by rw [← Array.all_toList, es]; simpa using hc)
  have e : (Txt.split x s).map TL.tl = TL.spl [c] 0 [] (TL.tl x) := by
    have := TL.split_spl x s (by rw [show TL.tl s = [c] from es]; simp) hk
    rw [show TL.tl s = [c] from es] at this
    exact this
  constructor
  · intro z
    rw [z] at e
    exact spl_ne c _ _ e.symm
  · refine TL.ext_tl ?_
    rw [TL.join_eq, TL.tl_join, e, show TL.tl s = [c] from es, spl_back]
    rfl
theorem join_mem_len {s : Str} : ∀ {W : List Str} {p : Str}, p ∈ W → p.length ≤ (Txt.join s W).length := by
  intro W p h
  rw [TL.join_eq, TL.len_tl, TL.len_tl, TL.tl_join]
  have : ∀ (L : List (List Nat)) (q : List Nat), q ∈ L → q.length ≤ (TL.joinL (TL.tl s) L).length := by
    intro L
    induction L with
    | nil => intro q h; cases h
    | cons a L ih =>
      intro q h
      cases L with
      | nil =>
        rcases List.mem_cons.mp h with rfl | h
        · exact Nat.le_refl _
        · cases h
      | cons b L =>
        show q.length ≤ (a ++ (TL.tl s ++ TL.joinL (TL.tl s) (b :: L))).length
        rw [List.length_append, List.length_append]
        rcases List.mem_cons.mp h with rfl | h
        · omega
        · have := ih q h
          omega
  exact this _ _ (List.mem_map.mpr ⟨p, h, rfl⟩)
theorem join2 (s p q : Str) : Txt.join s [p, q] = p ++ s ++ q := by
  refine TL.ext_tl ?_
  rw [TL.join_eq, TL.tl_join, TL.tl_append, TL.tl_append, List.append_assoc]
  rfl
theorem join1 (s p : Str) : Txt.join s [p] = p := by
  refine TL.ext_tl ?_
  rw [TL.join_eq, TL.tl_join]
  rfl
/-! ### the words of fractions -/
/-- x writes the fraction q -/
def RatTxt (x : Str) (q : Rat) : Prop := 0 ≤ q.num ∧ q.num < 10 ^ 60 ∧ q.den < 10 ^ 60 ∧ x = ratStr q
theorem num_free {x : Str} {n : Nat} (h : Num x n) {c : Nat} (hc : c < 48 ∨ 57 < c) : c ∉ x.cps.toList := fun z => by
  have := h.dig c z
  omega
theorem RatTxt.parts {x : Str} {q : Rat} (h : RatTxt x q) : (q.den = 1 ∧ Txt.split x "/" = [istr q.num] ∧ Num (istr q.num) q.num.toNat) ∨
    (2 ≤ q.den ∧ Txt.split x "/" = [istr q.num, istr (q.den : Int)] ∧ Num (istr q.num) q.num.toNat ∧ Num (istr (q.den : Int)) q.den) := by
  obtain ⟨h0, h1, h2, h3⟩ := h
  have hn : Num (istr q.num) q.num.toNat := ⟨by rw [Int.toNat_of_nonneg h0], by omega⟩
  by_cases z : q.den = 1
  · left
    refine ⟨z, ?_, hn⟩
    have e := spl_words (W := [istr q.num]) (s := ("/" : Str)) (c := 47) rfl (by decide) (by simp) fun p hp => by
      rcases List.mem_singleton.mp hp with rfl
      exact num_free hn (by decide)
    rw [join1] at e
    rw [h3, ratStr, if_pos z]
    exact e
  · right
    have hd : Num (istr (q.den : Int)) q.den := ⟨rfl, h2⟩
    have := q.den_pos
    refine ⟨by omega, ?_, hn, hd⟩
    rw [h3, ratStr, if_neg z]
    rw [show (Str.ofString (toString q.num) ++ Str.ofString "/" ++ Str.ofString (toString (q.den : Int))) = Txt.join "/" [istr q.num, istr (q.den : Int)] from (join2 _ _ _).symm]
    refine spl_words (c := 47) rfl (by decide) (by simp) ?_
    intro p hp
    simp only [List.mem_cons, List.not_mem_nil, or_false] at hp
    rcases hp with rfl | rfl
    · exact num_free hn (by decide)
    · exact num_free hd (by decide)
theorem ratTxt_one {x : Str} {n : Nat} (h : Num x n) : RatTxt x (n : Rat) := by
  refine ⟨?_, ?_, ?_, ?_⟩
  · rw [Rat.num_natCast]; omega
  · rw [Rat.num_natCast]; have := h.2; omega
  · rw [Rat.den_natCast]; decide
  · rw [h.1, ratStr, if_pos (Rat.den_natCast n), Rat.num_natCast]
theorem mk_num {n d : Nat} (h : (mkRat n d).den = d) (hd : d ≠ 0) : (mkRat (n : Int) d).num = n := by
  have e := (Rat.mkRat_eq_iff hd (mkRat (n : Int) d).den_nz).mp (Rat.mkRat_self (mkRat (n : Int) d)).symm
  rw [h] at e
  have hd' : (d : Int) ≠ 0 := by omega
  exact (Int.eq_of_mul_eq_mul_right hd' e).symm
theorem ratTxt_two {x y : Str} {n d : Nat} (h : Num x n) (g : Num y d) (hd : 2 ≤ d) (hr : (mkRat n d).den = d) : RatTxt (x ++ "/" ++ y) (mkRat n d) := by
  have e := mk_num hr (by omega)
  refine ⟨by omega, by have := h.2; omega, by rw [hr]; exact g.2, ?_⟩
  rw [ratStr, if_neg (by omega), e, hr, h.1, g.1]
end LL
namespace LL
open PySem PySem.Spec PyProof.Rows L2 He Evl ND
/-! ### events, views, entries, lines -/
abbrev Evt := Str × List Nat
def evCount (x : Str) : Option Nat := if x = "shown" then some 1 else if x = "asked" then some 2 else if x = "did" then some 1 else none
def evK (e : Evt) : NestedKey := .tup (.text e.1 :: e.2.map fun n => .num (n : Nat))
def viewK (v : List Evt) : NestedKey := .tup (v.map evK)
def evW (e : Evt) : List Str := e.1 :: e.2.map fun n => istr (n : Nat)
def viewW (v : List Evt) : List Str := v.flatMap evW
def EvOk (e : Evt) : Prop := evCount e.1 = some e.2.length ∧ ∀ n ∈ e.2, n < 10 ^ 60
def QOk (q : Rat) : Prop := 0 ≤ q.num ∧ q.num < 10 ^ 60 ∧ q.den < 10 ^ 60
abbrev PE := List Evt × List Rat
def entE (p : PE) : NestedKey × List Rat := (viewK p.1, p.2)
def POk (p : PE) : Prop := p.1.length ≤ 100 ∧ (∀ e ∈ p.1, EvOk e) ∧ p.2.length ≤ 100 ∧ ∀ q ∈ p.2, QOk q
def lineW (p : PE) : List Str := ((("at" : Str) :: viewW p.1) ++ [("do" : Str)]) ++ p.2.map ratStr
def lineT (p : PE) : Str := Txt.join " " (lineW p)
theorem QOk.txt {q : Rat} (h : QOk q) : RatTxt (ratStr q) q := ⟨h.1, h.2.1, h.2.2, rfl⟩
theorem pow_60 : (10 : Nat) ^ 60 < 2 ^ 200 := by decide +kernel
theorem QOk.sz {q : Rat} (h : QOk q) : Sz 200 q := by
  have := pow_60
  exact ⟨by have := h.1; have := h.2.1; omega, Nat.lt_trans h.2.2 this⟩
theorem evCount_kind {x : Str} {c : Nat} (h : evCount x = some c) : (x = "shown" ∧ c = 1) ∨ (x = "asked" ∧ c = 2) ∨ (x = "did" ∧ c = 1) := by
  unfold evCount at h
  split at h
  · exact .inl ⟨‹_›, (Option.some.inj h).symm⟩
  split at h
  · exact .inr (.inl ⟨‹_›, (Option.some.inj h).symm⟩)
  split at h
  · exact .inr (.inr ⟨‹_›, (Option.some.inj h).symm⟩)
  · cases h
theorem EvOk.len {e : Evt} (h : EvOk e) : 1 ≤ e.2.length ∧ e.2.length ≤ 2 := by
  rcases evCount_kind h.1 with ⟨_, h⟩ | ⟨_, h⟩ | ⟨_, h⟩ <;> omega
/-- a word of a line: short, without a space, not the other words -/
def WShort (x : Str) : Prop := 1 ≤ x.length ∧ x.length ≤ 121 ∧ (32 : Nat) ∉ x.cps.toList
theorem num_short {n : Nat} (h : n < 10 ^ 60) : WShort (istr (n : Nat)) := by
  have hn : Num (istr (n : Nat)) n := ⟨rfl, h⟩
  obtain ⟨h1, h2⟩ := hn.len
  exact ⟨h1, by omega, num_free hn (by decide)⟩
theorem app_len (x y : Str) : (x ++ y).length = x.length + y.length := by
  rw [TL.len_tl, TL.len_tl, TL.len_tl, TL.tl_append, List.length_append]
theorem rat_short {q : Rat} (h : QOk q) : WShort (ratStr q) := by
  have hn : Num (istr q.num) q.num.toNat := ⟨by rw [Int.toNat_of_nonneg h.1], by have := h.1; have := h.2.1; omega⟩
  have hd : Num (istr (q.den : Int)) q.den := ⟨rfl, h.2.2⟩
  obtain ⟨a1, a2⟩ := hn.len
  obtain ⟨b1, b2⟩ := hd.len
  unfold ratStr
  split
  · exact ⟨a1, Nat.le_trans a2 (by decide), num_free hn (by decide)⟩
  · refine ⟨?_, ?_, ?_⟩
    · rw [app_len, app_len]
      have : (Str.ofString (toString q.num)).length = (istr q.num).length := rfl
      omega
    · rw [app_len, app_len]
      have e1 : (Str.ofString (toString q.num)).length = (istr q.num).length := rfl
      have e2 : (Str.ofString (toString (q.den : Int))).length = (istr (q.den : Int)).length := rfl
      have e3 : (Str.ofString "/").length = 1 := rfl
      omega
    · intro z
      have z : 32 ∈ TL.tl (Str.ofString (toString q.num) ++ Str.ofString "/" ++ Str.ofString (toString (q.den : Int))) := z
      rw [TL.tl_append, TL.tl_append] at z
      rcases List.mem_append.mp z with z | z
      · rcases List.mem_append.mp z with z | z
        · exact num_free hn (by decide) z
        · exact absurd z (by decide)
      · exact num_free hd (by decide) z
theorem kind_short {x : Str} {c : Nat} (h : evCount x = some c) : WShort x := by
  rcases evCount_kind h with ⟨rfl, _⟩ | ⟨rfl, _⟩ | ⟨rfl, _⟩
  · exact ⟨by decide, by decide, by decide⟩
  · exact ⟨by decide, by decide, by decide⟩
  · exact ⟨by decide, by decide, by decide⟩
theorem evW_short {e : Evt} (h : EvOk e) : ∀ x ∈ evW e, WShort x := by
  intro x hx
  rcases List.mem_cons.mp hx with rfl | hx
  · exact kind_short h.1
  · obtain ⟨n, hn, rfl⟩ := List.mem_map.mp hx
    exact num_short (h.2 n hn)
theorem lineW_short {p : PE} (h : POk p) : ∀ x ∈ lineW p, WShort x := by
  intro x hx
  unfold lineW at hx
  rcases List.mem_append.mp hx with hx | hx
  · rcases List.mem_append.mp hx with hx | hx
    · rcases List.mem_cons.mp hx with rfl | hx
      · exact ⟨by decide, by decide, by decide⟩
      · obtain ⟨e, he, hx⟩ := List.mem_flatMap.mp hx
        exact evW_short (h.2.1 e he) x hx
    · rcases List.mem_singleton.mp hx with rfl
      exact ⟨by decide, by decide, by decide⟩
  · obtain ⟨q, hq, rfl⟩ := List.mem_map.mp hx
    exact rat_short (h.2.2.2 q hq)
theorem viewW_len : ∀ {v : List Evt}, (∀ e ∈ v, EvOk e) → (viewW v).length ≤ 3 * v.length
  | [], _ => Nat.zero_le _
  | e :: v, h => by
    have h1 := (h e (.head _)).len
    have h2 := viewW_len (v := v) fun x hx => h x (.tail _ hx)
    show (evW e ++ viewW v).length ≤ _
    rw [List.length_append, List.length_cons]
    have : (evW e).length = e.2.length + 1 := by simp [evW]
    omega
theorem lineW_len {p : PE} (h : POk p) : (lineW p).length ≤ 402 := by
  have h1 := viewW_len h.2.1
  have h2 := h.1
  have h3 := h.2.2.1
  unfold lineW
  rw [List.length_append, List.length_append, List.length_cons, List.length_map, List.length_singleton]
  omega
theorem sum_le {k : Nat} : ∀ {W : List Str}, (∀ x ∈ W, x.length ≤ k) → (W.map (·.length)).sum ≤ W.length * k
  | [], _ => Nat.zero_le _
  | x :: W, h => by
    have h1 := h x (.head _)
    have h2 := sum_le (W := W) fun y hy => h y (.tail _ hy)
    rw [List.map_cons, List.sum_cons, List.length_cons, Nat.add_mul]
    omega
theorem lineW_join {p : PE} (h : POk p) : ((lineW p).map (·.length)).sum + (lineW p).length * (" " : Str).length ≤ 16777216 := by
  have h1 := sum_le (k := 121) fun x hx => (lineW_short h x hx).2.1
  have h2 := lineW_len h
  have h3 := Nat.mul_le_mul_right 121 h2
  have e : (" " : Str).length = 1 := rfl
  rw [e]
  omega
theorem lineT_split {p : PE} (h : POk p) : Txt.split (lineT p) " " = lineW p :=
  spl_words (c := 32) rfl (by decide) (by simp [lineW]) fun x hx => (lineW_short h x hx).2.2
end LL
namespace LL
open PySem PySem.Spec PyProof.Rows L2 He Evl ND
theorem yes_if {σ : L2.St} {H : Hp} {A B : Hp → Prop} (h : A H) : tYes σ H (fun b H3 => if b = true then A H3 else B H3) := by
  show (if true = true then A H else B H)
  rw [if_pos rfl]
  exact h
theorem upd_twice {H : Hp} {a : Addr} {o u : HO} : upd (upd H a o) a u = upd H a u := by
  funext b
  by_cases h : b = a
  · rw [h, upd_same, upd_same]
  · rw [upd_ne h, upd_ne h, upd_ne h]
section
variable {K : PySem.W.Frag} {σ : L2.St} {H : Hp} {te tl : TE} {j : Nat} {vs : List Nat} {xs ys : List V}
theorem lc_turn {H0 H' : Hp} {D : Addr} {i : Nat} {x : V} (e0 : Ex H H0) (nD : H0 D = none) (e : Ex H0 H') (hD : H' D = some (.lst (ys.take i))) (hl : ys.length ≤ 40000) (hi : i < ys.length) (hw : ∀ x, wipe ((wipe σ vs).set j (some x)) vs = wipe σ vs)
    (he : ∀ y, ys[i]? = some y → Ev te ((wipe σ vs).set j (some x)) H y) :
    gName j x (wipe σ vs) H' fun σ2 H2 => wipe σ2 vs = wipe σ vs ∧ tYes σ2 H2 fun b H3 => if b = true then te σ2 H3 fun y H4 => ∃ acc, H4 D = some (.lst acc) ∧ acc.length < sizeLine ∧ (Ex H0 (upd H4 D (.lst (acc ++ [y]))) ∧ upd H4 D (.lst (acc ++ [y])) D = some (.lst (ys.take (i + 1)))) else (Ex H0 H3 ∧ H3 D = some (.lst (ys.take (i + 1)))) := by
  refine ⟨hw x, yes_if ?_⟩
  obtain ⟨y, hy⟩ : ∃ y, ys[i]? = some y := ⟨_, List.getElem?_eq_getElem hi⟩
  refine he y hy H' (e0.trans e) _ fun H4 e4 => ⟨ys.take i, e4 _ _ hD, ?_, (e.trans e4).mut nD, ?_⟩
  · rw [List.length_take]
    have : (100000 : Nat) ≤ sizeLine := by decide
    omega
  · rw [upd_same, List.take_add_one, hy]; rfl
/-- [f(x) for x in a tuple] -/
theorem lcT {a : Addr} (h : Ev tl σ H (.ref a)) (hx : SqT K H a xs) (hl : ys.length = xs.length) (hz : xs.length ≤ 40000) (hw : ∀ x, wipe ((wipe σ vs).set j (some x)) vs = wipe σ vs)
    (he : ∀ (i : Nat) (x y : V), xs[i]? = some x → ys[i]? = some y → Ev te ((wipe σ vs).set j (some x)) H y) : EvL (tLc (iTup K tl) (gName j) tYes te vs) σ H ys := fun H0 e Q q => h H0 e _ fun H1 e1 => ⟨a, rfl, ⟨xs, ex_t (e.trans e1) hx⟩, fun D nD =>
  lc_it (walk_tup (xs := xs)) (fun i H' => Ex H1 H' ∧ H' D = some (.lst (ys.take i))) ⟨Ex.new nD, upd_same⟩ (fun i H' _ p => ex_t ((e.trans e1).trans p.1) hx)
    (fun i x H' H'' hi p hy => by
      obtain ⟨rfl, hx⟩ := hy
      exact lc_turn (e.trans e1) nD p.1 p.2 (by omega) (by omega) hw fun y hy => he i x y hx hy) (fun H' p => q D H' (fresh_back e1 nD) (e1.trans p.1) (by rw [p.2, ← hl, List.take_length]))⟩
theorem lcL {a : Addr} (h : Ev tl σ H (.ref a)) (hx : SqL K H a xs) (hl : ys.length = xs.length) (hz : xs.length ≤ 40000) (hw : ∀ x, wipe ((wipe σ vs).set j (some x)) vs = wipe σ vs)
    (he : ∀ (i : Nat) (x y : V), xs[i]? = some x → ys[i]? = some y → Ev te ((wipe σ vs).set j (some x)) H y) : EvL (tLc (iList K tl) (gName j) tYes te vs) σ H ys := fun H0 e Q q => h H0 e _ fun H1 e1 => ⟨a, rfl, ⟨xs, ex_l (e.trans e1) hx⟩, fun D nD =>
  lc_it (walk_list (xs := xs)) (fun i H' => Ex H1 H' ∧ H' D = some (.lst (ys.take i))) ⟨Ex.new nD, upd_same⟩ (fun i H' _ p => ex_l ((e.trans e1).trans p.1) hx)
    (fun i x H' H'' hi p hy => by
      obtain ⟨rfl, hx⟩ := hy
      exact lc_turn (e.trans e1) nD p.1 p.2 (by omega) (by omega) hw fun y hy => he i x y hx hy) (fun H' p => q D H' (fresh_back e1 nD) (e1.trans p.1) (by rw [p.2, ← hl, List.take_length]))⟩
theorem lcN (h : EvL tl σ H xs) (hl : ys.length = xs.length) (hz : xs.length ≤ 40000) (hw : ∀ x, wipe ((wipe σ vs).set j (some x)) vs = wipe σ vs)
    (he : ∀ (i : Nat) (x y : V), xs[i]? = some x → ys[i]? = some y → Ev te ((wipe σ vs).set j (some x)) H y) : EvL (tLc (iList K tl) (gName j) tYes te vs) σ H ys := fun H0 e Q q => h H0 e _ fun a H1 na e1 ha => ⟨a, rfl, ⟨xs, sq_of ha⟩, fun D nD =>
  lc_it (walk_list (xs := xs)) (fun i H' => Ex H1 H' ∧ H' D = some (.lst (ys.take i))) ⟨Ex.new nD, upd_same⟩ (fun i H' _ p => ex_l p.1 (sq_of ha))
    (fun i x H' H'' hi p hy => by
      obtain ⟨rfl, hx⟩ := hy
      exact lc_turn (e.trans e1) nD p.1 p.2 (by omega) (by omega) hw fun y hy => he i x y hx hy) (fun H' p => q D H' (fresh_back e1 nD) (e1.trans p.1) (by rw [p.2, ← hl, List.take_length]))⟩
end
section
variable {K : PySem.W.Frag}
/-! ### keys of views in the heap -/
theorem dp_tupK {H : Hp} {v : V} {ds : List PyData} (h : Dp K H v (.tuple ds)) : ∃ a vs, v = .ref a ∧ SqT K H a vs ∧ DpAll K H vs ds := by
  cases h with
  | tup h1 h2 => exact ⟨_, _, rfl, h1, h2⟩
def evV (e : Evt) : List V := .str e.1 :: e.2.map fun n => .int (n : Nat)
def EvAt (K : PySem.W.Frag) (H : Hp) (x : V) (e : Evt) : Prop := ∃ a, x = .ref a ∧ SqT K H a (evV e)
theorem dpa_nums {H : Hp} : ∀ (ns : List Nat) (vs : List V), DpAll K H vs (NestedKey.datas (ns.map fun n => .num (n : Nat))) ↔ vs = ns.map fun n => .int (n : Nat)
  | [], vs => by
    rw [List.map_nil, NestedKey.datas]
    exact ⟨fun h => by cases h; rfl, fun h => by rw [h]; exact .nil⟩
  | n :: ns, vs => by
    rw [List.map_cons, NestedKey.datas, NestedKey.data]
    constructor
    · intro h
      cases h with
      | cons h1 h2 =>
        cases h1
        rw [(dpa_nums ns _).mp h2]
        rfl
    · intro h
      rw [h]
      exact .cons (.int _) ((dpa_nums ns _).mpr rfl)
theorem ev_dp {H : Hp} {x : V} {e : Evt} : Dp K H x (evK e).data ↔ EvAt K H x e := by
  unfold evK EvAt evV
  rw [NestedKey.data, NestedKey.datas, NestedKey.data]
  constructor
  · intro h
    obtain ⟨a, vs, rfl, h1, h2⟩ := dp_tupK h
    cases h2 with
    | cons h3 h4 =>
      cases h3
      rw [(dpa_nums _ _).mp h4] at h1
      exact ⟨a, rfl, h1⟩
  · rintro ⟨a, rfl, h⟩
    exact Dp.tup h (.cons (.str _) ((dpa_nums _ _).mpr rfl))
theorem evs_dp {H : Hp} : ∀ {xs : List V} {v : List Evt}, DpAll K H xs (NestedKey.datas (v.map evK)) ↔ Paired (EvAt K H) xs v
  | xs, [] => by
    rw [List.map_nil, NestedKey.datas]
    exact ⟨fun h => by cases h; exact .nil, fun h => by cases h; exact .nil⟩
  | xs, e :: v => by
    rw [List.map_cons, NestedKey.datas]
    constructor
    · intro h
      cases h with
      | cons h1 h2 => exact .cons (ev_dp.mp h1) (evs_dp.mp h2)
    · intro h
      cases h with
      | cons h1 h2 => exact .cons (ev_dp.mpr h1) (evs_dp.mpr h2)
theorem key_view {H : Hp} {b : Addr} {v : List Evt} (h : KeyAt K H b (viewK v)) : ∃ xs, SqT K H b xs ∧ Paired (EvAt K H) xs v := by
  have h := h.2.2
  unfold viewK at h
  rw [NestedKey.data] at h
  obtain ⟨a, xs, e, h1, h2⟩ := dp_tupK h
  cases e
  exact ⟨xs, h1, evs_dp.mp h2⟩
theorem depths_num : ∀ ns : List Nat, NestedKey.depthAll (ns.map fun n => .num (n : Nat)) ≤ 1
  | [] => by rw [List.map_nil, NestedKey.depthAll]; omega
  | n :: ns => by
    have := depths_num ns
    rw [List.map_cons, NestedKey.depthAll, NestedKey.depth]
    omega
theorem depth_ev (e : Evt) : (evK e).depth ≤ 4 := by
  have := depths_num e.2
  unfold evK
  rw [NestedKey.depth, NestedKey.depthAll, NestedKey.depth]
  omega
theorem depths_ev : ∀ v : List Evt, NestedKey.depthAll (v.map evK) ≤ 5
  | [] => by rw [List.map_nil, NestedKey.depthAll]; omega
  | e :: v => by
    have h1 := depth_ev e
    have h2 := depths_ev v
    rw [List.map_cons, NestedKey.depthAll]
    omega
theorem view_key {H : Hp} {b : Addr} {v : List Evt} {xs : List V} (h : SqT K H b xs) (hp : Paired (EvAt K H) xs v) : KeyAt K H b (viewK v) := by
  refine ⟨⟨_, rfl⟩, ?_, ?_⟩
  · have := depths_ev v
    unfold viewK
    rw [NestedKey.depth]
    omega
  · unfold viewK
    rw [NestedKey.data]
    exact Dp.tup h (evs_dp.mpr hp)
theorem EvAt.mono {H H' : Hp} {x : V} {e : Evt} (h : EvAt K H x e) (x' : Ex H H') : EvAt K H' x e := by
  obtain ⟨a, h1, h2⟩ := h
  exact ⟨a, h1, ex_t x' h2⟩
end
end LL
namespace LL
open PySem PySem.Spec PyProof.Rows L2 He Evl ND
abbrev P : Program := PR
section
variable {X : Cx} {e : Expr} {p pos : Pos} {ta : TA}
theorem pmk_BadPlan (T : Txt X.K X.mg) (hr : Room 2 X.A) (ha : PA X [e] ta) (hP : X.prog = PR := by rfl) (hg : Gl X "BadPlan" := by rfl) (he : starEach [e] X.env = (false, eval e X.env) :: starEach [] X.env := by rfl) : PMk X (.Call (.Name "BadPlan" p) [e] [] pos) (tMkS (ga X.K "BadPlan") "at" ta) :=
  pmk_sup (by rw [hP]; exact T.s_BadPlan) T.f_super hr hg T.g_BadPlan ha (by decide) he
end
section
variable {w : World} {K : PySem.W.Frag} {mg : Str → Option Value} {base : Heap}
def sumR (qs : List Rat) : Rat := qs.foldl (· + ·) 0
theorem sz_of {n d : Int} {k : Nat} (h0 : 0 < d) (h1 : n.natAbs < 2 ^ k) (h2 : d.natAbs < 2 ^ k) : Sz k (mkRat n d.toNat) := by
  have e : (if d.toNat = 0 then 0 else n / ↑(d.toNat.gcd n.natAbs)) = n / ↑(d.toNat.gcd n.natAbs) := if_neg (by omega)
  have e2 : (if d.toNat = 0 then 1 else d.toNat / d.toNat.gcd n.natAbs) = d.toNat / d.toNat.gcd n.natAbs := if_neg (by omega)
  constructor
  · rw [Rat.num_mkRat, e]
    exact Nat.lt_of_le_of_lt (Int.natAbs_ediv_le_natAbs _ _) h1
  · rw [Rat.den_mkRat, e2]
    exact Nat.lt_of_le_of_lt (Nat.div_le_self _ _) (by omega)
theorem sz_add {p q : Rat} {j k : Nat} (hp : Sz j p) (hq : Sz k q) : Sz (j + k + 1) (p + q) := by
  rw [add_mk]
  have a1 := mul_lt_pow hp.1 hq.2
  have a2 := mul_lt_pow hq.1 hp.2
  have a3 := mul_lt_pow hp.2 hq.2
  have e : 2 ^ (j + k + 1) = 2 ^ (j + k) + 2 ^ (j + k) := by rw [Nat.pow_succ]; omega
  rw [Nat.add_comm k j] at a2
  refine sz_of (den_nz p q) ?_ ?_
  · refine Nat.lt_of_le_of_lt (Int.natAbs_add_le _ _) ?_
    rw [Int.natAbs_mul, Int.natAbs_mul, Int.natAbs_natCast, Int.natAbs_natCast, e]
    omega
  · rw [← Int.natCast_mul, Int.natAbs_natCast, e]
    omega
theorem sz_sum {k : Nat} : ∀ {qs : List Rat}, (∀ q ∈ qs, Sz k q) → ∀ {j : Nat} {p : Rat}, Sz j p → Sz (j + qs.length * (k + 1)) (qs.foldl (· + ·) p)
  | [], _, j, p, h => by simpa using h
  | q :: qs, hq, j, p, h => by
    have h1 := sz_add h (hq q (.head _))
    have h2 := sz_sum (fun x hx => hq x (.tail _ hx)) h1
    rw [List.foldl_cons]
    refine h2.mono ?_
    rw [List.length_cons, Nat.add_mul]
    omega
/-- the sum of a list of Ratios -/
def spAdded (K : PySem.W.Frag) : Sp := fun us H Q _ => ∃ (a : Addr) (vs : List V) (qs : List Rat) (k : Nat), us = [.ref a] ∧ SqL K H a vs ∧ RatsAt K H vs qs ∧ (∀ q ∈ qs, Sz k q) ∧ 1 + qs.length * (k + 1) ≤ 8000 ∧ (1 ≤ k ∧ k ≤ 1000) ∧ ∀ v H', Ex H H' → RatAt K H' v (sumR qs) → Q v H'
theorem fn_added (T : Txt K mg) : Fn P w K mg base 4 (ga K "added") (spAdded K) := by
  refine fn_def T.d_added sc_added (fun _ _ _ _ _ _ us hl => match us, hl with | [_], _ => rfl) (fun vs H Q E h => ?_) (fun cdv A outer s H vs Q E hr h => ?_)
  · obtain ⟨a, vs, qs, k, rfl, _⟩ := h
    rfl
  obtain ⟨a, vs, qs, j, rfl, hs, hq, hz, hb, hk, k⟩ := h
  have nd := sc_added.nd
  refine ⟨_, pss_cons (ps_set (i := 1) nd rfl (by first | exact Or.inl rfl | exact Or.inr rfl) (StX.pe_makeR T.m_Ratio (fn_RI1 T) (hr.mono (by decide)) rfl T.g_Ratio pc (pa_cons (pe_int) pa_nil)))
      (pss_cons (ps_for (passes_of rfl) rfl (pi_list (pv 0)) (pg_name (i := 2) nd rfl (by first | exact Or.inl rfl | exact Or.inr rfl)) (pss_one (ps_set (i := 1) nd rfl (by first | exact Or.inl rfl | exact Or.inr rfl) (pe_op (op_ownB T.sf_Ratio T.t_Ratio_add.at_ T.t_Ratio_add.fn (fn_Ratio_add T) (hr.mono (by decide)) pc) (pv 1) (pv 2)))))
      (pss_one (ps_ret (pv 1)))), ?_⟩
  refine mk_ratio (K := K) (n := 0) (d := 1) (Q := fun v H2 => gName 1 v _ H2 _) (E := E) (by decide) (by decide) fun v0 H1 e1 r0 => ?_
  have e1 : Ex H H1 := e1
  refine ⟨_, rfl, a, rfl, ⟨vs, ex_l e1 hs⟩, for_list (xs := vs) (fun i σ H' => ∃ (v : V) (u2 : Option V), Ex H H' ∧ RatAt K H' v ((qs.take i).foldl (· + ·) 0) ∧ σ = [some (.ref a), some v, u2]) ?_ ?_ ?_ ?_⟩
  · exact ⟨v0, none, e1, r0, rfl⟩
  · rintro i σ H' _ ⟨_, _, e, _⟩
    exact ex_l e hs
  · rintro i x σ H2 hx ⟨v, u2, e2, r2, rfl⟩
    obtain ⟨q, hq1, hq2⟩ := paired_get hq hx
    have hx2 := hq2.mono e2
    obtain ⟨b, dy, rfl, hb⟩ := id hx2
    obtain ⟨c, dz, rfl, hc⟩ := id r2
    have hz2 : Sz 8000 ((qs.take i).foldl (· + ·) 0) := by
      refine (sz_sum (k := j) (j := 1) (fun x hx => hz x (List.mem_of_mem_take hx)) (by constructor <;> decide)).mono ?_
      have : (qs.take i).length ≤ qs.length := by rw [List.length_take]; omega
      have := Nat.mul_le_mul_right (j + 1) this
      omega
    refine ⟨_, rfl, _, rfl, c, _, _, b, _, _, rfl, rfl, hc, hb, _, _, _, _, 8000, j, rfl, r2, hx2, ⟨by decide, hk.1, by have := hk.2; omega⟩, hz2, hz q (List.mem_of_getElem? hq1), fun v' H' e' r' => ?_⟩
    refine ⟨v', _, e2.trans e', ?_, rfl⟩
    rw [List.take_add_one, hq1, List.foldl_append]
    exact r'
  · rintro σ H2 ⟨v, u2, e2, r2, rfl⟩
    rw [Paired.length hq, List.take_length] at r2
    exact ⟨_, rfl, k v H2 e2 r2⟩
end
end LL
namespace LL
open PySem PySem.Spec PyProof.Rows L2 He Evl ND
section
variable {w : World} {K : PySem.W.Frag} {mg : Str → Option Value} {base : Heap}
abbrev Ent := NestedKey × List Rat
/-- an entry that Plan(..) is given -/
def EinAt (K : PySem.W.Frag) (B H : Hp) (v : V) (e : Ent) : Prop := ∃ (t b l : Addr) (vs : List V), v = .ref t ∧ SqT K B t [.ref b, .ref l] ∧ KeyAt K B b e.1 ∧ SqL K H l vs ∧ RatsAt K B vs e.2
/-- the table's entries -/
def TabAt (K : PySem.W.Frag) (H : Hp) (kvs : List NE) (es : List Ent) : Prop := Paired (fun (n : NE) (e : Ent) => n.1 = e.1 ∧ KeyAt K H n.2.1 n.1 ∧ ∃ (b : Addr) (vs : List V), n.2.2 = .ref b ∧ SqT K H b vs ∧ RatsAt K H vs e.2) kvs es
theorem sql_stp {ms : List Addr} {B H B2 H2 : Hp} {a : Addr} {vs : List V} (h : SqL K H a vs) (s : Stp ms B H B2 H2) (hn : ∀ m ∈ ms, ¬ Rd H m (.lst vs)) : SqL K H2 a vs := by
  rcases h with (h | ⟨u, h⟩) | h
  · exact .inl (.inl (s.fr _ _ (fun z => hn a z (.inl h)) h))
  · exact .inl (.inr ⟨u, s.fr _ _ (fun z => hn a z (.inr ⟨u, h⟩)) h⟩)
  · exact .inr h
theorem rd_ne {H : Hp} {m : Addr} {o u : HO} (h : H m = some o) (n1 : o ≠ u) (n2 : ∀ ob, o ≠ .frz ob u) : ¬ Rd H m u := by
  rintro (z | ⟨ob, z⟩)
  · rw [h] at z; exact n1 (Option.some.inj z)
  · rw [h] at z; exact n2 ob (Option.some.inj z)
theorem ndo_ne {P : Program} {w : World} {a : Addr} {kvs : List NE} {xs : List V} : NDo P w a kvs ≠ .lst xs ∧ ∀ ob, NDo P w a kvs ≠ .frz ob (.lst xs) :=
  ⟨(fun z => by unfold NDo at z; cases z), (fun ob z => by unfold NDo at z; cases z)⟩
theorem ein_stp {ms : List Addr} {B H B2 H2 : Hp} {v : V} {e : Ent} (h : EinAt K B H v e) (s : Stp ms B H B2 H2) (hn : ∀ m ∈ ms, ∀ xs, ¬ Rd H m (.lst xs)) : EinAt K B2 H2 v e := by
  obtain ⟨t, b, l, vs, h1, h2, h3, h4, h5⟩ := h
  exact ⟨t, b, l, vs, h1, ex_t s.base h2, h3.mono s.base, sql_stp h4 s fun m hm => hn m hm vs, rats_mono h5 s.base⟩
theorem TabAt.mono {H H' : Hp} {kvs : List NE} {es : List Ent} (h : TabAt K H kvs es) (e : Ex H H') : TabAt K H' kvs es := paired_mono h fun n x ⟨h1, h2, b, vs, h3, h4, h5⟩ => ⟨h1, h2.mono e, b, vs, h3, ex_t e h4, rats_mono h5 e⟩
theorem TabAt.ks {H : Hp} {kvs : List NE} {es : List Ent} (h : TabAt K H kvs es) : KsAt K H kvs := by
  induction h with
  | nil => exact fun _ h => nomatch h
  | cons h t ih =>
    intro e he
    rcases List.mem_cons.mp he with rfl | he
    · exact h.2.1
    · exact ih e he
theorem TabAt.get {H : Hp} {kvs : List NE} {es : List Ent} (h : TabAt K H kvs es) (k : NestedKey) : (nGet kvs k).isSome = decide (k ∈ es.map (·.1)) := by
  unfold nGet nP
  induction h with
  | nil => rfl
  | @cons n e ns es h t ih =>
    rw [List.map_cons, List.map_cons]
    by_cases z : n.1 = k
    · rw [valV_pos (p := (n.1, n.2.2)) z]
      have : k ∈ e.1 :: es.map (·.1) := by rw [← z, h.1]; exact List.mem_cons_self
      rw [decide_eq_true this]
      rfl
    · rw [valV_neg (p := (n.1, n.2.2)) z, ih]
      congr 1
      have : ¬ k = e.1 := fun y => z (by rw [y]; exact h.1)
      simp [this]
theorem TabAt.len {H : Hp} {kvs : List NE} {es : List Ent} (h : TabAt K H kvs es) : kvs.length = es.length := Paired.length h
theorem emp_len {α β : Type} {xs : List α} {ys : List β} (h : xs.length = ys.length) : xs.isEmpty = ys.isEmpty := by
  cases xs <;> cases ys <;> first | rfl | cases h
theorem all_any {qs : List Rat} : (qs.all fun q => decide (0 ≤ q.num)) = !(qs.any fun q => decide (q.num < 0)) := by
  induction qs with
  | nil => rfl
  | cons q qs ih =>
    rw [List.all_cons, List.any_cons, ih, Bool.not_or]
    congr 1
    by_cases z : q.num < 0
    · rw [decide_eq_true z, decide_eq_false (by omega)]; rfl
    · rw [decide_eq_false z, decide_eq_true (by omega)]; rfl
theorem tab_add {H : Hp} {kvs : List NE} {es : List Ent} {e : Ent} {k : NestedKey} {b : Addr} {v : V} (h : TabAt K H kvs es) (h1 : k = e.1) (h2 : KeyAt K H b k) (h3 : ∃ (c : Addr) (vs : List V), v = .ref c ∧ SqT K H c vs ∧ RatsAt K H vs e.2) : TabAt K H (kvs ++ [(k, b, v)]) (es ++ [e]) := by
  induction h with
  | nil => exact .cons ⟨h1, h2, h3⟩ .nil
  | cons p q ih => exact .cons p ih
def okE (seen : List NestedKey) (e : Ent) : Bool := !decide (e.1 ∈ seen) && (!e.2.isEmpty && (e.2.all (fun q => decide (0 ≤ q.num)) && decide (sumR e.2 = 1)))
def planBad (seen : List NestedKey) (i : Nat) : List Ent → Option Nat
  | [] => none
  | e :: r => if okE seen e = true then planBad (seen ++ [e.1]) (i + 1) r else some i
def spPI (w : World) (K : PySem.W.Frag) : Sp := fun us H Q E => ∃ (B : Hp) (x dx a : Addr) (vs : List V) (es : List Ent) (k : Nat), us = [.ref x, .ref a] ∧ Ex B H ∧ B x = none ∧ H x = some (.ins (ga K "Plan") dx []) ∧ SqL K H a vs ∧ Paired (EinAt K B H) vs es ∧
  es.length ≤ 1000 ∧ (1 ≤ k ∧ k ≤ 1000) ∧ (∀ e ∈ es, 1 + e.2.length * (k + 1) ≤ 8000 ∧ ∀ q ∈ e.2, Sz k q) ∧
  (planBad [] 0 es = none → ∀ (B2 H2 : Hp) (t : Addr) (kvs : List NE), Stp [x] B H B2 H2 → H2 x = some (.ins (ga K "Plan") dx [("table", .ref t)]) → B2 t = some (NDo P w t kvs) → TabAt K B2 kvs es → Q .non H2) ∧
  (∀ i, planBad [] 0 es = some i → ∀ (B2 H2 : Hp) (d : Addr), Stp [x] B H B2 H2 → H2 d = some (.xd [("at", .int (i : Nat))]) → E (.ref (ga K "BadPlan")) (some d) H2)
theorem fn_Plan_init (T : Txt K mg) : Fn P w K mg base 5 (ma K (ga K "Plan") "__init__") (spPI w K) := by
  refine fn_def T.d_Plan_init sc_Plan_init (fun _ _ _ _ _ _ us hl => match us, hl with | [_, _], _ => rfl) (fun vs H Q E h => ?_) (fun cdv A outer s H vs Q E hr h => ?_)
  · obtain ⟨B, x, dx, a, vs, es, k, rfl, _⟩ := h
    rfl
  obtain ⟨B, x, dx, a, vs, es, j0, rfl, e, hb, hx, hs, hp, hl, hj, hz, kg, kb⟩ := h
  have nd := sc_Plan_init.nd
  refine ⟨_, pss_cons (ps_fld (pv 0) (ND.pe_new) rfl)
      (pss_one (ps_for (passes_of rfl) rfl (pi_enum (by rfl) T.f_enumerate (pa_cons (pv 1) pa_nil)) (pg_tup rfl (pgs_cons (pg_name (i := 2) nd rfl (by first | exact Or.inl rfl | exact Or.inr rfl)) (pgs_cons (pg_name (i := 3) nd rfl (by first | exact Or.inl rfl | exact Or.inr rfl)) pgs_nil))) (pss_cons (ps_asg (pv 3) (pg_tup rfl (pgs_cons (pg_name (i := 4) nd rfl (by first | exact Or.inl rfl | exact Or.inr rfl)) (pgs_cons (pg_name (i := 5) nd rfl (by first | exact Or.inl rfl | exact Or.inr rfl)) pgs_nil))))
      (pss_cons (ps_if (PW.pt (pw_or (pt_cmpR (ND.op_in hr.units) (pv 4) (pe_fld (pv 0) rfl) rfl) (pw_or (pt_not (pt_truth (pv 5) (by intro _; rfl))) (pw_or (pt_val (pe_callB (cr_any rfl) (by rfl) T.f_any (by decide +kernel) (pa_cons (pe_lc (own := [("lot", 6)]) (g := gName 6) (tt := tYes) rfl nd (pi_list (pv 5)) (blkOk_by (N := n_Plan_init) (sc := defScope s_Plan_init) (by decide +kernel)) (fun _ _ _ _ _ => pg_name (i := 6) nd rfl (by first | exact Or.inl rfl | exact Or.inr rfl)) (fun _ _ _ _ _ => pts_nil) (fun _ _ _ _ _ => pe_cmpR op_lt (pek_fld K (pv 6) rfl) (pe_int) (nomark _))) pa_nil))) (pw_or1 (pt_cmpR (op_ownNe T.ne_Ratio T.t_Ratio_eq.at_ T.t_Ratio_eq.fn T.om_Ratio (fn_Ratio_eq T) (hr.mono (by decide)) pc) (pe_fn T.d_added (fn_added T) (hr.mono (by decide)) T.g_added pc (pa_cons (pv 5) pa_nil)) (StX.pe_makeR T.m_Ratio (fn_RI1 T) (hr.mono (by decide)) rfl T.g_Ratio pc (pa_cons (pe_int) pa_nil)) (nomark _))))))) (pss_one (ps_raise rfl (takes_of rfl rfl rfl rfl) (pmk_BadPlan T (hr.mono (by decide)) (pa_cons (pv 2) pa_nil)))) (pss_nil))
      (pss_one (ND.ps_put hr.units (pe_fld (pv 0) rfl) (pv 4) (pe_callTy call_tuple_of (by rfl) T.f_tuple (by decide +kernel) (pa_cons (pv 5) pa_nil)) rfl)))))), ?_⟩
  refine fun t nt => ?_
  have htx : t ≠ x := fun z => by rw [z, hx] at nt; cases nt
  have hx1 := (upd_ne (H := H) (o := NDo P w t []) (ne_of_none hx nt)).trans hx
  have c0 := Stp.cell (ms := [t, x]) (o := NDo P w t []) e nt
  refine ⟨_, rfl, x, ga K "Plan", dx, [], rfl, hx1, T.c_Plan, T.a_Plan_table, (by show 0 < 1000; decide), ?_⟩
  have s0 : Stp [t, x] B (upd H t (NDo P w t [])) B (upd (upd H t (NDo P w t [])) x (.ins (ga K "Plan") dx [("table", .ref t)])) := Stp.put c0.in_ hb (by simp)
  have hbt : B t = none := ex_none e nt
  have hxt : upd H t (NDo P w t []) x = some (.ins (ga K "Plan") dx []) := hx1
  have nolist : ∀ m ∈ [t, x], ∀ xs, ¬ Rd (upd H t (NDo P w t [])) m (.lst xs) := by
    intro m hm xs
    simp only [List.mem_cons, List.not_mem_nil, or_false] at hm
    rcases hm with rfl | rfl
    · exact rd_ne upd_same ndo_ne.1 ndo_ne.2
    · exact rd_ne hxt (fun z => nomatch z) (fun _ z => nomatch z)
  have hs1 : SqL K (upd H t (NDo P w t [])) a vs := ex_l (Ex.new nt) hs
  have hp1 : Paired (EinAt K B (upd H t (NDo P w t []))) vs es := paired_mono hp fun v en ⟨q1, q2, q3, q4, h1, h2, h3, h4, h5⟩ => ⟨q1, q2, q3, q4, h1, h2, h3, ex_l (Ex.new nt) h4, h5⟩
  refine ⟨_, rfl, a, vs, rfl, sql_stp hs1 s0 (fun m hm => nolist m hm vs), for_it (walk_enum (xs := vs)) (fun i σ H' => ∃ (B' : Hp) (kvs : List NE) (u2 u3 u4 u5 u6 : Option V), Stp [t, x] B (upd H t (NDo P w t [])) B' H' ∧ H' t = some (NDo P w t kvs) ∧
      H' x = some (.ins (ga K "Plan") dx [("table", .ref t)]) ∧ TabAt K B' kvs (es.take i) ∧ planBad [] 0 es = planBad ((es.take i).map (·.1)) i (es.drop i) ∧ σ = [some (.ref x), some (.ref a), u2, u3, u4, u5, u6]) ?_ ?_ ?_ ?_⟩
  · exact ⟨B, [], none, none, none, none, none, s0, (upd_ne htx).trans upd_same, upd_same, .nil, rfl, rfl⟩
  · rintro i σ H' _ ⟨B', kvs, _, _, _, _, _, s1, _⟩
    exact sql_stp hs1 s1 fun m hm => nolist m hm vs
  · rintro i y σ H1 H2 hi ⟨B1, kvs, u2, u3, u4, u5, u6, s1, ht1, hx1', htab, hpb, rfl⟩ ⟨T0, y1, y2, rfl, nT0, rfl, ey1, ey2⟩
    cases ey1
    have hie : i < es.length := by rw [← Paired.length hp]; exact hi
    obtain ⟨en, hen, hin⟩ := paired_get hp1 ey2
    have hin1 := ein_stp hin s1 nolist
    obtain ⟨tt, b, l, ls, rfl, htt, hkb, hll, hrr⟩ := hin1
    have sT := Stp.cell (ms := [t, x]) (o := .tup [.int (i : Nat), .ref tt]) s1.in_ nT0
    have s2 := s1.trans sT
    have x12 : Ex H1 (upd H1 T0 (.tup [.int (i : Nat), .ref tt])) := Ex.new nT0
    refine ⟨T0, _, rfl, SqT.of upd_same, rfl, _, _, rfl, _, _, rfl, rfl, ?_⟩
    refine ⟨_, rfl, tt, _, rfl, ex_t s2.in_ htt, rfl, _, _, rfl, _, _, rfl, rfl, ?_⟩
    have ht2 := x12 _ _ ht1
    have hx2 := x12 _ _ hx1'
    have hl2 : SqL K (upd H1 T0 (.tup [.int (i : Nat), .ref tt])) l ls := ex_l x12 hll
    obtain ⟨hzl, hzq⟩ := hz en (List.mem_of_getElem? hen)
    have hdrop : es.drop i = en :: es.drop (i + 1) := by
      rw [List.drop_eq_getElem_cons hie]
      congr 1
      exact Option.some.inj ((List.getElem?_eq_getElem hie).symm.trans hen)
    have hbad : okE ((es.take i).map (·.1)) en = false → planBad [] 0 es = some i := fun z => by
      rw [hpb, hdrop]
      unfold planBad
      rw [z]
      rfl
    have hgood : okE ((es.take i).map (·.1)) en = true → planBad [] 0 es = planBad ((es.take (i + 1)).map (·.1)) (i + 1) (es.drop (i + 1)) := fun z => by
      rw [hpb, hdrop, List.take_add_one, hen]
      conv => lhs; unfold planBad
      rw [z, if_pos rfl, List.map_append]
      rfl
    -- the entry is wrong
    have raise : okE ((es.take i).map (·.1)) en = false → ∀ H4 d, Ex (upd H1 T0 (.tup [.int (i : Nat), .ref tt])) H4 → H4 d = none → E (.ref (ga K "BadPlan")) (some d) (upd H4 d (.xd [("at", .int (i : Nat))])) := fun z H4 d x4 nd4 => by
      have s4 := s2.trans (Stp.ofEx (ms := [t, x]) s2.in_ x4)
      have s5 := s4.trans (Stp.cell (ms := [t, x]) (o := .xd [("at", .int (i : Nat))]) s4.in_ nd4)
      refine kb i (hbad z) B1 _ d ?_ upd_same
      exact Stp.with nt s5

    dsimp only []
    refine q_when (et_or (a := decide (en.1 ∈ (es.take i).map (·.1))) (et_test ?_) fun c1 => et_or (a := en.2.isEmpty) ?_ fun c2 => et_or (a := en.2.any fun q => decide (q.num < 0)) (et_B ?_) fun c3 => et_test (b := !decide (sumR en.2 = 1)) ?_) (fun cb H4 x4 => ?_) (fun cb H4 x4 => ?_)
    · intro H3 x3 Q3 q3
      refine ⟨_, rfl, _, rfl, x, _, _, _, _, rfl, x3 _ _ hx2, T.c_Plan, T.a_Plan_table, rfl, ?_⟩
      refine ⟨t, b, en.1, kvs, rfl, rfl, .inl (x3 _ _ ht2), htab.ks.mono ((s2.in_).trans x3), hkb.mono ((s2.in_).trans x3), ?_⟩
      rw [htab.get en.1]
      exact q3 H3 (Ex.refl _)
    · intro H3 x3 Q3 q3
      refine ⟨_, rfl, !en.2.isEmpty, .inl ⟨ls, ex_l x3 hl2, ?_⟩, ?_⟩
      · exact (congrArg (!·) (emp_len (Paired.length hrr))).symm
      · show Q3 (!(!en.2.isEmpty)) H3
        rw [Bool.not_not]
        exact q3 H3 (Ex.refl _)
    · intro H3 x3 Q3 q3
      refine ⟨_, rfl, l, rfl, ⟨ls, ex_l x3 hl2⟩, fun D nD => lc_it (n := ls.length) (walk_list (xs := ls)) (fun j H' => H' = upd H3 D (.lst ((en.2.take j).map fun q => V.bl (decide (q.num < 0))))) rfl (fun j H' _ z => by rw [z]; exact ex_l (x3.trans (Ex.new nD)) hl2) ?_ ?_⟩
      · rintro j y H5 H6 hj rfl ⟨rfl, hy⟩
        obtain ⟨q, hq1, hq2⟩ := paired_get hrr hy
        have hq3 := hq2.mono ((s2.in_).trans (x3.trans (Ex.new nD (o := .lst ((en.2.take j).map fun q => V.bl (decide (q.num < 0)))))))
        obtain ⟨ra, rdx, rfl, hra⟩ := hq3
        have hj2 : j < en.2.length := by rw [← Paired.length hrr]; exact hj
        refine ⟨rfl, yes_if ?_⟩
        refine ⟨_, rfl, ra, _, _, _, _, rfl, hra, T.c_Ratio, T.a_Ratio_num, rf_num _ _, _, _, rfl, rfl, _, upd_same, ?_, ?_⟩
        · rw [List.length_map, List.length_take]
          have := Nat.le_mul_of_pos_right en.2.length (show 0 < j0 + 1 from Nat.succ_pos _)
          have : (100000 : Nat) < sizeLine := by decide
          omega
        · rw [upd_twice, List.take_add_one, hq1, List.map_append]
          rfl
      · rintro H5 rfl
        rw [Paired.length hrr, List.take_length]
        refine ⟨D, en.2.map fun q => decide (q.num < 0), rfl, SqL.of (by rw [List.map_map]; exact upd_same), ?_⟩
        rw [List.any_map]
        exact q3 _ (Ex.new nD)
    · intro H3 x3 Q3 q3
      refine ⟨_, rfl, l, ls, en.2, j0, rfl, ex_l x3 hl2, rats_mono hrr ((s2.in_).trans x3), hzq, hzl, hj, fun v1 H5 x5 r1 => ?_⟩
      refine mk_ratio (n := 1) (d := 1) (Q := fun y H2 => rOwnNe (ga K "Ratio") (spEqR K) E v1 y H2 Q3) (E := E) (by decide) (by decide) fun v2 H6 x6 r2 => ?_
      obtain ⟨c1', dz1, rfl, hc1⟩ := r1.mono x6
      obtain ⟨c2', dz2, rfl, hc2⟩ := id r2
      refine ⟨c1', dz1, _, c2', dz2, _, rfl, rfl, hc1, hc2, _, _, _, _, rfl, ⟨c1', dz1, rfl, hc1⟩, r2, fun H7 x7 => ⟨_, rfl, ?_⟩⟩
      rw [show mkRat 1 (1 : Int).toNat = 1 from by decide +kernel]
      exact q3 H7 ((x5.trans x6).trans x7)
    · have hno : okE ((es.take i).map (·.1)) en = false := by
        unfold okE
        rw [all_any]
        revert cb
        generalize decide (en.1 ∈ (es.take i).map (·.1)) = b1
        generalize en.2.isEmpty = b2
        generalize (en.2.any fun q => decide (q.num < 0)) = b3
        generalize decide (sumR en.2 = 1) = b4
        revert b1 b2 b3 b4
        decide
      exact ⟨_, rfl, _, rfl, fun d nd4 => raise hno H4 d x4 nd4⟩
    · have hyes : okE ((es.take i).map (·.1)) en = true := by
        unfold okE
        rw [all_any]
        revert cb
        generalize decide (en.1 ∈ (es.take i).map (·.1)) = b1
        generalize en.2.isEmpty = b2
        generalize (en.2.any fun q => decide (q.num < 0)) = b3
        generalize decide (sumR en.2 = 1) = b4
        revert b1 b2 b3 b4
        decide
      have hnew : nGet kvs en.1 = none := by
        have z := htab.get en.1
        have y : decide (en.1 ∈ (es.take i).map (·.1)) = false := by
          unfold okE at hyes
          revert hyes
          cases decide (en.1 ∈ (es.take i).map (·.1)) with
          | false => exact fun _ => rfl
          | true => exact fun h => nomatch h
        rw [y] at z
        cases hz : nGet kvs en.1 with
        | none => rfl
        | some v => rw [hz] at z; cases z
      have s4 := s2.trans (Stp.ofEx (ms := [t, x]) s2.in_ x4)
      refine ⟨_, rfl, l, ls, rfl, .inl ⟨ex_l x4 hl2, fun u nu => ?_⟩⟩
      have s5 := s4.trans (Stp.new (ms := [t, x]) (o := .tup ls) s4.in_ nu)
      have xu : Ex H4 (upd H4 u (.tup ls)) := Ex.new nu
      have ht5 := xu _ _ (x4 _ _ ht2)
      have hx5 := xu _ _ (x4 _ _ hx2)
      have hu5 : (upd B1 u (HO.tup ls)) u = some (.tup ls) := upd_same
      refine ⟨_, rfl, x, _, _, _, _, rfl, hx5, T.c_Plan, T.a_Plan_table, rfl, ?_⟩
      refine ⟨_, rfl, t, b, en.1, kvs, rfl, rfl, ht5, htab.ks.mono (s2.in_.trans (x4.trans xu)), hkb.mono (s2.in_.trans (x4.trans xu)), ?_, ?_⟩
      · have h1 := htab.len
        rw [List.length_take] at h1
        have : (100000 : Nat) < sizeLine := by decide
        omega
      · have s6 := s5.trans (Stp.put (ms := [t, x]) (o := NDo P w t (nPut kvs en.1 b (.ref u))) s5.in_ (s5.off hbt upd_same) (.head _))
        refine ⟨_, _, _, _, _, _, _, s6, upd_same, (upd_ne (Ne.symm htx)).trans hx5, ?_, hgood hyes, rfl⟩
        rw [nPut_new hnew, List.take_add_one, hen]
        have bu : B1 u = none := ex_none s4.in_ nu
        refine tab_add (htab.mono (Ex.new bu)) rfl (hkb.mono (Ex.new bu)) ⟨u, ls, rfl, st_of hu5, rats_mono hrr (Ex.new bu)⟩
  · rintro σ H2 ⟨B2, kvs, u2, u3, u4, u5, u6, s2, ht2, hx2, htab, hpb, rfl⟩
    have hvl : vs.length = es.length := Paired.length hp
    rw [hvl, List.take_length] at htab
    rw [hvl, List.drop_length] at hpb
    have s3 := Stp.close e nt s2 ht2
    have hb2 : B2 t = none := s2.off hbt upd_same
    refine kg hpb (upd B2 t (NDo P w t kvs)) H2 t kvs s3 hx2 upd_same (htab.mono (Ex.new hb2))
end
end LL
namespace LL
open PySem PySem.Spec PyProof.Rows L2 He Evl ND
section
variable {w : World} {K : PySem.W.Frag} {mg : Str → Option Value} {base : Heap}
/-- all([sign in Z for sign in x]) -/
theorem all_chars {s0 : Option V} {H : Hp} {Q : VK} {x Z : Str} {tz : TE} (hz : ∀ σ H (Q : VK), Q (.str Z) H → tz σ H Q) (hl : x.length ≤ 1000) (k : ∀ H2, Ex H H2 → Q (.bl (x.cps.toList.all fun c => decide (c ∈ Z.cps.toList))) H2) :
    tCB (rAll K) (tCons (tLc (iStr (tVar 0)) (gName 1) tYes (tOp (fun x y H Q => ∃ (c : Nat) (z : Str), x = .str ⟨#[c]⟩ ∧ y = .str z ∧ Q (.bl (decide (c ∈ z.cps.toList))) H) (tVar 1) tz) [1]) tNil) [some (.str x), s0] H Q := by
  refine ⟨_, rfl, x, rfl, fun D nD => lc_it (n := x.cps.size) walk_str (fun i H' => upd H D (.lst (((x.cps.toList.take i).map fun c => decide (c ∈ Z.cps.toList)).map V.bl)) = H') rfl (fun _ _ _ _ => trivial) ?_ ?_⟩
  · rintro i y H1 H2 hi rfl ⟨rfl, c, hc, rfl⟩
    have hm : x.cps.toList[i]? = some c := by rw [← hc, Array.getElem?_toList]
    refine ⟨rfl, yes_if ?_⟩
    refine ⟨_, rfl, hz _ _ _ ⟨c, Z, rfl, rfl, _, upd_same, ?_, ?_⟩⟩
    · rw [List.length_map, List.length_map, List.length_take]
      have : (1000 : Nat) < sizeLine := by decide
      have e : x.cps.size = x.length := rfl
      omega
    · rw [upd_twice, List.take_add_one, hm, List.map_append, List.map_append]
      rfl
  · rintro H2 rfl
    rw [show x.cps.size = x.cps.toList.length from by simp, List.take_length]
    refine ⟨D, x.cps.toList.map fun c => decide (c ∈ Z.cps.toList), rfl, SqL.of upd_same, ?_⟩
    rw [List.all_map]
    exact k _ (Ex.new nD)
theorem slen (x : Str) {n : Nat} (h : x.length ≤ n) (hn : n ≤ 100000 := by decide) : x.length ≤ sizeLine := by
  have : (100000 : Nat) ≤ sizeLine := by decide
  omega
/-- the number that a word writes, or None -/
def spDig : Sp := fun us H Q _ => ∃ x : Str, us = [.str x] ∧ x.length ≤ 1000 ∧ (∀ n H2, Num x n → Ex H H2 → Q (.int (n : Nat)) H2) ∧ ((∀ n, ¬ Num x n) → ∀ H2, Ex H H2 → Q .non H2)
theorem fn_digits_of (T : Txt K mg) : Fn P w K mg base 1 (ga K "digits_of") (spDig) := by
  refine fn_def T.d_digits_of sc_digits_of (fun _ _ _ _ _ _ us hl => match us, hl with | [_], _ => rfl) (fun vs H Q E h => ?_) (fun cdv A outer s H vs Q E hr h => ?_)
  · obtain ⟨x, rfl, _⟩ := h
    rfl
  obtain ⟨x, rfl, hl, kg, kb⟩ := h
  have nd := sc_digits_of.nd
  refine ⟨_, pss_cons (ps_if (PW.pt (pw_or (pt_not (pt_chain op_le op_le (pe_int) (pe_callB call_len_str (by rfl) T.f_len (by decide +kernel) (pa_cons (pv 0) pa_nil)) (pe_gi T.i_MOST_DIGITS))) (pw_or1 (pt_not (pt_val (pe_callB (cr_all rfl) (by rfl) T.f_all (by decide +kernel) (pa_cons (pe_lc (own := [("char", 1)]) (g := gName 1) (tt := tYes) rfl nd (pi_str (pv 0)) (blkOk_by (N := n_digits_of) (sc := defScope s_digits_of) (by decide +kernel)) (fun _ _ _ _ _ => pg_name (i := 1) nd rfl (by first | exact Or.inl rfl | exact Or.inr rfl)) (fun _ _ _ _ _ => pts_nil) (fun _ _ _ _ _ => pe_cmpR op_in_sign (pv 1) (pe_str) rfl)) pa_nil))))))) (pss_one (ps_ret (pe_non))) (pss_nil))
      (pss_cons (ps_if (PW.pt (pw_and (pt_cmpR op_eq (pe_ix ix_str (pv 0) (pe_int) (fun _ _ => rfl)) (pe_str) (nomark _)) (pw_and1 (pt_cmpR op_ne (pv 0) (pe_str) (nomark _))))) (pss_one (ps_ret (pe_non))) (pss_nil))
      (pss_one (ps_ret (pe_callTy call_int_str (by rfl) T.f_int (by decide +kernel) (pa_cons (pv 0) pa_nil))))), ?_⟩
  have hs : x.length ≤ sizeLine := slen x hl
  have hxl : x.length = x.cps.toList.length := by simp [Str.length]
  refine q_when (b := !(decide (1 ≤ x.length) && decide (x.length ≤ 60)) || !(x.cps.toList.all fun c => decide (c ∈ DIG_.cps.toList))) (et_or (et_not (et_test ?_)) fun _ => et_not (et_B ?_)) (fun c H1 e1 => ?_) (fun c H1 e1 => ?_)
  · intro H1 e1 Q1 q1
    refine ⟨_, rfl, x, rfl, hs, _, _, rfl, rfl, _, rfl, ?_⟩
    rw [show decide ((1 : Int) ≤ (x.length : Nat)) = decide (1 ≤ x.length) from decide_eq_decide.mpr (by omega)]
    by_cases z : 1 ≤ x.length
    · rw [decide_eq_true z, if_pos rfl]
      refine ⟨_, _, rfl, rfl, ?_⟩
      rw [decide_eq_true z, Bool.true_and] at q1
      show Q1 (V.bl (decide (((x.length : Nat) : Int) ≤ 60))) H1
      rw [show decide (((x.length : Nat) : Int) ≤ 60) = decide (x.length ≤ 60) from decide_eq_decide.mpr (by omega)]
      exact q1 H1 (Ex.refl _)
    · rw [decide_eq_false z] at q1 ⊢
      exact q1 H1 (Ex.refl _)
  · exact fun H1 e1 Q1 q1 => all_chars (Z := DIG_) (fun _ _ _ h => h) hl q1
  · refine kb (fun n hn => ?_) H1 e1
    obtain ⟨l1, l2⟩ := hn.len
    have hd : (x.cps.toList.all fun c => decide (c ∈ DIG_.cps.toList)) = true := List.all_eq_true.mpr fun c hc => decide_eq_true ((dig_in c).mpr (hn.dig c hc))
    rw [decide_eq_true l1, decide_eq_true l2, hd] at c
    exact Bool.noConfusion c
  · have c1 : 1 ≤ x.length ∧ x.length ≤ 60 ∧ (x.cps.toList.all fun c => decide (c ∈ DIG_.cps.toList)) = true := by
      by_cases z1 : 1 ≤ x.length
      · by_cases z2 : x.length ≤ 60
        · rw [decide_eq_true z1, decide_eq_true z2] at c
          exact ⟨z1, z2, by simpa using c⟩
        · rw [decide_eq_true z1, decide_eq_false z2] at c
          exact Bool.noConfusion c
      · rw [decide_eq_false z1] at c
        exact Bool.noConfusion c
    obtain ⟨l1, l2, hd⟩ := c1
    have hdig : ∀ c ∈ x.cps.toList, 48 ≤ c ∧ c ≤ 57 := fun c hc => (dig_in c).mp (of_decide_eq_true (List.all_eq_true.mp hd c hc))
    obtain ⟨c0, hc0⟩ : ∃ c0, x.cps.toList[0]? = some c0 := ⟨_, List.getElem?_eq_getElem (by omega)⟩
    have e0 : decide ((V.str ⟨#[c0]⟩) = V.str ("0" : Str)) = decide (c0 = 48) := decide_eq_decide.mpr ⟨fun h => by
      have h2 : ([c0] : List Nat) = [48] := congrArg (fun x : Str => x.cps.toList) (V.str.inj h)
      exact (List.cons.inj h2).1, fun h => by rw [h]; rfl⟩
    have e1' : decide ((V.str x) = V.str ("0" : Str)) = decide (x = ("0" : Str)) := decide_eq_decide.mpr ⟨fun h => V.str.inj h, fun h => by rw [h]⟩
    refine q_when (b := decide (c0 = 48) && !decide (x = ("0" : Str))) (et_and (et_test (ev_is (ev_op (ev_op (ev_var rfl) ev_c (rv_ixS (by omega) (atI_nat (j := 0) hc0))) ev_c (rv_eq rfl)) (congrArg V.bl e0))) fun _ => et_test (ev_is (ev_op (ev_var rfl) ev_c (rv_ne rfl)) (congrArg (fun b => V.bl (!b)) e1'))) (fun c2 H2 e2 => ?_) (fun c2 H2 e2 => ?_)
    · refine kb (fun n hn => ?_) H2 (e1.trans e2)
      rcases hn.head with h | ⟨c, hc, hge⟩
      · rw [decide_eq_true h] at c2
        simp at c2
      · rw [hc] at hc0
        cases hc0
        rw [decide_eq_false (by omega)] at c2
        exact Bool.noConfusion c2
    · obtain ⟨n, hn⟩ := num_of l1 l2 hdig (by
        by_cases z : x = ("0" : Str)
        · exact .inl z
        · refine .inr fun y => ?_
          rw [y] at hc0
          cases hc0
          rw [decide_eq_false z] at c2
          exact Bool.noConfusion c2)
      exact ⟨_, rfl, x, _, rfl, hn.val, by omega, kg n H2 hn (e1.trans e2)⟩
end
end LL
namespace LL
open PySem PySem.Spec PyProof.Rows L2 He Evl ND
section
variable {w : World} {K : PySem.W.Frag} {mg : Str → Option Value} {base : Heap}
theorem ev_isNo {te : TE} {σ : L2.St} {H : Hp} {i : Int} (h : Ev te σ H (.int i)) : Ev (tOp (fun x y H Q => y = V.non ∧ Q (V.bl (decide (x = V.non))) H) te (tC V.non)) σ H (.bl false) :=
  ev_op h ev_c fun H1 e Q q => ⟨rfl, by rw [decide_eq_false (fun h => nomatch h)]; exact q H1 (Ex.refl _)⟩
theorem ev_isYes {te : TE} {σ : L2.St} {H : Hp} (h : Ev te σ H .non) : Ev (tOp (fun x y H Q => y = V.non ∧ Q (V.bl (decide (x = V.non))) H) te (tC V.non)) σ H (.bl true) :=
  ev_op h ev_c fun H1 e Q q => ⟨rfl, by rw [decide_eq_true rfl]; exact q H1 (Ex.refl _)⟩
/-- the fraction that a word writes, or None -/
def spRR (K : PySem.W.Frag) : Sp := fun us H Q _ => ∃ x : Str, us = [.str x] ∧ x.length ≤ 1000 ∧ (∀ q v H2, RatTxt x q → Ex H H2 → RatAt K H2 v q → Q v H2) ∧ ((∀ q, ¬ RatTxt x q) → ∀ H2, Ex H H2 → Q .non H2)
theorem fn_read_ratio (T : Txt K mg) : Fn P w K mg base 3 (ga K "read_ratio") (spRR K) := by
  refine fn_def T.d_read_ratio sc_read_ratio (fun _ _ _ _ _ _ us hl => match us, hl with | [_], _ => rfl) (fun vs H Q E h => ?_) (fun cdv A outer s H vs Q E hr h => ?_)
  · obtain ⟨x, rfl, _⟩ := h
    rfl
  obtain ⟨x, rfl, hl, kg, kb⟩ := h
  have nd := sc_read_ratio.nd
  refine ⟨_, pss_cons (ps_set (i := 1) nd rfl (by first | exact Or.inl rfl | exact Or.inr rfl) (pe_split (pv 0) (pe_str)))
      (pss_cons (ps_set (i := 2) nd rfl (by first | exact Or.inl rfl | exact Or.inr rfl) (pe_fn T.d_digits_of (fn_digits_of T) (hr.mono (by decide)) T.g_digits_of pc (pa_cons (pe_ix ix_list (pv 1) (pe_int) (fun _ _ => rfl)) pa_nil)))
      (pss_cons (ps_if (PW.pt (pw_or (pt_cmpR op_isN (pv 2) (pe_non) (nomark _)) (pw_or1 (pt_cmpR op_gt (pe_callB call_len_seq (by rfl) T.f_len PySem.boot_len (pa_cons (pv 1) pa_nil)) (pe_int) (nomark _))))) (pss_one (ps_ret (pe_non))) (pss_nil))
      (pss_cons (ps_if (pt_cmpR op_eq (pe_callB call_len_seq (by rfl) T.f_len PySem.boot_len (pa_cons (pv 1) pa_nil)) (pe_int) (nomark _)) (pss_one (ps_ret (StX.pe_makeR T.m_Ratio (fn_RI1 T) (hr.mono (by decide)) rfl T.g_Ratio pc (pa_cons (pv 2) pa_nil)))) (pss_nil))
      (pss_cons (ps_set (i := 3) nd rfl (by first | exact Or.inl rfl | exact Or.inr rfl) (pe_fn T.d_digits_of (fn_digits_of T) (hr.mono (by decide)) T.g_digits_of pc (pa_cons (pe_ix ix_list (pv 1) (pe_int) (fun _ _ => rfl)) pa_nil)))
      (pss_cons (ps_if (PW.pt (pw_or (pt_cmpR op_isN (pv 3) (pe_non) (nomark _)) (pw_or1 (pt_cmpR op_lt (pv 3) (pe_int) (nomark _))))) (pss_one (ps_ret (pe_non))) (pss_nil))
      (pss_cons (ps_set (i := 4) nd rfl (by first | exact Or.inl rfl | exact Or.inr rfl) (StX.pe_makeR T.m_Ratio (fn_RI2 T) (hr.mono (by decide)) rfl T.g_Ratio pc (pa_cons (pv 2) (pa_cons (pv 3) pa_nil))))
      (pss_one (ps_ret (pe_ifExp (pt_cmpR op_eq (pe_fld (pv 4) rfl) (pv 3) (nomark _)) (pv 4) (pe_non)))))))))), ?_⟩
  obtain ⟨pne, pj⟩ := split_back (x := x) (s := ("/" : Str)) (c := 47) rfl (by decide)
  have hlen : ∀ p ∈ Txt.split x "/", p.length ≤ 1000 := fun p hp => Nat.le_trans (join_mem_len hp) (by rw [pj]; exact hl)
  have hpart := fun (q : Rat) (h : RatTxt x q) => h.parts
  have hbig : (100000 : Nat) ≤ sizeLine := by decide
  refine ⟨_, rfl, ⟨x, rfl⟩, x, "/", rfl, rfl, by decide, by omega, fun a na => ?_⟩
  revert pne pj hlen hpart
  generalize Txt.split x "/" = ps
  intro pne pj hlen hpart
  cases ps with
  | nil => exact absurd rfl pne
  | cons p0 rest =>
  have e1 : Ex H (upd H a (.lst (List.map V.str (p0 :: rest)))) := Ex.new na
  have hs1 : SqL K (upd H a (.lst (List.map V.str (p0 :: rest)))) a (List.map V.str (p0 :: rest)) := SqL.of upd_same
  refine ⟨_, rfl, a, _, ((0 : Nat) : Int), .str p0, rfl, rfl, hs1, atI_nat (j := 0) rfl, p0, rfl, hlen p0 (.head _), fun n H2 hn e2 => ?_, fun hno H2 e2 => ?_⟩
  · dsimp only [gName]
    refine q_when (b := decide (2 < (rest.length + 1))) (et_is (et_or (a := false) (b := decide (2 < (rest.length + 1))) (et_test (ev_isNo (ev_var rfl))) fun _ => et_test ?_) (Bool.false_or _)) (fun c H3 e3 => ?_) (fun c H3 e3 => ?_)
    · refine ev_is (ev_op (ev_len (ev_var rfl) (ex_l e2 hs1)) ev_c rv_I0) (congrArg V.bl (decide_eq_decide.mpr ?_))
      rw [List.length_map, List.length_cons]
      omega
    · refine kb (fun q hq => ?_) H3 (e1.trans (e2.trans e3))
      have c := of_decide_eq_true c
      rcases hpart q hq with ⟨_, h, _⟩ | ⟨_, h, _⟩
      · have h1 : rest.length + 1 = 1 := congrArg List.length h
        omega
      · have h1 : rest.length + 1 = 2 := congrArg List.length h
        omega
    · refine q_when (b := decide (rest.length = 0)) (et_test (ev_is (ev_op (ev_len (ev_var rfl) (ex_l (e2.trans e3) hs1)) ev_c (rv_eq rfl)) (congrArg V.bl (decide_eq_decide.mpr ⟨fun h => ?_, fun h => ?_⟩)))) (fun c2 H4 e4 => ?_) (fun c2 H4 e4 => ?_)
      · have := V.int.inj h
        rw [List.length_map, List.length_cons] at this
        omega
      · rw [List.length_map, List.length_cons, h]; rfl
      · refine ⟨_, rfl, mk_ratio (K := K) (n := (n : Nat)) (d := 1) (Q := Q) (E := E) (by decide) (by decide) fun v H5 x5 r5 => ?_⟩
        have hr : rest = [] := List.length_eq_zero_iff.mp (of_decide_eq_true c2)
        subst hr
        rw [join1] at pj
        subst pj
        have : mkRat (n : Int) (1 : Int).toNat = (n : Rat) := by
          show mkRat (n : Int) 1 = _
          rw [Rat.mkRat_one]; rfl
        rw [this] at r5
        exact kg _ v H5 (ratTxt_one hn) (e1.trans (e2.trans (e3.trans (e4.trans x5)))) r5
      · obtain ⟨p1, rfl⟩ : ∃ p1, rest = [p1] := by
          have c := of_decide_eq_false c
          have c2 := of_decide_eq_false c2
          match rest, c, c2 with
          | [], _, c2 => exact absurd rfl c2
          | [p1], _, _ => exact ⟨p1, rfl⟩
          | _ :: _ :: _, c, _ => exact absurd (by simp) c
        refine ⟨_, rfl, a, _, ((1 : Nat) : Int), .str p1, rfl, rfl, ex_l (e2.trans (e3.trans e4)) hs1, atI_nat (j := 1) rfl, p1, rfl, hlen p1 (.tail _ (.head _)), fun d H5 hd e5 => ?_, fun hno H5 e5 => ?_⟩
        · dsimp only [gName]
          have e15 : Ex H H5 := e1.trans (e2.trans (e3.trans (e4.trans e5)))
          refine q_when (b := decide (d < 2)) (et_is (et_or (a := false) (b := decide (d < 2)) (et_test (ev_isNo (ev_var rfl))) fun _ => et_test (ev_is (ev_op (ev_var rfl) ev_c rv_I0) (congrArg V.bl (decide_eq_decide.mpr (by omega))))) (Bool.false_or _)) (fun c3 H6 e6 => ?_) (fun c3 H6 e6 => ?_)
          · refine kb (fun q hq => ?_) H6 (e15.trans e6)
            have c3 := of_decide_eq_true c3
            rcases hpart q hq with ⟨_, h, _⟩ | ⟨h2, h, hn', hd'⟩
            · cases h
            · cases h
              have := Num.inj hd hd'
              omega
          · have c3 := of_decide_eq_false c3
            have hd60 := hd.2
            have hd9 : ((d : Nat) : Int).natAbs < 2 ^ 9000 := Nat.lt_trans (show ((d : Nat) : Int).natAbs < 10 ^ 60 by rw [Int.natAbs_natCast]; exact hd.2) (by decide +kernel)
            refine ⟨_, rfl, _, rfl, mk_ratio (K := K) (n := (n : Nat)) (d := (d : Nat)) (Q := fun v H7 => gName 4 v _ H7 _) (E := E) (by omega) hd9 fun v H7 x7 r7 => ?_⟩
            obtain ⟨ra, rdx, rfl, hra⟩ := id r7
            rw [Int.toNat_natCast] at hra r7
            have e17 : Ex H H7 := e15.trans (e6.trans x7)
            rw [join2] at pj
            refine ⟨_, rfl, ra, _, _, _, _, rfl, hra, T.c_Ratio, T.a_Ratio_den, rf_den _ _, _, rfl, rfl, _, rfl, ite2 (fun c4 => ⟨_, rfl, ?_⟩) (fun c4 => ?_)⟩
            · have c4 := Int.ofNat.inj (V.int.inj (of_decide_eq_true c4))
              subst pj
              exact kg _ _ H7 (ratTxt_two hn hd (by omega) c4) e17 r7
            · refine kb (fun q hq => ?_) H7 e17
              have c4 := fun z => c4 (decide_eq_true z)
              rcases hpart q hq with ⟨_, h, _⟩ | ⟨h2, h, hn', hd'⟩
              · cases h
              · cases h
                have z1 := Num.inj hd hd'
                have z2 := Num.inj hn hn'
                apply c4
                have : mkRat (n : Int) d = q := by
                  rw [z1, z2, Int.toNat_of_nonneg hq.1, Rat.mkRat_self]
                rw [this, z1]
        · dsimp only [gName]
          have e15 : Ex H H5 := e1.trans (e2.trans (e3.trans (e4.trans e5)))
          refine q_when (b := true) (et_is (et_or (a := true) (b := true) (et_test (ev_isYes (ev_var rfl))) fun h => Bool.noConfusion h) (Bool.true_or _)) (fun c3 H6 e6 => ?_) (fun c3 => Bool.noConfusion c3)
          refine kb (fun q hq => ?_) H6 (e15.trans e6)
          rcases hpart q hq with ⟨_, h, _⟩ | ⟨h2, h, hn', hd'⟩
          · cases h
          · cases h; exact hno _ hd'
  · dsimp only [gName]
    refine q_when (b := true) (et_is (et_or (a := true) (b := true) (et_test (ev_isYes (ev_var rfl))) fun h => Bool.noConfusion h) (Bool.true_or _)) (fun c H3 e3 => ?_) (fun c => Bool.noConfusion c)
    refine kb (fun q hq => ?_) H3 (e1.trans (e2.trans e3))
    rcases hpart q hq with ⟨_, h, hn⟩ | ⟨_, h, hn, _⟩
    · cases h; exact hno _ hn
    · cases h; exact hno _ hn
end
end LL
namespace LL
open PySem PySem.Spec PyProof.Rows L2 He Evl ND
section
variable {w : World} {K : PySem.W.Frag} {mg : Str → Option Value} {base : Heap}
/-- v is the Plan with entries es -/
def PlanAt (w : World) (K : PySem.W.Frag) (H : Hp) (v : V) (es : List Ent) : Prop := ∃ (x dx t : Addr) (kvs : List NE), v = .ref x ∧ H x = some (.ins (ga K "Plan") dx [("table", .ref t)]) ∧ H t = some (NDo P w t kvs) ∧ TabAt K H kvs es
theorem PlanAt.mono {H H' : Hp} {v : V} {es : List Ent} (h : PlanAt w K H v es) (e : Ex H H') : PlanAt w K H' v es := by
  obtain ⟨x, dx, t, kvs, h1, h2, h3, h4⟩ := h
  exact ⟨x, dx, t, kvs, h1, e _ _ h2, e _ _ h3, h4.mono e⟩
/-- an entry told: the pair is in H, what it holds in B -/
def EntIn (K : PySem.W.Frag) (B H : Hp) (v : V) (e : Ent) : Prop := ∃ (t b lt : Addr) (vs : List V), v = .ref t ∧ SqT K H t [.ref b, .ref lt] ∧ KeyAt K B b e.1 ∧ SqT K B lt vs ∧ RatsAt K B vs e.2
theorem EntIn.at_ {B H : Hp} {v : V} {e : Ent} (h : EntIn K B H v e) (x : Ex B H) : EntAt K H v e := by
  obtain ⟨t, b, lt, vs, h1, h2, h3, h4, h5⟩ := h
  exact ⟨t, b, lt, vs, h1, h2, h3.mono x, ex_t x h4, rats_mono h5 x⟩
theorem ents_of {B H : Hp} : ∀ {kvs : List NE} {es : List Ent} {Ts : List Addr}, TabAt K B kvs es → PrsAt H Ts kvs → Paired (EntIn K B H) (Ts.map V.ref) es
  | [], _, [], h, _ => by cases h; exact .nil
  | [], _, _ :: _, _, p => nomatch p
  | _ :: _, _, [], _, p => nomatch p
  | n :: ns, _, T :: Ts, h, p => by
    cases h with
    | cons h1 h2 =>
      cases p with
      | cons p1 p2 =>
        obtain ⟨g1, g2, b, vs, g3, g4, g5⟩ := h1
        refine .cons ⟨T, n.2.1, b, vs, rfl, st_of (by rw [p1, g3]), ?_, g4, g5⟩ (ents_of h2 p2)
        rw [← g1]; exact g2
def spEnts (w : World) (K : PySem.W.Frag) : Sp := fun us H Q _ => ∃ (B : Hp) (v : V) (es : List Ent), us = [v] ∧ Ex B H ∧ PlanAt w K B v es ∧ ∀ l vs H2, H l = none → Ex H H2 → H2 l = some (.lst vs) → Paired (EntIn K B H2) vs es → Q (.ref l) H2
theorem fn_Plan_entries (T : Txt K mg) : Fn P w K mg base 1 (ma K (ga K "Plan") "entries") (spEnts w K) := by
  refine fn_def T.d_Plan_entries sc_Plan_entries (fun _ _ _ _ _ _ us hl => match us, hl with | [_], _ => rfl) (fun vs H Q E h => ?_) (fun cdv A outer s H vs Q E hr h => ?_)
  · obtain ⟨_, x, _, rfl, _⟩ := h
    rfl
  obtain ⟨B, v, es, rfl, eb, ⟨x, dx, t, kvs, rfl, hx, ht, htab⟩, k⟩ := h
  have hx := eb _ _ hx
  have ht := eb _ _ ht
  have nd := sc_Plan_entries.nd
  refine ⟨_, pss_one (ps_ret (pe_callTy (ND.call_list_items rfl) (by rfl) T.f_list (by decide +kernel) (pa_cons (ND.pe_items (pe_fld (pv 0) rfl)) pa_nil))), ?_⟩
  refine ⟨_, rfl, x, _, _, _, _, rfl, hx, T.c_Plan, T.a_Plan_table, rfl, t, kvs, rfl, .inl ht, fun p np => ?_⟩
  have e1 : Ex H (upd H p (DX.itemsO p t)) := Ex.new np
  refine ⟨p, t, kvs, rfl, upd_same, .inl (e1 _ _ ht), fun H2 l Ts x2 nl hl hfresh hnd hprs => ?_⟩
  have e2 := e1.trans x2
  exact k l _ H2 (fresh_back e1 nl) e2 hl (ents_of htab hprs)
def spEqP (w : World) (K : PySem.W.Frag) : Sp := fun us H Q _ => ∃ (x y : V) (es ds : List Ent), us = [x, y] ∧ PlanAt w K H x es ∧ PlanAt w K H y ds ∧ ∀ H2, Ex H H2 → Q (.bl (decide (es = ds))) H2
theorem fn_Plan_eq (T : Txt K mg) : Fn P w K mg base 5 (ma K (ga K "Plan") "__eq__") (spEqP w K) := by
  refine fn_def T.d_Plan_eq sc_Plan_eq (fun _ _ _ _ _ _ us hl => match us, hl with | [_, _], _ => rfl) (fun vs H Q E h => ?_) (fun cdv A outer s H vs Q E hr h => ?_)
  · obtain ⟨_, _, _, _, rfl, _⟩ := h
    rfl
  obtain ⟨x, y, es, ds, rfl, hx, hy, k⟩ := h
  have nd := sc_Plan_eq.nd
  refine ⟨_, pss_one (ps_ret (pe_and (pe_callB call_isi (by rfl) T.f_isinstance (by decide +kernel) (pa_cons (pv 1) (pa_cons (pe_gr T.g_Plan) pa_nil))) (pe_one (pe_cmpR (op_eqEnts T (hr.mono (by decide))) (pe_methR0 (pv 0) T.c_Plan T.t_Plan_entries (fn_Plan_entries T) (hr.mono (by decide)) pc) (pe_methR0 (pv 1) T.c_Plan T.t_Plan_entries (fn_Plan_entries T) (hr.mono (by decide)) pc) (nomark _))))), ?_⟩
  obtain ⟨a, dx, ta, ka, rfl, ha, hta, hka⟩ := id hx
  obtain ⟨b, dy, tb, kb, rfl, hb, htb, hkb⟩ := id hy
  refine ⟨_, rfl, _, _, _, _, _, rfl, ClsV.own _, TyX.base (TyOf.ins hb T.c_Plan T.oc_Plan T.og T.ot T.om_Plan), T.ki_Plan_Plan, true, rfl, iteT ?_⟩
  refine ⟨_, rfl, a, dx, _, rfl, ha, rfl, H, _, es, rfl, Ex.refl _, hx, fun l1 vs1 H1 n1 x1 hl1 he1 => ?_⟩
  refine ⟨_, rfl, b, dy, _, rfl, x1 _ _ hb, rfl, H1, _, ds, rfl, Ex.refl _, hy.mono x1, fun l2 vs2 H2 n2 x2 hl2 he2 => ?_⟩
  exact ⟨l1, l2, vs1, vs2, es, ds, rfl, rfl, x2 _ _ hl1, hl2, paired_mono he1 fun _ _ z => (z.at_ x1).mono x2, paired_mono he2 fun _ _ z => z.at_ x2, fun H3 x3 => k H3 (x1.trans (x2.trans x3))⟩
end
end LL
namespace LL
open PySem PySem.Spec PyProof.Rows L2 He Evl ND
section
variable {X : Cx} {e : Expr} {p pos : Pos} {ta : TA}
/-- str of a number or of a text -/
theorem call_strIS : CallR X (.type "str") (fun xs H Q => (∃ i : Int, xs = [.int i] ∧ i.natAbs.log2 < 1920 ∧ Q (.str (istr i)) H) ∨ ∃ a, xs = [.str a] ∧ Q (.str a) H) := by
  intro pins s σ H xs us Q I r h
  rcases h with h | h
  · exact call_str_int pins s σ H xs us Q I r h
  · exact SkE.call_str_str pins s σ H xs us Q I r h
end
section
variable {w : World} {K : PySem.W.Frag} {mg : Str → Option Value} {base : Heap}
/-- all cells but c keep what they hold -/
def Btx (c : Addr) (H H' : Hp) : Prop := ∀ a o, a ≠ c → H a = some o → H' a = some o
theorem Btx.refl (c : Addr) (H : Hp) : Btx c H H := fun _ _ _ h => h
theorem Btx.trans {c : Addr} {H H1 H2 : Hp} (h : Btx c H H1) (g : Btx c H1 H2) : Btx c H H2 := fun a o n z => g a o n (h a o n z)
theorem Btx.ofEx {c : Addr} {H H' : Hp} (h : Ex H H') : Btx c H H' := fun a o _ z => h a o z
theorem Btx.put {c : Addr} {H : Hp} {o : HO} : Btx c H (upd H c o) := fun a _ n z => (upd_ne n).trans z
theorem Btx.ex {c : Addr} {B H H' : Hp} (e : Ex B H) (h : Btx c H H') (n : B c = none) : Ex B H' := fun a o z => h a o (fun y => by rw [y, n] at z; cases z) (e a o z)
theorem Btx.sqt {c : Addr} {H H' : Hp} {a : Addr} {xs ys : List V} (h : Btx c H H') (hc : H c = some (.lst ys)) (g : SqT K H a xs) : SqT K H' a xs := by
  rcases g with (g | ⟨u, g⟩) | g
  · exact .inl (.inl (h a _ (fun y => by rw [y, hc] at g; cases g) g))
  · exact .inl (.inr ⟨u, h a _ (fun y => by rw [y, hc] at g; cases g) g⟩)
  · exact .inr g
theorem log_60 {n : Nat} (h : n < 10 ^ 60) : ((n : Nat) : Int).natAbs.log2 < 1920 := by
  rw [Int.natAbs_natCast]
  by_cases z : n = 0
  · rw [z]; decide
  · rw [Nat.log2_lt z]
    exact Nat.lt_trans (Nat.lt_trans h pow_60) (Nat.pow_lt_pow_right (by decide) (by decide))
/-- [str(part) for part in event] -/
theorem ev_part {σ : L2.St} {H : Hp} {i : Nat} {e : Evt} {x : V} {y : V} {j : Nat} (he : EvOk e) (hx : (evV e)[j]? = some x) (hy : ((evW e).map V.str)[j]? = some y) (hs : σ[i]? = some (some x)) :
    Ev (tCB (fun xs H Q => (∃ i : Int, xs = [.int i] ∧ i.natAbs.log2 < 1920 ∧ Q (.str (istr i)) H) ∨ ∃ a, xs = [.str a] ∧ Q (.str a) H) (tCons (tVar i) tNil)) σ H y := by
  intro H1 e1 Q q
  refine ⟨x, hs, ?_⟩
  cases j with
  | zero =>
    cases hx
    cases hy
    exact .inr ⟨_, rfl, q H1 (Ex.refl _)⟩
  | succ j =>
    have hx : (e.2.map fun n => V.int (n : Nat))[j]? = some x := hx
    have hy : ((e.2.map fun n => istr (n : Nat)).map V.str)[j]? = some y := hy
    rw [List.map_map, List.getElem?_map] at hy
    rw [List.getElem?_map] at hx
    cases hn : e.2[j]? with
    | none => rw [hn] at hx; cases hx
    | some n =>
      rw [hn] at hx hy
      cases hx
      cases hy
      exact .inl ⟨_, rfl, log_60 (he.2 n (List.mem_of_getElem? hn)), q H1 (Ex.refl _)⟩
/-- the lines that a plan is written with, in a new list -/
def spLines (w : World) (K : PySem.W.Frag) : Sp := fun us H Q _ => ∃ (B : Hp) (v : V) (ps : List PE), us = [v] ∧ Ex B H ∧ PlanAt w K B v (ps.map entE) ∧ (∀ p ∈ ps, POk p) ∧ ps.length ≤ 1000 ∧ RetL (ps.map fun p => V.str (lineT p)) H Q
theorem fn_plan_lines (T : Txt K mg) : Fn P w K mg base 4 (ga K "plan_lines") (spLines w K) := by
  refine fn_def T.d_plan_lines sc_plan_lines (fun _ _ _ _ _ _ us hl => match us, hl with | [_], _ => rfl) (fun vs H Q E h => ?_) (fun cdv A outer s H vs Q E hr h => ?_)
  · obtain ⟨_, _, _, rfl, _⟩ := h
    rfl
  obtain ⟨B, v, ps, rfl, eb, hpl, hok, hlen, k⟩ := h
  have nd := sc_plan_lines.nd
  refine ⟨_, pss_cons (ps_set (i := 1) nd rfl (by first | exact Or.inl rfl | exact Or.inr rfl) (pe_lst pa_nil))
      (pss_cons (ps_for (passes_of rfl) rfl (pi_list (pe_methR0 (pv 0) T.c_Plan T.t_Plan_entries (fn_Plan_entries T) (hr.mono (by decide)) pc)) (pg_tup rfl (pgs_cons (pg_name (i := 2) nd rfl (by first | exact Or.inl rfl | exact Or.inr rfl)) (pgs_cons (pg_name (i := 3) nd rfl (by first | exact Or.inl rfl | exact Or.inr rfl)) pgs_nil))) (pss_cons (ps_set (i := 4) nd rfl (by first | exact Or.inl rfl | exact Or.inr rfl) (pe_lst (pa_cons (pe_str) pa_nil)))
      (pss_cons (ps_for (passes_of rfl) rfl (pi_tup (pv 2)) (pg_name (i := 5) nd rfl (by first | exact Or.inl rfl | exact Or.inr rfl)) (pss_one (ps_expr (pe_bm PySem.F.plainAttrs_list PySem.F.slot_list_extend PySem.F.type_list_extend mt_extend (pv 4) (pa_cons (pe_lc (own := [("part", 6)]) (g := gName 6) (tt := tYes) rfl nd (pi_tup (pv 5)) (blkOk_by (N := n_plan_lines) (sc := defScope s_plan_lines) (by decide +kernel)) (fun _ _ _ _ _ => pg_name (i := 6) nd rfl (by first | exact Or.inl rfl | exact Or.inr rfl)) (fun _ _ _ _ _ => pts_nil) (fun _ _ _ _ _ => pe_callTy call_strIS (by rfl) T.f_str (by decide +kernel) (pa_cons (pv 6) pa_nil))) pa_nil)))))
      (pss_one (ps_expr (pe_bm PySem.F.plainAttrs_list PySem.F.slot_list_append PySem.F.type_list_append mt_append (pv 1) (pa_cons (pe_join (pe_str) (pe_op op_cat (pe_op op_cat (pv 4) (pe_lst (pa_cons (pe_str) pa_nil))) (pe_lc (own := [("lot", 7)]) (g := gName 7) (tt := tYes) rfl nd (pi_tup (pv 3)) (blkOk_by (N := n_plan_lines) (sc := defScope s_plan_lines) (by decide +kernel)) (fun _ _ _ _ _ => pg_name (i := 7) nd rfl (by first | exact Or.inl rfl | exact Or.inr rfl)) (fun _ _ _ _ _ => pts_nil) (fun _ _ _ _ _ => pe_callTy (call_strOwn T.t_Ratio_str.at_ T.t_Ratio_str.fn (fn_Ratio_str T) (hr.mono (by decide)) pcN) (by rfl) T.f_str (by decide +kernel) (pa_cons (pv 7) pa_nil))))) pa_nil)))))))
      (pss_one (ps_ret (pv 1)))), ?_⟩
  refine ⟨(by show 0 ≤ sizeLine; omega), fun L nL => ?_⟩
  have e1 : Ex H (upd H L (.lst [])) := Ex.new nL
  obtain ⟨px, pdx, pt, pkv, rfl, hpx, hpt, hptab⟩ := id hpl
  refine ⟨_, rfl, px, pdx, _, rfl, e1 _ _ (eb _ _ hpx), rfl, B, _, _, rfl, eb.trans e1, hpl, fun l vs H2 nl e2 hl hent => ?_⟩
  have hlL : l ≠ L := fun z => by rw [z, upd_same] at nl; cases nl
  have hL2 : H2 L = some (.lst []) := e2 _ _ upd_same
  have hvl : vs.length = ps.length := by rw [Paired.length hent, List.length_map]
  have bL : B L = none := ex_none eb nL
  have eB2 : Ex B H2 := (eb.trans e1).trans e2
  refine ⟨l, rfl, ⟨vs, sq_of hl⟩, for_it (walk_list (xs := vs)) (fun i σ H' => ∃ (u2 u3 u4 u5 u6 u7 : Option V), Btx L H2 H' ∧ H' L = some (.lst ((ps.take i).map fun p => V.str (lineT p))) ∧ σ = [some (.ref px), some (.ref L), u2, u3, u4, u5, u6, u7]) ?_ ?_ ?_ ?_⟩
  · exact ⟨_, _, _, _, _, _, Btx.refl _ _, hL2, rfl⟩
  · rintro i σ H' _ ⟨_, _, _, _, _, _, b, _⟩
    exact sq_of (b l _ hlL hl)
  · rintro i y σ H3' H3 hi ⟨_, _, _, _, _, _, b3, hL3, rfl⟩ ⟨rfl, hy⟩
    obtain ⟨en, hen, T0, vb, lt, rs, rfl, hT0, hkb, hlt, hrats⟩ := paired_get hent hy
    rw [List.getElem?_map] at hen
    obtain ⟨p, hp, rfl⟩ := Option.map_eq_some_iff.mp hen
    obtain ⟨hp1, hp2, hp3, hp4⟩ := hok p (List.mem_of_getElem? hp)
    have hpok := hok p (List.mem_of_getElem? hp)
    obtain ⟨xs, hxs, hevs⟩ := key_view hkb
    have eB3 : Ex B H3 := b3.ex eB2 bL
    refine ⟨T0, _, rfl, b3.sqt hL2 hT0, rfl, _, _, rfl, _, _, rfl, rfl, ?_⟩
    refine ⟨(by show 1 ≤ sizeLine; decide), fun W nW => ?_⟩
    have eW : Ex H3 (upd H3 W (.lst [.str "at"])) := Ex.new nW
    have bW : B W = none := ex_none eB3 nW
    have hWL : W ≠ L := fun z => by rw [z, hL3] at nW; cases nW
    refine ⟨_, rfl, vb, rfl, ⟨xs, ex_t (eB3.trans eW) hxs⟩, for_it (walk_tup (xs := xs)) (fun j σ H' => ∃ (u5 u6 u7 : Option V), Btx W (upd H3 W (.lst [.str "at"])) H' ∧ H' W = some (.lst ((("at" : Str) :: viewW (p.1.take j)).map V.str)) ∧ σ = [some (.ref px), some (.ref L), some (.ref vb), some (.ref lt), some (.ref W), u5, u6, u7]) ?_ ?_ ?_ ?_⟩
    · exact ⟨_, _, _, Btx.refl _ _, upd_same, rfl⟩
    · rintro j σ H' _ ⟨_, _, _, b, _⟩
      exact ex_t (b.ex (eB3.trans eW) bW) hxs
    · rintro j z σ H4' H4 hj ⟨_, _, _, b4, hW4, rfl⟩ ⟨rfl, hz⟩
      obtain ⟨ev, hev, ea, rfl, hea⟩ := paired_get hevs hz
      have eB4 : Ex B H4 := b4.ex (eB3.trans eW) bW
      have hevok := hp2 ev (List.mem_of_getElem? hev)
      have hel : ((evW ev).map V.str).length = (evV ev).length := by simp [evW, evV]
      have hsmall : (evV ev).length ≤ 3 := by
        have := hevok.len
        simp [evV]
        omega
      refine ⟨_, rfl, .inl ⟨rfl, _, sq_of hW4⟩, ?_⟩
      refine lcT (ys := (evW ev).map V.str) (ev_var rfl) (ex_t eB4 hea) hel (by omega) (fun _ => rfl) (fun j2 x2 y2 hx2 hy2 => ev_part hevok hx2 hy2 rfl) H4 (Ex.refl _) _ fun P2 H5 n5 e5 hP2 => ?_
      have hlen4 : ((("at" : Str) :: viewW (p.1.take j)).map V.str).length ≤ 1000 := by
        have h1 := viewW_len (v := p.1.take j) fun x hx => hp2 x (List.mem_of_mem_take hx)
        rw [List.length_take] at h1
        rw [List.length_map, List.length_cons]
        omega
      have hbig : (100000 : Nat) ≤ sizeLine := by decide
      refine ⟨W, P2, _, _, rfl, rfl, e5 _ _ hW4, hP2, by omega, ?_⟩
      refine ⟨_, _, _, (b4.trans (Btx.ofEx e5)).trans Btx.put, ?_, rfl⟩
      rw [upd_same, List.take_add_one, hev]
      show some (HO.lst _) = _
      unfold viewW
      rw [List.flatMap_append, ← List.map_append, List.cons_append]
      simp
    · rintro σ H4 ⟨_, _, _, b4, hW4, rfl⟩
      have hxl : xs.length = p.1.length := Paired.length hevs
      rw [hxl, List.take_length] at hW4
      have eB4 : Ex B H4 := b4.ex (eB3.trans eW) bW
      have hL4 : H4 L = some (.lst ((ps.take i).map fun p => V.str (lineT p))) := b4 _ _ (Ne.symm hWL) ((upd_ne (Ne.symm hWL)).trans hL3)
      refine ⟨_, rfl, .inl ⟨rfl, _, sq_of hL4⟩, ?_⟩
      have hbig : (100000 : Nat) ≤ sizeLine := by decide
      have hwl := lineW_len hpok
      have hlw : (viewW p.1).length + 2 + p.2.length = (lineW p).length := by
        unfold lineW
        rw [List.length_append, List.length_append, List.length_cons, List.length_map, List.length_singleton]
      have hi2 : i < ps.length := by omega
      have hrl : rs.length = p.2.length := Paired.length hrats
      refine ⟨⟨_, rfl⟩, _, rfl, by show 1 ≤ sizeLine; omega, fun D nD => ?_⟩
      have x5 : Ex H4 (upd H4 D (.lst [.str "do"])) := Ex.new nD
      refine ⟨W, D, _, _, rfl, rfl, x5 _ _ hW4, upd_same, by rw [List.length_map, List.length_cons]; show _ + 1 ≤ _; omega, fun C nC => ?_⟩
      have x6 : Ex (upd H4 D (.lst [.str "do"])) (upd (upd H4 D (.lst [.str "do"])) C (.lst (((("at" : Str) :: viewW p.1).map V.str) ++ [.str "do"]))) := Ex.new nC
      have eB6 : Ex B (upd (upd H4 D (.lst [.str "do"])) C (.lst (((("at" : Str) :: viewW p.1).map V.str) ++ [.str "do"]))) := eB4.trans (x5.trans x6)
      refine lcT (ys := p.2.map fun q => V.str (ratStr q)) (ev_var rfl) (ex_t eB6 hlt) (by rw [List.length_map, hrl]) (by omega) (fun _ => rfl) (fun j2 x2 y2 hx2 hy2 => ?_) _ (Ex.refl _) _ fun P2 H7 n7 e7 hP2 => ?_
      · intro H8 x8 Q8 q8
        obtain ⟨q, hq, hr2⟩ := paired_get hrats hx2
        have hq : p.2[j2]? = some q := hq
        rw [List.getElem?_map, hq] at hy2
        cases hy2
        have hr8 := hr2.mono (eB6.trans x8)
        obtain ⟨ra, rdx, rfl, hra⟩ := id hr8
        exact ⟨_, rfl, ra, rdx, _, rfl, hra, _, q, rfl, hr8, ((hp4 q (List.mem_of_getElem? hq)).sz).mono (by decide), _, rfl, q8 H8 (Ex.refl _)⟩
      · refine ⟨C, P2, _, _, rfl, rfl, e7 _ _ upd_same, hP2, by rw [List.length_append, List.length_map, List.length_map, List.length_cons, List.length_singleton]; omega, fun F nF => ?_⟩
        have x8 := Ex.new (o := .lst ((((("at" : Str) :: viewW p.1).map V.str) ++ [.str "do"]) ++ p.2.map fun q => V.str (ratStr q))) nF
        refine ⟨" ", F, lineW p, rfl, rfl, .inl (sq_of ?_), lineW_join hpok, ?_⟩
        · rw [upd_same]
          unfold lineW
          simp [Function.comp_def]
        · have hL8 := x8 _ _ (e7 _ _ (x6 _ _ (x5 _ _ hL4)))
          refine ⟨L, _, _, rfl, rfl, hL8, by rw [List.length_map, List.length_take]; omega, ?_⟩
          have b43 : Btx L H3 H4 := fun a o na za => by
            refine b4 a o (fun y => ?_) ((upd_ne (fun y => ?_)).trans za)
            · rw [y, nW] at za; cases za
            · rw [y, nW] at za; cases za
          refine ⟨_, _, _, _, _, _, (b3.trans b43).trans ((Btx.ofEx (x5.trans (x6.trans (e7.trans x8)))).trans Btx.put), ?_, rfl⟩
          rw [upd_same, List.take_add_one, hp, List.map_append]
          rfl
  · rintro σ H3 ⟨_, _, _, _, _, _, b3, hL3, rfl⟩
    rw [hvl, List.take_length] at hL3
    refine ⟨_, rfl, k L H3 nL ?_ hL3⟩
    exact b3.ex (e1.trans e2) nL
end
end LL
namespace LL
open PySem PySem.Spec PyProof.Rows L2 He Evl ND
/-! ### the words of a view are read in one way -/
theorem nums_inj : ∀ {ns ms : List Nat}, (∀ n ∈ ns, n < 10 ^ 60) → (∀ n ∈ ms, n < 10 ^ 60) → (ns.map fun n => istr (n : Nat)) = ms.map (fun n => istr (n : Nat)) → ns = ms
  | [], [], _, _, _ => rfl
  | [], _ :: _, _, _, h => by cases h
  | _ :: _, [], _, _, h => by cases h
  | n :: ns, m :: ms, hn, hm, h => by
    rw [List.map_cons, List.map_cons] at h
    obtain ⟨h1, h2⟩ := List.cons.inj h
    have a : Num (istr (n : Nat)) n := ⟨rfl, hn n (.head _)⟩
    have b : Num (istr (n : Nat)) m := ⟨h1, hm m (.head _)⟩
    rw [Num.inj a b, nums_inj (fun x hx => hn x (.tail _ hx)) (fun x hx => hm x (.tail _ hx)) h2]
theorem evW_pre {e f : Evt} {r t : List Str} (he : EvOk e) (hf : EvOk f) (h : evW e ++ r = evW f ++ t) : e = f ∧ r = t := by
  unfold evW at h
  rw [List.cons_append, List.cons_append] at h
  obtain ⟨h1, h2⟩ := List.cons.inj h
  have hl : e.2.length = f.2.length := by
    have a := he.1
    rw [h1, hf.1] at a
    exact (Option.some.inj a).symm
  obtain ⟨h3, h4⟩ := List.append_inj h2 (by rw [List.length_map, List.length_map, hl])
  exact ⟨Prod.ext h1 (nums_inj he.2 hf.2 h3), h4⟩
theorem viewW_pre : ∀ {v u : List Evt} {r : List Str}, (∀ e ∈ v, EvOk e) → (∀ e ∈ u, EvOk e) → viewW u = viewW v ++ r → ∃ z, u = v ++ z ∧ viewW z = r
  | [], u, r, _, _, h => ⟨u, rfl, h⟩
  | e :: v, [], r, _, _, h => by cases h
  | e :: v, f :: u, r, hv, hu, h => by
    have h : evW f ++ viewW u = evW e ++ viewW v ++ r := h
    rw [List.append_assoc] at h
    obtain ⟨h1, h2⟩ := evW_pre (hu f (.head _)) (hv e (.head _)) h
    obtain ⟨z, h3, h4⟩ := viewW_pre (fun x hx => hv x (.tail _ hx)) (fun x hx => hu x (.tail _ hx)) h2
    exact ⟨z, by rw [h1, h3]; rfl, h4⟩
theorem viewW_next {z : List Evt} {x : Str} {r : List Str} (hz : ∀ e ∈ z, EvOk e) (h : viewW z = x :: r) : ∃ ns t, EvOk (x, ns) ∧ r = (ns.map fun n => istr (n : Nat)) ++ t := by
  cases z with
  | nil => cases h
  | cons e z =>
    have h : e.1 :: ((e.2.map fun n => istr (n : Nat)) ++ viewW z) = x :: r := h
    obtain ⟨h1, h2⟩ := List.cons.inj h
    exact ⟨e.2, viewW z, by rw [← h1]; exact hz e (.head _), h2.symm⟩
theorem nums_of : ∀ {ws : List Str}, (∀ x ∈ ws, ∃ n, Num x n) → ∃ ns : List Nat, ws = (ns.map fun n => istr (n : Nat)) ∧ ∀ n ∈ ns, n < 10 ^ 60
  | [], _ => ⟨[], rfl, fun _ h => nomatch h⟩
  | x :: ws, h => by
    obtain ⟨n, hn⟩ := h x (.head _)
    obtain ⟨ns, h1, h2⟩ := nums_of fun y hy => h y (.tail _ hy)
    refine ⟨n :: ns, by rw [h1, hn.1]; rfl, fun m hm => ?_⟩
    rcases List.mem_cons.mp hm with rfl | hm
    · exact hn.2
    · exact h2 m hm
open Classical in
/-- what digits_of gives -/
noncomputable def digV (x : Str) : V := if h : ∃ n, Num x n then .int (h.choose : Nat) else .non
theorem digV_num {x : Str} {n : Nat} (h : Num x n) : digV x = .int (n : Nat) := by
  unfold digV
  have h' : ∃ n, Num x n := ⟨n, h⟩
  rw [dif_pos h', Num.inj h'.choose_spec h]
theorem digV_non {x : Str} (h : ∀ n, ¬ Num x n) : digV x = .non := by
  unfold digV
  rw [dif_neg fun ⟨n, hn⟩ => h n hn]
theorem digV_flat (x : Str) : flatV (digV x) = true := by
  by_cases h : ∃ n, Num x n
  · obtain ⟨n, hn⟩ := h
    rw [digV_num hn]; rfl
  · rw [digV_non fun n hn => h ⟨n, hn⟩]; rfl
theorem digV_nums {ns : List Nat} (h : ∀ n ∈ ns, n < 10 ^ 60) : (ns.map fun n => istr (n : Nat)).map digV = ns.map fun n => V.int (n : Nat) := by
  rw [List.map_map]
  exact List.map_congr_left fun n hn => digV_num ⟨rfl, h n hn⟩
/-- is None among what digits_of gives -/
theorem digV_in {ws : List Str} : inV .non (ws.map digV) = true ↔ ∃ x ∈ ws, ∀ n, ¬ Num x n := by
  unfold inV
  rw [List.any_map, List.any_eq_true]
  constructor
  · rintro ⟨x, hx, h⟩
    refine ⟨x, hx, fun n hn => ?_⟩
    rw [Function.comp_apply, digV_num hn] at h
    cases h
  · rintro ⟨x, hx, h⟩
    refine ⟨x, hx, ?_⟩
    rw [Function.comp_apply, digV_non h]
    rfl
theorem cut_nat {xs : List V} {a b : Nat} (h : a ≤ b) : cutV xs (some (a : Int)) (some (b : Int)) = (xs.drop a).take (b - a) := by
  unfold cutV
  rw [HT.sIx_nat, HT.sIx_nat]
  by_cases z : a ≤ xs.length
  · rw [show min a xs.length = a by omega]
    by_cases y : b ≤ xs.length
    · rw [show min b xs.length = b by omega]
    · rw [List.take_of_length_le (by rw [List.length_drop]; omega), List.take_of_length_le (by rw [List.length_drop]; omega)]
  · rw [List.drop_of_length_le (by omega), List.drop_of_length_le (by omega), List.take_nil, List.take_nil]
theorem cut_from {xs : List V} {a : Nat} : cutV xs (some (a : Int)) none = xs.drop a := by
  unfold cutV
  rw [HT.sIx_nat, HT.sIx_none]
  by_cases z : a ≤ xs.length
  · rw [show min a xs.length = a by omega, List.take_of_length_le (by rw [List.length_drop]; omega)]
  · rw [List.drop_of_length_le (by omega), List.drop_of_length_le (by omega), List.take_nil]
theorem viewW_inj {v u : List Evt} (hv : ∀ e ∈ v, EvOk e) (hu : ∀ e ∈ u, EvOk e) (h : viewW u = viewW v) : u = v := by
  obtain ⟨z, h1, h2⟩ := viewW_pre (r := []) hv hu (by rw [h, List.append_nil])
  cases z with
  | nil => rw [h1, List.append_nil]
  | cons e z => cases h2
theorem join_len (s : Str) : ∀ W : List Str, (Txt.join s W).length ≤ (W.map (·.length)).sum + W.length * s.length := by
  intro W
  rw [TL.join_eq, TL.len_tl, TL.tl_join]
  have : ∀ L : List Str, (TL.joinL (TL.tl s) (L.map TL.tl)).length ≤ (L.map (·.length)).sum + L.length * s.length := by
    intro L
    induction L with
    | nil => exact Nat.zero_le _
    | cons p L ih =>
      cases L with
      | nil =>
        show (TL.tl p).length ≤ _
        rw [← TL.len_tl, List.map_cons, List.sum_cons]
        omega
      | cons q L =>
        show (TL.tl p ++ (TL.tl s ++ TL.joinL (TL.tl s) ((q :: L).map TL.tl))).length ≤ _
        have e1 : (List.map (fun x : Str => x.length) (p :: q :: L)).sum = p.length + (List.map (fun x : Str => x.length) (q :: L)).sum := List.sum_cons
        have e2 : (p :: q :: L).length * s.length = (q :: L).length * s.length + s.length := by rw [List.length_cons (a := p), Nat.add_mul, Nat.one_mul]
        rw [List.length_append, List.length_append, ← TL.len_tl, ← TL.len_tl, e1, e2]
        omega
  exact this W
theorem lineT_len {p : PE} (h : POk p) : (lineT p).length ≤ 49044 := by
  have h1 := join_len " " (lineW p)
  have h2 := sum_le (k := 121) fun x hx => (lineW_short h x hx).2.1
  have h3 := lineW_len h
  have h4 := Nat.mul_le_mul_right 121 h3
  have e : (" " : Str).length = 1 := rfl
  rw [e] at h1
  unfold lineT
  omega
/-- a word of a view is not do -/
theorem view_do {v : List Evt} (h : ∀ e ∈ v, EvOk e) : ("do" : Str) ∉ viewW v := by
  intro z
  obtain ⟨e, he, z⟩ := List.mem_flatMap.mp z
  rcases List.mem_cons.mp z with z | z
  · rcases evCount_kind (h e he).1 with ⟨y, _⟩ | ⟨y, _⟩ | ⟨y, _⟩ <;> rw [y] at z <;> exact absurd z (by decide)
  · obtain ⟨n, hn, z⟩ := List.mem_map.mp z
    have hd := (show Num ("do" : Str) n from ⟨z.symm, (h e he).2 n hn⟩).dig 100 (by decide)
    omega
theorem eqV_str (x y : Str) : eqV (.str x) (.str y) = decide (x = y) := by
  show (x == y) = _
  by_cases h : x = y
  · rw [h]; simp
  · rw [decide_eq_false h]; simpa using h
theorem ratTxt_inj {x : Str} {p q : Rat} (hp : RatTxt x p) (hq : RatTxt x q) : p = q := by
  have p0 := hp.1
  have q0 := hq.1
  rcases hp.parts with ⟨a1, a2, a3⟩ | ⟨a1, a2, a3, a4⟩ <;> rcases hq.parts with ⟨b1, b2, b3⟩ | ⟨b1, b2, b3, b4⟩
  · have e := (List.cons.inj (a2.symm.trans b2)).1
    rw [e] at a3
    have := Num.inj a3 b3
    exact Rat.ext (by omega) (by omega)
  · have e := congrArg List.length (a2.symm.trans b2)
    cases e
  · have e := congrArg List.length (a2.symm.trans b2)
    cases e
  · obtain ⟨e, e2⟩ := List.cons.inj (a2.symm.trans b2)
    have e3 := (List.cons.inj e2).1
    rw [e] at a3
    rw [e3] at a4
    have h1 := Num.inj a3 b3
    have h2 := Num.inj a4 b4
    exact Rat.ext (by omega) h2
end LL
/-! None in a list of Ratios and Nones -/
namespace QB
open PySem PySem.SeqAt
open AutoSeq1 (wpAny_loadPart')
open MeetsSeq MeetsSeq2 MeetsSeq3 SeqRoads2 GQ
section
variable {prog : Program} {w : World} {A : Around} {R : Result → Shared → Prop}
def anyE (e : Nat → Bool) (i N : Nat) : Bool := (List.range (N - i)).any fun j => e (i + j)
theorem anyE_end {e : Nat → Bool} {N : Nat} : anyE e N N = false := by unfold anyE; rw [Nat.sub_self]; rfl
theorem anyE_step {e : Nat → Bool} {i N : Nat} (h : i < N) : anyE e i N = (e i || anyE e (i + 1) N) := by
  unfold anyE
  obtain ⟨k, rfl⟩ : ∃ k, N = i + 1 + k := ⟨N - (i + 1), by omega⟩
  rw [show i + 1 + k - i = k + 1 by omega, show i + 1 + k - (i + 1) = k by omega, List.range_succ_eq_map, List.any_cons, List.any_map]
  congr 1
  congr 1
  funext j
  show e (i + (j + 1)) = e (i + 1 + j)
  congr 1
  omega
/-- at each turn the list is read anew -/
def ConB (prog : Program) (w : World) (A : Around) (E : Value → Shared → Prop) (l : Addr) (x : Value) (N : Nat) (e : Nat → Bool) (I : Nat → Shared → Prop) : Prop :=
  ∀ i s, I i s → ∃ (items : Array Value) (n : Nat), s.heap.get? l = some { cls := .type "list", data := .seq items n } ∧ items.size = N ∧
    ∀ (h1 : i < items.size), wpAny (model prog w) A.in1 (eqBool items[i] x) (fun r s' => r = e i ∧ I (i + 1) s') E s
theorem con_loopB (l : Addr) (x : Value) (N : Nat) (e : Nat → Bool) (I : Nat → Shared → Prop) (hl : ConB prog w A (fun e s' => R (.error e) s') l x N e I)
    (B : Bool) (fin : ∀ i s, I i s → R (.ok (.ret (.bool B))) s) (k : Nat) :
    ∀ i : Nat, N - i = k → i ≤ N → anyE e i N = B → ∀ s, I i s →
      wpAny (model prog w) A.in1 (Builtin.«list.__contains__.loop» ⟨[.ref l, x, rawInt i], []⟩) (FinOf prog w A R) (fun e s' => R (.error e) s') s := by
  induction k with
  | zero =>
    intro i hk hi hB s h
    obtain ⟨items, n, hl1, hs1, _⟩ := hl _ _ h
    have hi' : i = N := by omega
    have hB' : B = false := by rw [← hB, hi', anyE_end]
    have hR : R (.ok (.ret (.bool false))) s := by rw [← hB']; exact fin i s h
    obtain ⟨hp, g, d, tk, os⟩ := s
    wp_walk using wpAny_loadPart' hl1
    have hi1 : items[((i : Nat) : Int).toNat]? = none := by simp; omega
    rw [hi1]
    wp_walk
    exact hR
  | succ k ih =>
    intro i hk hi hB s h
    obtain ⟨items, n, hl1, hs1, turn⟩ := hl _ _ h
    have hlt : i < items.size := by omega
    have ht := turn hlt
    rw [anyE_step (by omega)] at hB
    obtain ⟨hp, g, d, tk, os⟩ := s
    wp_walk using wpAny_loadPart' hl1
    have hi1 : items[((i : Nat) : Int).toNat]? = some items[i] := by simp [hlt]
    have hc : ((i : Int) + 1) = ((i + 1 : Nat) : Int) := by omega
    rw [hi1]
    refine wpAny_bind (wpAny_mono ht (fun r s2 h2 => ?_) fun _ _ x => x)
    obtain ⟨hr, h2⟩ := h2
    subst hr
    cases he : e i with
    | true =>
      have hB' : B = true := by rw [he] at hB; simpa using hB.symm
      have hR : R (.ok (.ret (.bool true))) s2 := by rw [← hB']; exact fin _ s2 h2
      obtain ⟨hp2, g2, d2, tk2, os2⟩ := s2
      wp_walk
      exact hR
    | false =>
      have hrec := ih (i + 1) (by omega) (by omega) (by rw [he] at hB; simpa using hB) s2 h2
      obtain ⟨hp2, g2, d2, tk2, os2⟩ := s2
      wp_walk
      rw [hc]
      exact ⟨plainId_quiet plain_contains_loop _, codeAny_builtin entry_contains_loop (by
        rw [Around.under_plainId plain_contains_loop _]
        exact hrec)⟩
theorem containsB (l : Addr) (x : Value) (N : Nat) (e : Nat → Bool) (I : Nat → Shared → Prop) (hl : ConB prog w A (fun e s' => R (.error e) s') l x N e I)
    (fin : ∀ i s, I i s → R (.ok (.ret (.bool (anyE e 0 N)))) s) {s : Shared} (h : I 0 s) :
    wpAny (model prog w) A.in1 (Builtin.«list.__contains__» ⟨[.ref l, x], []⟩) (FinOf prog w A R) (fun e s' => R (.error e) s') s := by
  obtain ⟨items, n, hl1, hs1, _⟩ := hl _ _ h
  have hrec := con_loopB (A := A) (R := R) l x N e I hl _ fin _ 0 rfl (Nat.zero_le _) rfl s h
  obtain ⟨hp, g, d, tk, os⟩ := s
  wp_walk using wpAny_loadPart' hl1
  exact ⟨plainId_quiet plain_contains_loop _, codeAny_builtin entry_contains_loop (by
    rw [Around.under_plainId plain_contains_loop _]
    exact hrec)⟩
end
section
variable {prog : Program} {w : World} {A : Around} {E : Value → Shared → Prop} {s : Shared}
theorem in_listB {l : Addr} {x : Value} {N : Nat} {e : Nat → Bool} {Q : Value → Shared → Prop} (I : Nat → Shared → Prop) (hl : ConB prog w A E l x N e I)
    (fin : ∀ i s, I i s → Q (.bool (anyE e 0 N)) s) (h : I 0 s) : wpAny (model prog w) A (compareOp .In x (.ref l)) Q E s := by
  obtain ⟨items, n, hl1, hs1, _⟩ := hl _ _ h
  show wpAny _ A (do return .bool (← contains (.ref l) x)) Q E s
  refine wpAny_bind (wpAny_contains_slot ⟨_, hl1, rfl⟩ F.slot_list_contains (call_here F.slot_list_contains ⟨_, hl1, rfl⟩ F.entry_list_contains (F.args_list_contains_2 _ _) ?_))
  refine containsB (R := wants (fun v s' => wpAny (model prog w) A (truthy v) (fun b s2 => wpAny (model prog w) A (pure (.bool b)) Q E s2) E s') E) l x N e I hl (fun i s' q => ?_) h
  exact wpAny_truthy_bool (wpAny_pure (fin i s' q))
end
end QB
namespace LL
open PySem PySem.Spec PyProof.Rows L2 He Evl ND
section
variable {P : Program} {w : World} {K : PySem.W.Frag} {mg : Str → Option Value} {base : Heap}
theorem ki_none {C D : Addr} (h : PySem.W.kitOne K (.ref D) (.ref C) = some false) : PySem.W.kitOne K (.type "NoneType") (.ref C) = some false := by
  unfold PySem.W.kitOne at h ⊢
  split at h
  · cases h
  · rw [if_neg (by intro z; cases (eq_of_beq z))]
    unfold PySem.W.kitCls at h ⊢
    simp only at h ⊢
    split at h
    · rename_i z
      rw [if_pos z]
      exact HN.sub_none
    · cases h
def spEqRN (K : PySem.W.Frag) : Sp := fun vs H Q _ => ∃ (x : V) (p : Rat), vs = [x, .non] ∧ RatAt K H x p ∧ Q (.bl false) H
theorem fn_Ratio_eqN (T : Txt K mg) : Fn P w K mg base 1 (ma K (cR K) "__eq__") (spEqRN K) := by
  refine fn_def T.d_Ratio_eq sc_Ratio_eq (fun _ _ _ _ _ _ us hl => match us, hl with | [_, _], _ => rfl) (fun vs H Q E h => ?_) (fun cdv A outer s H vs Q E hr h => ?_)
  · obtain ⟨x, p, rfl, _⟩ := h
    rfl
  · obtain ⟨x, p, rfl, hx, k⟩ := h
    refine ⟨_, pss_one (ps_ret (pe_and (pe_callB call_isi (by rfl) T.f_isinstance (by decide +kernel) (pa_cons (pv 1) (pa_cons (pe_gr T.g_Ratio) pa_nil)))
      (pe_one (pe_cmpR (op_eqD hr.units) (pe_tup (pa_cons (pe_fld (pv 0) rfl) (pa_cons (pe_fld (pv 0) rfl) pa_nil))) (pe_tup (pa_cons (pe_fld (pv 1) rfl) (pa_cons (pe_fld (pv 1) rfl) pa_nil))) (nomark _))))), ?_⟩
    exact ⟨_, rfl, _, _, _, _, _, rfl, ClsV.own _, TyX.base TyOf.non, ki_none T.ki_Plan_Ratio, false, rfl, k⟩
end
section
variable {X : Cx} {A : Around} {pins : List (Addr × Obj)} {s : Shared} {σ : L2.St} {H : Hp}
def OrAt (K : PySem.W.Frag) (H : Hp) (v : V) (o : Option Rat) : Prop := match o with | none => v = .non | some q => RatAt K H v q
theorem OrAt.mono {K : PySem.W.Frag} {H H' : Hp} {v : V} {o : Option Rat} (h : OrAt K H v o) (e : Ex H H') : OrAt K H' v o := by
  cases o with
  | none => exact h
  | some q => exact RatAt.mono e h
theorem eqb_ratN (T : Txt X.K X.mg) {x : V} {u : Value} {o : Option Rat} (sb : Sub X 1 A) (I : Inv X pins σ H s) (rx : RelV x u) (hx : OrAt X.K H x o) :
    wpAny (model X.prog X.w) A (eqBool u .none) (Aft X pins σ H o.isNone) X.xe s := by
  cases o with
  | none =>
    cases (show x = .non from hx)
    cases (show u = Value.none from rx)
    exact SeqAt.EqAt.same (A := A) (s := s) .none X.prog X.w X.xe _ ⟨rfl, H, I, Ext.rfl'⟩
  | some p =>
    have hx : RatAt X.K H x p := hx
    obtain ⟨a, dx, rfl, ha⟩ := id hx
    cases (show u = Value.ref a from rx)
    unfold eqBool
    refine wpAny_holding ?_
    refine wpAny_ite_split (fun hab => absurd (eq_of_beq hab) nofun) (fun _ => ?_)
    obtain ⟨mA, J, _⟩ := ins_get I.hok ha
    obtain ⟨od, J, _⟩ := J.look
    obtain ⟨m, hF⟩ := I.fr
    refine wpAny_bind (PySem.W.cmp_K (op := .Eq) (tb := .type "NoneType") sb.room.units0 hF I.ok.mod.kin J (fun A Q E s _ q => wpAny_typeOf (show s.TypeIs .none "NoneType" from rfl) q) (by unfold PySem.W.notFirst; rw [HN.sub_none]; simp) T.t_Ratio_eq.at_ T.t_Ratio_eq.fn ?_)
    have e0 : Env0 X.prog X.w X.K X.mg X.base A X.stack s H := by
      have e := I.env0
      exact ⟨by rw [sb.fr]; exact e.frames, e.mod, e.bs, e.bsz, e.funs, e.frf, e.hok, e.bare⟩
    refine wpAny_call (codeAny_mono (fn_Ratio_eqN T A X.stack s H [.ref a, .none] [.ref a, .non] (fun v H' => v = .bl false ∧ H' = H) (fun _ _ _ => False) sb.room e0 (.cons rfl (.cons rfl .nil)) ⟨_, p, rfl, hx, rfl, rfl⟩) fun r s' hq => ?_)
    cases r with
    | error e => exact (pcN (P := X.prog) (w := X.w)) pins σ H s e s' I hq
    | ok fl =>
      cases fl with
      | ret w =>
        obtain ⟨z, H', I', rz, ez, ex⟩ := I.after hq
        subst ez ex
        cases rz
        exact wpAny_truthy_bool ⟨rfl, _, I', Ext.rfl'⟩
      | next => exact False.elim hq
      | brk => exact False.elim hq
      | cont => exact False.elim hq
def rNoneR (K : PySem.W.Frag) : R2 := fun x y H Q => ∃ (p : Addr) (xs : List V) (os : List (Option Rat)), x = .non ∧ y = .ref p ∧ H p = some (.lst xs) ∧ Paired (OrAt K H) xs os ∧ ∀ H', Ex H H' → Q (.bl (os.any Option.isNone)) H'
theorem any_at {α : Type} {f : α → Bool} : ∀ {os : List α}, QB.anyE (fun i => (os[i]?.map f).getD false) 0 os.length = os.any f := by
  intro os
  unfold QB.anyE
  rw [Nat.sub_zero]
  induction os with
  | nil => rfl
  | cons o os ih =>
    rw [List.length_cons, List.range_succ_eq_map, List.any_cons, List.any_cons, List.any_map]
    congr 1
theorem op_noneInR (T : Txt X.K X.mg) (hr : Room 2 X.A) : OpR X (compareOp .In) (rNoneR X.K) := by
  intro pins s σ H x y v u Q I rx ry hq
  obtain ⟨p, xs, os, rfl, rfl, hp, ho, q⟩ := hq
  cases (show v = Value.none from rx)
  cases (show u = Value.ref p from ry)
  have sb : Sub X 2 X.A := ⟨hr, rfl⟩
  refine QB.in_listB (N := os.length) (e := fun i => (os[i]?.map Option.isNone).getD false) (fun _ s' => LoopI X pins σ H s') (fun i s' qq => ?_) (fun i s' qq => ?_) ⟨H, I, Ext.rfl'⟩
  · obtain ⟨H1, I1, x1⟩ := id qq
    obtain ⟨z, its, k, r, e1⟩ := I1.hok p _ (x1 _ _ hp)
    have l1 : its.toArray.size = os.length := by rw [List.size_toArray, ← r.length]; exact Paired.length ho
    refine ⟨its.toArray, k, e1, l1, fun h1 => ?_⟩
    have v1 : i < xs.length := by rw [Paired.length ho]; omega
    obtain ⟨u, hu, ru⟩ := r.get (List.getElem?_eq_getElem v1)
    rw [at_arr h1] at hu
    obtain ⟨o, ho1, ho2⟩ := paired_get ho (List.getElem?_eq_getElem v1)
    rw [Option.some.inj hu]
    refine wpAny_mono (eqb_ratN T sb.in1 I1 ru (ho2.mono x1)) (fun rr s2 q2 => ?_) fun _ _ x => x
    obtain ⟨er, H2, I2, x2⟩ := q2
    refine ⟨?_, H2, I2, x1.trans x2⟩
    rw [er]
    show _ = (os[i]?.map Option.isNone).getD false
    rw [ho1]
    rfl
  · obtain ⟨H1, I1, x1⟩ := qq
    rw [any_at]
    exact ⟨.bl _, H1, I1, rfl, q H1 x1⟩
end
end LL
namespace LL
open PySem PySem.Spec PyProof.Rows L2 He Evl ND
section
variable {X : Cx} {e : Expr} {p pos : Pos} {ta : TA}
theorem pmk_BadPaper (T : Txt X.K X.mg) (hr : Room 2 X.A) (ha : PA X [e] ta) (hP : X.prog = PR := by rfl) (hg : Gl X "BadPaper" := by rfl) (he : starEach [e] X.env = (false, eval e X.env) :: starEach [] X.env := by rfl) : PMk X (.Call (.Name "BadPaper" p) [e] [] pos) (tMkS (ga X.K "BadPaper") "at" ta) :=
  pmk_sup (by rw [hP]; exact T.s_BadPaper) T.f_super hr hg T.g_BadPaper ha (by decide) he
end
section
variable {w : World} {K : PySem.W.Frag} {mg : Str → Option Value} {base : Heap}
theorem Btx.ev {c : Addr} {H H' : Hp} {x : V} {e : Evt} {ys : List V} (h : Btx c H H') (hc : H c = some (.lst ys)) (g : EvAt K H x e) : EvAt K H' x e := by
  obtain ⟨a, h1, h2⟩ := g
  exact ⟨a, h1, h.sqt hc h2⟩
theorem sp_dig {x : Str} {H : Hp} (hl : x.length ≤ 1000) : SpV spDig [.str x] H (digV x) := fun H1 e Q q E => by
  refine ⟨x, rfl, hl, fun n H2 hn e2 => ?_, fun hn H2 e2 => ?_⟩
  · rw [← digV_num hn]; exact q H2 e2
  · rw [← digV_non hn]; exact q H2 e2
theorem events_get {x : Str} : ((([("shown", .int 1), ("asked", .int 2), ("did", .int 1)] : List (Str × He.Dv)).lookup x).map (He.Dv.v K)).getD .non = match evCount x with | some c => .int (c : Nat) | none => .non := by
  unfold evCount
  by_cases h1 : x = "shown"
  · subst h1; rfl
  by_cases h2 : x = "asked"
  · subst h2; rfl
  by_cases h3 : x = "did"
  · subst h3; rfl
  rw [if_neg h1, if_neg h2, if_neg h3]
  have e1 : (x == ("shown" : Str)) = false := by simpa using h1
  have e2 : (x == ("asked" : Str)) = false := by simpa using h2
  have e3 : (x == ("did" : Str)) = false := by simpa using h3
  simp only [List.lookup, e1, e2, e3]
  rfl
theorem paired_snoc {α β : Type} {F : α → β → Prop} {xs : List α} {ys : List β} (h : Paired F xs ys) {x : α} {y : β} (g : F x y) : Paired F (xs ++ [x]) (ys ++ [y]) := by
  induction h with
  | nil => exact .cons g .nil
  | cons p q ih => exact .cons p ih
theorem ea_star {σ : L2.St} {H : Hp} {te : TE} {t : TA} {p : Addr} {xs vs : List V} (h : Ev te σ H (.ref p)) (hx : SqL K H p xs) (hr : EvA t σ H vs) : EvA (StX.tStar K te t) σ H (xs ++ vs) := fun H1 e Q q =>
  h H1 e _ fun H2 e2 => ⟨p, xs, rfl, .inr (ex_l (e.trans e2) hx), hr H2 (e.trans e2) _ fun H3 e3 => q H3 (e2.trans e3)⟩
variable (W : TabW w K)
include W
def spView (K : PySem.W.Frag) : Sp := fun us H Q E => ∃ (a : Addr) (at_ : Int) (ws : List Str), us = [.ref a, .int at_] ∧ SqL K H a (ws.map V.str) ∧ ws.length ≤ 1000 ∧ (∀ x ∈ ws, x.length ≤ 1000) ∧
  (∀ v H2 b, (∀ e ∈ v, EvOk e) → viewW v = ws → Ex H H2 → H b = none → KeyAt K H2 b (viewK v) → Q (.ref b) H2) ∧
  ((∀ v, (∀ e ∈ v, EvOk e) → viewW v ≠ ws) → ∀ H2 d, Ex H H2 → H d = none → H2 d = some (.xd [("at", .int at_)]) → E (.ref (ga K "BadPaper")) (some d) H2)
theorem fn_read_view (T : Txt K mg) : Fn P w K mg base 3 (ga K "read_view") (spView K) := by
  refine fn_def T.d_read_view sc_read_view (fun _ _ _ _ _ _ us hl => match us, hl with | [_, _], _ => rfl) (fun vs H Q E h => ?_) (fun cdv A outer s H vs Q E hr h => ?_)
  · obtain ⟨_, _, _, rfl, _⟩ := h
    rfl
  obtain ⟨a, at_, ws, rfl, ha, hl, hwl, kg, kb⟩ := h
  have nd := sc_read_view.nd
  refine ⟨_, pss_cons (ps_set (i := 2) nd rfl (by first | exact Or.inl rfl | exact Or.inr rfl) (pe_lst pa_nil))
      (pss_cons (ps_set (i := 3) nd rfl (by first | exact Or.inl rfl | exact Or.inr rfl) (pe_int))
      (pss_cons (ps_while (passes_of rfl) (pt_cmpR op_lt (pv 3) (pe_callB call_len_seq (by rfl) T.f_len PySem.boot_len (pa_cons (pv 0) pa_nil)) (nomark _)) (pss_cons (ps_set (i := 4) nd rfl (by first | exact Or.inl rfl | exact Or.inr rfl) (pe_kget2 (pe_gr T.g_EVENTS) (pe_ix ix_list (pv 0) (pv 3) (fun _ _ => rfl)) (pe_non) ⟨rfl, rfl, rfl, rfl⟩))
      (pss_cons (ps_if (pt_cmpR op_isN (pv 4) (pe_non) (nomark _)) (pss_one (ps_raise rfl (takes_of rfl rfl rfl rfl) (pmk_BadPaper T (hr.mono (by decide)) (pa_cons (pv 1) pa_nil)))) (pss_nil))
      (pss_cons (ps_setLc (i := 6) (own := [("word", 5)]) (g := gName 5) (tt := tYes) rfl nd rfl rfl (sw_true rfl rfl rfl (by decide +kernel)) (pi_list (pe_slice sl_list (pv 0) (po_some (pe_op op_add (pv 3) (pe_int))) (po_some (pe_op op_add (pe_op op_add (pv 3) (pe_int)) (pv 4))))) (blkOk_by (N := n_read_view) (sc := defScope s_read_view) (by decide +kernel)) (fun _ _ _ _ _ => pg_name (i := 5) nd rfl (by first | exact Or.inl rfl | exact Or.inr rfl)) (fun _ _ _ _ _ => pts_nil) (fun _ _ _ _ _ => pe_fn T.d_digits_of (fn_digits_of T) (hr.mono (by decide)) T.g_digits_of pcN (pa_cons (pv 5) pa_nil)))
      (pss_cons (ps_if (PW.pt (pw_or (pt_cmpR op_ne (pe_callB call_len_seq (by rfl) T.f_len PySem.boot_len (pa_cons (pv 6) pa_nil)) (pv 4) (nomark _)) (pw_or1 (pt_cmpR op_in_seq (pe_non) (pv 6) rfl)))) (pss_one (ps_raise rfl (takes_of rfl rfl rfl rfl) (pmk_BadPaper T (hr.mono (by decide)) (pa_cons (pv 1) pa_nil)))) (pss_nil))
      (pss_cons (ps_expr (pe_bm PySem.F.plainAttrs_list PySem.F.slot_list_append PySem.F.type_list_append mt_append (pv 2) (pa_cons (pe_tup (pa_cons (pe_ix ix_list (pv 0) (pv 3) (fun _ _ => rfl)) (StX.pa_star (pv 6) pa_nil))) pa_nil)))
      (pss_one (ps_set (i := 3) nd rfl (by first | exact Or.inl rfl | exact Or.inr rfl) (pe_op op_add (pe_op op_add (pv 3) (pe_int)) (pv 4))))))))))
      (pss_one (ps_ret (pe_callTy call_tuple_of (by rfl) T.f_tuple (by decide +kernel) (pa_cons (pv 2) pa_nil)))))), ?_⟩
  have hbig : (100000 : Nat) ≤ sizeLine := by decide
  refine ⟨(by show 0 ≤ sizeLine; omega), fun L nL => ?_⟩
  have e1 : Ex H (upd H L (.lst [])) := Ex.new nL
  dsimp only [tSeq, tAsg, gName, tC]
  refine while_by (fun σ H' => ∃ (pl : Nat) (v : List Evt) (xs : List V) (u4 u5 u6 : Option V), σ = [some (.ref a), some (.int at_), some (.ref L), some (.int (pl : Nat)), u4, u5, u6] ∧ Ex H H' ∧ H' L = some (.lst xs) ∧ Paired (EvAt K H') xs v ∧ (∀ e ∈ v, EvOk e) ∧ pl ≤ ws.length ∧ ws = viewW v ++ ws.drop pl ∧ v.length ≤ pl)
    (fun σ _ => match σ with | [_, _, _, some (.int r), _, _, _] => ws.length - r.toNat | _ => 0) ⟨0, [], [], _, _, _, rfl, e1, upd_same, .nil, (fun _ h => nomatch h), Nat.zero_le _, rfl, Nat.zero_le _⟩ ?_ ?_
  · rintro σ H' ⟨pl, v, xs, u4, u5, u6, rfl, e2, hL, hp, hok, hpl, hw, hvl⟩
    refine et_test (b := decide (pl < ws.length)) (ev_is (ev_op (ev_var rfl) (ev_len (ev_var rfl) (ex_l e2 ha)) rv_I0) (congrArg V.bl (decide_eq_decide.mpr (by rw [List.length_map]; omega)))) H' (Ex.refl _) _ fun H1 x1 => ?_
    have e3 : Ex H H1 := e2.trans x1
    have ha1 := ex_l e3 ha
    have hL1 := x1 _ _ hL
    have hp1 : Paired (EvAt K H1) xs v := paired_mono hp fun _ _ z => z.mono x1
    by_cases c : pl < ws.length
    · rw [decide_eq_true c, if_pos rfl]
      obtain ⟨x, hx⟩ : ∃ x, ws[pl]? = some x := ⟨_, List.getElem?_eq_getElem c⟩
      have hdrop : ws.drop pl = x :: ws.drop (pl + 1) := by
        rw [List.drop_eq_getElem_cons c]
        congr 1
        exact Option.some.inj ((List.getElem?_eq_getElem c).symm.trans hx)
      have hxm : (ws.map V.str)[pl]? = some (.str x) := by rw [List.getElem?_map, hx]; rfl
      have bad : (∀ ns t, EvOk (x, ns) → ws.drop (pl + 1) ≠ (ns.map fun n => istr (n : Nat)) ++ t) → ∀ u, (∀ e ∈ u, EvOk e) → viewW u ≠ ws := fun z u hu hv => by
        rw [hw, hdrop] at hv
        obtain ⟨y, h1, h2⟩ := viewW_pre hok hu hv
        obtain ⟨ns, t, h3, h4⟩ := viewW_next (fun e he => hu e (by rw [h1]; simp [he])) h2
        exact z ns t h3 h4
      have htail : ∀ y ∈ ws.drop (pl + 1), y.length ≤ 1000 := fun y hy => hwl y (List.mem_of_mem_drop hy)
      obtain ⟨ksys, kget⟩ := W.k_EVENTS
      have hkg := kget x
      have raise : (∀ ns t, EvOk (x, ns) → ws.drop (pl + 1) ≠ (ns.map fun n => istr (n : Nat)) ++ t) → ∀ H4 d, Ex H1 H4 → H4 d = none → E (.ref (ga K "BadPaper")) (some d) (upd H4 d (.xd [("at", .int at_)])) := fun z H4 d x4 nd4 =>
        kb (bad z) _ d ((e3.trans x4).trans (Ex.new nd4)) (ex_none (e3.trans x4) nd4) upd_same
      refine ⟨_, rfl, ⟨_, _, hkg⟩, ksys, _, rfl, _, rfl, a, _, (pl : Nat), _, rfl, rfl, ha1, atI_nat hxm, x, _, rfl, hkg, ?_⟩
      rw [events_get]
      cases hc : evCount x with
      | none =>
        dsimp only []
        refine q_when (b := true) (et_test (ev_isYes (ev_var rfl))) (fun _ H4 x4 => ?_) (fun c => Bool.noConfusion c)
        refine ⟨_, rfl, _, rfl, fun d nd4 => raise (fun ns t h => ?_) H4 d x4 nd4⟩
        rw [h.1] at hc; cases hc
      | some n =>
        dsimp only []
        refine q_when (b := false) (et_test (ev_isNo (ev_var rfl))) (fun c => Bool.noConfusion c) (fun _ H4 x4 => ?_)
        have hcut : cutV (ws.map V.str) (some ((pl + 1 : Nat) : Int)) (some ((pl + 1 + n : Nat) : Int)) = ((ws.drop (pl + 1)).take n).map V.str := by
          rw [cut_nat (by omega), List.map_take, List.map_drop]
          congr 1
          omega
        have hrl : ((ws.drop (pl + 1)).take n).length ≤ 1000 := by rw [List.length_take, List.length_drop]; omega
        refine q_asgL (xs := ((ws.drop (pl + 1)).take n).map digV) (lcN (xs := cutV (ws.map V.str) (some ((pl + 1 : Nat) : Int)) (some ((pl + 1 + n : Nat) : Int)))
          (el_sl (ev_var rfl) (eo_some (ev_op (ev_var rfl) ev_c rv_I0)) (eo_some (ev_op (ev_op (ev_var rfl) ev_c rv_I0) (ev_var rfl) rv_I0)) (ex_l x4 ha1)) (by rw [hcut, List.length_map, List.length_map]) (by rw [hcut, List.length_map]; omega) (fun _ => rfl) (fun i y z hy hz => ?_)) (fun N H5 nN x5 hN => ?_)
        · rw [hcut, List.getElem?_map] at hy
          rw [List.getElem?_map] at hz
          cases hy1 : ((ws.drop (pl + 1)).take n)[i]? with
          | none => rw [hy1] at hy; cases hy
          | some q =>
            rw [hy1] at hy hz
            cases hy
            cases hz
            exact fun H6 x6 Q6 q6 => ⟨_, rfl, sp_dig (htail q (List.mem_of_mem_take (List.mem_of_getElem? hy1))) H6 x6 Q6 q6 (fun _ _ _ => False)⟩
        · refine q_when (b := !decide (((ws.drop (pl + 1)).take n).length = n) || inV .non (((ws.drop (pl + 1)).take n).map digV))
            (et_or (et_test (ev_is (ev_op (ev_len (ev_var rfl) (sq_of hN)) (ev_var rfl) (rv_ne rfl)) (congrArg (fun b => V.bl (!b)) (decide_eq_decide.mpr ⟨fun h => ?_, fun h => ?_⟩)))) fun _ => et_test (ev_op ev_c (ev_var rfl) (rv_isL (sq_of hN) rfl ?_))) (fun c2 H6 x6 => ?_) (fun c2 H6 x6 => ?_)
          · have := V.int.inj h
            rw [List.length_map] at this
            exact Int.ofNat.inj this
          · rw [List.length_map, h]
          · rw [List.all_map]
            exact List.all_eq_true.mpr fun x _ => digV_flat x
          · refine ⟨_, rfl, _, rfl, fun d nd4 => raise (fun ns t h he => ?_) H6 d (x4.trans (x5.trans x6)) nd4⟩
            have hnl : n = ns.length := Option.some.inj (hc.symm.trans h.1)
            have htk : (ws.drop (pl + 1)).take n = ns.map fun n => istr (n : Nat) := by
              rw [he, hnl, List.take_append_of_le_length (by rw [List.length_map]; omega), List.take_of_length_le (by rw [List.length_map]; omega)]
            rw [htk] at c2
            rw [List.length_map, decide_eq_true hnl.symm] at c2
            obtain ⟨y, hy, hy2⟩ := digV_in.mp c2
            obtain ⟨m, hm, rfl⟩ := List.mem_map.mp hy
            exact hy2 m ⟨rfl, h.2 m hm⟩
          · have hnl : ((ws.drop (pl + 1)).take n).length = n := by
              by_cases z : ((ws.drop (pl + 1)).take n).length = n
              · exact z
              · rw [decide_eq_false z] at c2; exact Bool.noConfusion c2
            rw [decide_eq_true hnl] at c2
            obtain ⟨ns, hns, hn60⟩ := nums_of (ws := (ws.drop (pl + 1)).take n) fun y hy => by
              by_cases z : ∃ m, Num y m
              · exact z
              · have c3 := digV_in.mpr ⟨y, hy, fun m hm => z ⟨m, hm⟩⟩
                rw [c3] at c2
                exact Bool.noConfusion c2
            have hlen : ns.length = n := by rw [hns, List.length_map] at hnl; exact hnl
            rw [hns, digV_nums hn60] at hN
            have hev : EvOk (x, ns) := ⟨by rw [hc, hlen], hn60⟩
            have hL6 := x6 _ _ (x5 _ _ (x4 _ _ hL1))
            have hxs : xs.length ≤ 1000 := by rw [Paired.length hp]; omega
            have h2n : n ≤ 2 := by have := hev.len; rw [← hlen]; exact this.2
            have hll := congrArg List.length hw
            refine q_appU hL6 (ev_var rfl) (eu_tup (ea_cons (ev_op (ev_var rfl) (ev_var rfl) (rv_ixL (ex_l (x4.trans (x5.trans x6)) ha1) (atI_nat hxm))) (ea_star (ev_var rfl) (sq_of (x6 _ _ hN)) ea_nil)) ?_) (by omega) (fun t1 H7 nt1 x7 ht1 => ?_)
            · rw [List.append_nil, List.length_cons, List.length_map]
              omega
            · rw [List.append_nil] at ht1
              have x17 : Ex H1 H7 := x4.trans (x5.trans (x6.trans x7))
              refine s_asg (ev_op (ev_op (ev_var rfl) ev_c rv_I0) (ev_var rfl) rv_I0) fun H8 x8 => ?_
              have hL7 := x7 _ _ hL6
              have b7 : Btx L H7 (upd H7 L (.lst (xs ++ [.ref t1]))) := Btx.put
              have hdr : ws.drop (pl + 1) = (ns.map fun n => istr (n : Nat)) ++ ws.drop (pl + 1 + n) := by
                rw [← hns, show ws.drop (pl + 1 + n) = (ws.drop (pl + 1)).drop n by rw [List.drop_drop], List.take_append_drop]
              have hdl := congrArg List.length hdr
              rw [List.length_append, List.length_drop, List.length_drop, List.length_map] at hdl
              refine ⟨⟨pl + 1 + n, v ++ [(x, ns)], xs ++ [.ref t1], _, _, _, rfl, ((e3.trans x17).mut nL).trans x8, x8 _ _ upd_same, ?_, ?_, by omega, ?_, ?_⟩, ?_⟩
              · refine paired_snoc (paired_mono hp1 fun _ _ z => (b7.ev hL7 (z.mono x17)).mono x8) ⟨t1, rfl, ?_⟩
                exact ex_t x8 (b7.sqt hL7 (st_of ht1))
              · intro e he
                rcases List.mem_append.mp he with he | he
                · exact hok e he
                · rcases List.mem_singleton.mp he with rfl
                  exact hev
              · conv => lhs; rw [hw, hdrop, hdr]
                unfold viewW
                rw [List.flatMap_append]
                simp [evW]
              · rw [List.length_append, List.length_singleton]
                omega
              · show ws.length - (((pl : Nat) : Int) + 1 + (n : Nat)).toNat < ws.length - ((pl : Nat) : Int).toNat
                omega
    · rw [decide_eq_false c, if_neg (by decide)]
      have hwe : viewW v = ws := by
        rw [List.drop_of_length_le (by omega), List.append_nil] at hw
        exact hw.symm
      refine ⟨_, rfl, L, xs, rfl, .inl ⟨sq_of hL1, fun b nb => ?_⟩⟩
      have xb : Ex H1 (upd H1 b (.tup xs)) := Ex.new nb
      exact kg v _ b hok hwe (e3.trans xb) (ex_none e3 nb) (view_key (st_of upd_same) (paired_mono hp1 fun _ _ z => z.mono xb))
  · intro σ H' Q1 Q2 hq h
    obtain ⟨v, h1, v2, h2, p, ys, h3, h4, k, h5, h6, h7, kk, h8, h9⟩ := h
    exact ⟨v, h1, v2, h2, p, ys, h3, h4, k, h5, h6, h7, kk, h8, hq _ _ h9⟩
end
end LL
namespace LL
open PySem PySem.Spec PyProof.Rows L2 He Evl ND
section
variable {w : World} {K : PySem.W.Frag} {mg : Str → Option Value} {base : Heap}
/-- Plan(entries), no entry wrong -/
theorem make_plan {B H : Hp} {a : Addr} {vs : List V} {es : List Ent} {k : Nat} {Q : VK} {E : XK} (eb : Ex B H) (hs : SqL K H a vs) (hp : Paired (EinAt K B H) vs es) (hl : es.length ≤ 1000) (hk : 1 ≤ k ∧ k ≤ 1000) (hz : ∀ e ∈ es, 1 + e.2.length * (k + 1) ≤ 8000 ∧ ∀ q ∈ e.2, Sz k q)
    (hok : planBad [] 0 es = none) (kq : ∀ x H2, H x = none → Ex H H2 → PlanAt w K H2 (.ref x) es → Q (.ref x) H2) :
    ∀ x dx, H x = none → H dx = none → dx ≠ x → spPI w K [.ref x, .ref a] (upd (upd H dx (.own x)) x (.ins (ga K "Plan") dx [])) (fun v H2 => v = .non ∧ Q (.ref x) H2) E := by
  intro x dx nx ndx hne
  have e1 : Ex H (upd H dx (.own x)) := Ex.new ndx
  have nx1 : (upd H dx (.own x)) x = none := (upd_ne (Ne.symm hne)).trans nx
  have e2 : Ex (upd H dx (.own x)) (upd (upd H dx (.own x)) x (.ins (ga K "Plan") dx [])) := Ex.new nx1
  refine ⟨B, x, dx, a, vs, es, k, rfl, eb.trans (e1.trans e2), ex_none eb nx, upd_same, ex_l (e1.trans e2) hs, paired_mono hp fun v en ⟨q1, q2, q3, q4, h1, h2, h3, h4, h5⟩ => ⟨q1, q2, q3, q4, h1, h2, h3, ex_l (e1.trans e2) h4, h5⟩, hl, hk, hz, fun _ B2 H2 t kvs s hx2 ht htab => ⟨rfl, ?_⟩, fun i hi => by rw [hok] at hi; cases hi⟩
  have s0 := Stp.with (ms := []) nx1 s
  refine kq x H2 nx ?_ ⟨x, dx, t, kvs, rfl, hx2, s.in_ _ _ ht, htab.mono s.in_⟩
  exact fun b o hb => s0.fr b o (fun h => nomatch h) (e1 b o hb)
/-- checked(entries, at): the plan, no entry wrong -/
def spChk (w : World) (K : PySem.W.Frag) : Sp := fun us H Q _ => ∃ (B : Hp) (a : Addr) (i : Int) (vs : List V) (es : List Ent) (k : Nat), us = [.ref a, .int i] ∧ Ex B H ∧ SqL K H a vs ∧ Paired (EinAt K B H) vs es ∧ es.length ≤ 1000 ∧ (1 ≤ k ∧ k ≤ 1000) ∧ (∀ e ∈ es, 1 + e.2.length * (k + 1) ≤ 8000 ∧ ∀ q ∈ e.2, Sz k q) ∧
  planBad [] 0 es = none ∧ ∀ x H2, Ex H H2 → PlanAt w K H2 (.ref x) es → Q (.ref x) H2
theorem fn_checked (T : Txt K mg) : Fn P w K mg base 7 (ga K "checked") (spChk w K) := by
  refine fn_def T.d_checked sc_checked (fun _ _ _ _ _ _ us hl => match us, hl with | [_, _], _ => rfl) (fun vs H Q E h => ?_) (fun cdv A outer s H vs Q E hr h => ?_)
  · obtain ⟨_, _, _, _, _, _, rfl, _⟩ := h
    rfl
  obtain ⟨B, a, i, vs, es, j, rfl, eb, hs, hp, hl, hj, hz, hok, k⟩ := h
  have nd := sc_checked.nd
  refine ⟨_, pss_one (ps_try_thru0 (pss_one (ps_ret (StX.pe_makeR T.m_Plan (fn_Plan_init T) (hr.mono (by decide)) rfl T.g_Plan pcN (pa_cons (pv 0) pa_nil))))), ?_⟩
  exact ⟨_, rfl, make_plan (Q := Q) eb hs hp hl hj hz hok fun x H2 _ e2 hp2 => k x H2 e2 hp2⟩
end
end LL
namespace LL
open PySem PySem.Spec PyProof.Rows L2 He Evl ND
section
variable {w : World} {K : PySem.W.Frag} {mg : Str → Option Value} {base : Heap}
def del (L : Addr) (H : Hp) : Hp := fun a => if a = L then none else H a
theorem del_ne {L a : Addr} {H : Hp} (h : a ≠ L) : del L H a = H a := if_neg h
theorem del_ex {L : Addr} {H : Hp} : Ex (del L H) H := fun a o h => by
  unfold del at h
  split at h
  · cases h
  · exact h
theorem btx_del {L : Addr} {H : Hp} : Btx L H (del L H) := fun a o n h => (del_ne n).trans h
theorem del_mono {L : Addr} {H H' : Hp} (h : Btx L H H') : Ex (del L H) (del L H') := fun a o z => by
  unfold del at z ⊢
  split at z
  · cases z
  · rename_i n
    rw [if_neg n]
    exact h a o n z
theorem EinAt.up {B B' : Hp} {v : V} {e : Ent} (h : EinAt K B B v e) (x : Ex B B') : EinAt K B' B' v e := by
  obtain ⟨t, b, l, vs, h1, h2, h3, h4, h5⟩ := h
  exact ⟨t, b, l, vs, h1, ex_t x h2, h3.mono x, ex_l x h4, rats_mono h5 x⟩
theorem EinAt.in_ {B H : Hp} {v : V} {e : Ent} (h : EinAt K B B v e) (x : Ex B H) : EinAt K B H v e := by
  obtain ⟨t, b, l, vs, h1, h2, h3, h4, h5⟩ := h
  exact ⟨t, b, l, vs, h1, h2, h3, ex_l x h4, h5⟩
theorem key_btx {c : Addr} {H H' : Hp} {b : Addr} {v : List Evt} {ys : List V} (h : Btx c H H') (hc : H c = some (.lst ys)) (g : KeyAt K H b (viewK v)) : KeyAt K H' b (viewK v) := by
  obtain ⟨xs, h1, h2⟩ := key_view g
  exact view_key (h.sqt hc h1) (paired_mono h2 fun _ _ z => h.ev hc z)
theorem rat_btx {c : Addr} {H H' : Hp} {x : V} {q : Rat} {ys : List V} (h : Btx c H H') (hc : H c = some (.lst ys)) (g : RatAt K H x q) : RatAt K H' x q := by
  obtain ⟨a, dx, h1, h2⟩ := g
  exact ⟨a, dx, h1, h a _ (fun z => by rw [z, hc] at h2; cases h2) h2⟩
theorem planBad_pre : ∀ {a b : List Ent} {seen : List NestedKey} {i : Nat}, planBad seen i (a ++ b) = none → planBad seen i a = none
  | [], _, _, _, _ => rfl
  | e :: a, b, seen, i, h => by
    rw [List.cons_append] at h
    unfold planBad at h ⊢
    by_cases z : okE seen e = true
    · rw [if_pos z] at h ⊢
      exact planBad_pre h
    · rw [if_neg z] at h
      cases h
theorem ent_sz {p : PE} (h : POk p ∧ p.2.length ≤ 16) : 1 + (entE p).2.length * (200 + 1) ≤ 8000 ∧ ∀ q ∈ (entE p).2, Sz 200 q := by
  refine ⟨?_, fun q hq => (h.1.2.2.2 q hq).sz⟩
  have := Nat.mul_le_mul_right 201 h.2
  show 1 + p.2.length * 201 ≤ 8000
  omega
variable (W : TabW w K)
include W
def spRead (w : World) (K : PySem.W.Frag) : Sp := fun us H Q _ => ∃ (a : Addr) (ps : List PE), us = [.ref a] ∧ SqL K H a (ps.map fun p => V.str (lineT p)) ∧ ps.length ≤ 1000 ∧ (∀ p ∈ ps, POk p ∧ p.2.length ≤ 16) ∧ planBad [] 0 (ps.map entE) = none ∧ ∀ x H2, Ex H H2 → PlanAt w K H2 (.ref x) (ps.map entE) → Q (.ref x) H2
theorem fn_read_plan (T : Txt K mg) : Fn P w K mg base 8 (ga K "read_plan") (spRead w K) := by
  refine fn_def T.d_read_plan sc_read_plan (fun _ _ _ _ _ _ us hl => match us, hl with | [_], _ => rfl) (fun vs H Q E h => ?_) (fun cdv A outer s H vs Q E hr h => ?_)
  · obtain ⟨_, _, rfl, _⟩ := h
    rfl
  obtain ⟨a, ps, rfl, ha, hl, hok, hpb, k⟩ := h
  have nd := sc_read_plan.nd
  refine ⟨_, pss_cons (ps_set (i := 1) nd rfl (by first | exact Or.inl rfl | exact Or.inr rfl) (pe_lst pa_nil))
      (pss_cons (ps_for (passes_of rfl) rfl (pi_enum (by rfl) T.f_enumerate (pa_cons (pv 0) pa_nil)) (pg_tup rfl (pgs_cons (pg_name (i := 2) nd rfl (by first | exact Or.inl rfl | exact Or.inr rfl)) (pgs_cons (pg_name (i := 3) nd rfl (by first | exact Or.inl rfl | exact Or.inr rfl)) pgs_nil))) (pss_cons (ps_set (i := 4) nd rfl (by first | exact Or.inl rfl | exact Or.inr rfl) (pe_split (pv 3) (pe_str)))
      (pss_cons (ps_if (PW.pt (pw_or (pt_cmpR op_ne (pe_ix ix_list (pv 4) (pe_int) (fun _ _ => rfl)) (pe_str) (nomark _)) (pw_or1 (pt_cmpR op_notIn_seq (pe_str) (pv 4) rfl)))) (pss_one (ps_raise rfl (takes_of rfl rfl rfl rfl) (pmk_BadPaper T (hr.mono (by decide)) (pa_cons (pv 2) pa_nil)))) (pss_nil))
      (pss_cons (ps_set (i := 5) nd rfl (by first | exact Or.inl rfl | exact Or.inr rfl) (pe_bm PySem.F.plainAttrs_list PySem.F.slot_list_index PySem.F.type_list_index mt_index (pv 4) (pa_cons (pe_str) pa_nil)))
      (pss_cons (ps_set (i := 6) nd rfl (by first | exact Or.inl rfl | exact Or.inr rfl) (pe_fn T.d_read_view (fn_read_view W T) (hr.mono (by decide)) T.g_read_view pc (pa_cons (pe_slice sl_list (pv 4) (po_some (pe_int)) (po_some (pv 5))) (pa_cons (pv 2) pa_nil))))
      (pss_cons (ps_setLc (i := 8) (own := [("word", 7)]) (g := gName 7) (tt := tYes) rfl nd rfl rfl (sw_true rfl rfl rfl (by decide +kernel)) (pi_list (pe_slice sl_list (pv 4) (po_some (pe_op op_add (pv 5) (pe_int))) po_none)) (blkOk_by (N := n_read_plan) (sc := defScope s_read_plan) (by decide +kernel)) (fun _ _ _ _ _ => pg_name (i := 7) nd rfl (by first | exact Or.inl rfl | exact Or.inr rfl)) (fun _ _ _ _ _ => pts_nil) (fun _ _ _ _ _ => pe_fn T.d_read_ratio (fn_read_ratio T) (hr.mono (by decide)) T.g_read_ratio pcN (pa_cons (pv 7) pa_nil)))
      (pss_cons (ps_if (pt_cmpR (op_noneInR T (hr.mono (by decide))) (pe_non) (pv 8) rfl) (pss_one (ps_raise rfl (takes_of rfl rfl rfl rfl) (pmk_BadPaper T (hr.mono (by decide)) (pa_cons (pv 2) pa_nil)))) (pss_nil))
      (pss_cons (ps_expr (pe_bm PySem.F.plainAttrs_list PySem.F.slot_list_append PySem.F.type_list_append mt_append (pv 1) (pa_cons (pe_tup (pa_cons (pv 6) (pa_cons (pv 8) pa_nil))) pa_nil)))
      (pss_one (ps_expr (pe_fn T.d_checked (fn_checked T) (hr.mono (by decide)) T.g_checked pc (pa_cons (pv 1) (pa_cons (pv 2) pa_nil)))))))))))))
      (pss_one (ps_ret (pe_fn T.d_checked (fn_checked T) (hr.mono (by decide)) T.g_checked pc (pa_cons (pv 1) (pa_cons (pe_int) pa_nil)))))), ?_⟩
  have hbig : (100000 : Nat) ≤ sizeLine := by decide
  refine ⟨(by show 0 ≤ sizeLine; omega), fun L nL => ?_⟩
  have e1 : Ex H (upd H L (.lst [])) := Ex.new nL
  refine ⟨_, rfl, a, _, rfl, ex_l e1 ha, for_it (walk_enum (xs := ps.map fun p => V.str (lineT p))) (fun i σ H' => ∃ (vs : List V) (u2 u3 u4 u5 u6 u7 u8 : Option V), Ex H H' ∧ H' L = some (.lst vs) ∧ Paired (EinAt K (del L H') (del L H')) vs ((ps.take i).map entE) ∧ σ = [some (.ref a), some (.ref L), u2, u3, u4, u5, u6, u7, u8]) ?_ ?_ ?_ ?_⟩
  · exact ⟨[], _, _, _, _, _, _, _, e1, upd_same, .nil, rfl⟩
  · rintro i σ H' _ ⟨_, _, _, _, _, _, _, _, e, _⟩
    exact ex_l e ha
  · rintro i y σ H1 H2 hi ⟨vs, _, _, _, _, _, _, _, e2, hL, hvs, rfl⟩ ⟨T0, y1, y2, rfl, nT0, rfl, ey1, ey2⟩
    cases ey1
    have ey2 : (ps.map fun p => V.str (lineT p))[i]? = some y2 := ey2
    rw [List.getElem?_map] at ey2
    obtain ⟨p, hp, rfl⟩ := Option.map_eq_some_iff.mp ey2
    obtain ⟨pok, p16⟩ := hok p (List.mem_of_getElem? hp)
    have x1 : Ex H1 (upd H1 T0 (.tup [.int (i : Nat), .str (lineT p)])) := Ex.new nT0
    refine ⟨T0, _, rfl, SqT.of upd_same, rfl, _, _, rfl, _, _, rfl, rfl, ?_⟩
    have hll := lineT_len pok
    refine ⟨_, rfl, ⟨_, rfl⟩, _, " ", rfl, rfl, by decide, by omega, fun Wd nW => ?_⟩
    rw [lineT_split pok]
    have x2 := Ex.new (o := .lst ((lineW p).map V.str)) nW
    have x12 := x1.trans x2
    have hW : SqL K (upd (upd H1 T0 (.tup [.int (i : Nat), .str (lineT p)])) Wd (.lst ((lineW p).map V.str))) Wd ((lineW p).map V.str) := sq_of upd_same
    have hfl : ((lineW p).map V.str).all flatV = true := by rw [List.all_map]; exact List.all_eq_true.mpr fun _ _ => rfl
    have hdo : ("do" : Str) ∈ lineW p := by simp [lineW]
    have hin : inV (.str "do") ((lineW p).map V.str) = true := by
      unfold inV
      rw [List.any_map, List.any_eq_true]
      exact ⟨_, hdo, rfl⟩
    dsimp only [gName]
    refine q_when (b := false) (et_or (a := false) (b := false) (et_test (ev_is (ev_op (ev_op (ev_var rfl) ev_c (rv_ixL hW (atI_nat (j := 0) rfl))) ev_c (rv_ne rfl)) (congrArg (fun b => V.bl (!b)) (decide_eq_true rfl)))) fun _ => et_test (ev_is (ev_op ev_c (ev_var rfl) (rv_niL hW rfl hfl)) (by rw [hin]; rfl))) (fun c => Bool.noConfusion c) (fun _ H3 x3 => ?_)
    have hW3 := ex_l x3 hW
    have hj : ((lineW p).map V.str)[(viewW p.1).length + 1]? = some (.str "do") := by
      unfold lineW
      simp
    refine ⟨_, rfl, .inl ⟨rfl, _, hW3⟩, Wd, _, .str "do", (viewW p.1).length + 1, .str "do", rfl, rfl, hW3, rfl, hfl, hj, rfl, ?_, ?_⟩
    · intro m z' hm hz'
      rw [List.getElem?_map] at hz'
      obtain ⟨x, hx, rfl⟩ := Option.map_eq_some_iff.mp hz'
      rw [eqV_str]
      refine decide_eq_false fun z => ?_
      subst z
      have hx2 : ((("at" : Str) :: viewW p.1))[m]? = some ("do" : Str) := by
        unfold lineW at hx
        rw [List.getElem?_append_left (by rw [List.length_append, List.length_cons, List.length_singleton]; omega), List.getElem?_append_left (by rw [List.length_cons]; omega)] at hx
        exact hx
      rcases List.mem_cons.mp (List.mem_of_getElem? hx2) with z | z
      · exact absurd z (by decide)
      · exact view_do pok.2.1 z
    · have hvl := viewW_len pok.2.1
      have hp1 := pok.1
      have hcutv : cutV ((lineW p).map V.str) (some ((1 : Nat) : Int)) (some (((viewW p.1).length + 1 : Nat) : Int)) = (viewW p.1).map V.str := by
        rw [cut_nat (by omega), ← List.map_drop, ← List.map_take]
        congr 1
        unfold lineW
        simp
      refine el_sl (lo := some ((1 : Nat) : Int)) (hi := some (((viewW p.1).length + 1 : Nat) : Int)) (ev_var rfl) (eo_some ev_c) (eo_some (ev_var rfl)) hW3 _ (Ex.refl _) _ fun V1 H4 nV x4 hV => ?_
      rw [hcutv] at hV
      refine ⟨_, rfl, V1, (i : Nat), viewW p.1, rfl, sq_of hV, by omega, fun x hx => ?_, fun v H5 b hv hvw x5 nb hkey => ?_, fun h => absurd rfl (h p.1 pok.2.1)⟩
      · obtain ⟨e, he, hx⟩ := List.mem_flatMap.mp hx
        have := (evW_short (pok.2.1 e he) x hx).2.1
        omega
      · have hv := viewW_inj pok.2.1 hv hvw
        subst hv
        have hW5 := ex_l (x4.trans x5) hW3
        have hdl : ((lineW p).map V.str).drop ((viewW p.1).length + 2) = p.2.map fun q => V.str (ratStr q) := by
          rw [← List.map_drop]
          unfold lineW
          rw [List.drop_left' (by rw [List.length_append, List.length_cons, List.length_singleton]), List.map_map]
          rfl
        dsimp only [gName]
        refine el_sl (lo := some (((viewW p.1).length + 2 : Nat) : Int)) (hi := none) (ev_var rfl) (eo_some (ev_op (ev_var rfl) ev_c rv_I0)) eo_none hW5 _ (Ex.refl _) _ fun V2 H6 nV2 x6 hV2 => ?_
        rw [cut_from, hdl] at hV2
        refine ⟨V2, rfl, ⟨_, sq_of hV2⟩, fun D nD => lc_it (te := fun σ H Q => tCons (tVar 7) tNil σ H fun vs H1 => spRR K vs H1 Q (fun _ _ _ => False)) (n := (p.2.map fun q => V.str (ratStr q)).length) (walk_list (K := K) (a := V2) (xs := p.2.map fun q => V.str (ratStr q))) (fun j H' => ∃ rs : List V, Ex H6 H' ∧ H' D = some (.lst rs) ∧ RatsAt K H' rs (p.2.take j)) ⟨[], Ex.new nD, upd_same, .nil⟩ (fun j H' _ z => by obtain ⟨_, e, _⟩ := z; exact ex_l e (sq_of hV2)) ?_ ?_⟩
        · rintro j y H7' H7 hj ⟨rs, x7, hD, hrs⟩ ⟨rfl, hy⟩
          rw [List.getElem?_map] at hy
          obtain ⟨q, hq, rfl⟩ := Option.map_eq_some_iff.mp hy
          have hqok := pok.2.2.2 q (List.mem_of_getElem? hq)
          rw [List.length_map] at hj
          refine ⟨rfl, yes_if ?_⟩
          refine ⟨_, rfl, ratStr q, rfl, Nat.le_trans (rat_short hqok).2.1 (by decide), fun q' v H8 hq' x8 hr => ?_, fun h => absurd hqok.txt (h q)⟩
          have := ratTxt_inj hqok.txt hq'
          subst this
          have hD8 := x8 _ _ hD
          have hrl : rs.length ≤ 100 := by
            rw [Paired.length hrs, List.length_take]
            have := pok.2.2.1
            omega
          refine ⟨rs, hD8, by omega, rs ++ [v], (x7.trans x8).mut nD, upd_same, ?_⟩
          rw [List.take_add_one, hq]
          exact paired_snoc (paired_mono hrs fun _ _ z => rat_btx Btx.put hD8 (z.mono x8)) (rat_btx Btx.put hD8 hr)
        · rintro H7 ⟨rs, x7, hD, hrs⟩
          rw [List.length_map, List.take_length] at hrs
          dsimp only [gName]
          have hor : Paired (OrAt K H7) rs (p.2.map some) := by
            clear hD
            revert hrs
            generalize p.2 = qs
            intro hrs
            induction hrs with
            | nil => exact .nil
            | cons a b ih => exact .cons a ih
          have hnone : RV (rNoneR K) .non (.ref D) H7 (.bl false) := fun H8 x8 Q8 q8 => ⟨D, rs, p.2.map some, rfl, rfl, x8 _ _ hD, paired_mono hor fun _ _ z => z.mono x8, fun H9 x9 => by
            rw [show (p.2.map some).any Option.isNone = false by rw [List.any_map]; exact List.any_eq_false.mpr fun _ _ h => Bool.noConfusion h]
            exact q8 H9 x9⟩
          refine q_when (b := false) (et_test (ev_op ev_c (ev_var rfl) hnone)) (fun c => Bool.noConfusion c) (fun _ H8 x8 => ?_)
          have x18 : Ex H1 H8 := x12.trans (x3.trans (x4.trans (x5.trans (x6.trans (x7.trans x8)))))
          have hL8 := x18 _ _ hL
          have hvl2 : vs.length ≤ 1000 := by rw [Paired.length hvs, List.length_map, List.length_take]; omega
          refine q_appU hL8 (ev_var rfl) (eu_tup (ea_cons (ev_var rfl) (ea_cons (ev_var rfl) ea_nil)) (by show 2 ≤ 100000; decide)) (by omega) (fun t1 H9 nt1 x9 ht1 => ?_)
          have hL9 := x9 _ _ hL8
          have hD9 := x9 _ _ (x8 _ _ hD)
          have ht1L : t1 ≠ L := fun z => by rw [z, hL9] at ht1; cases ht1
          have hDL : D ≠ L := fun z => by
            rw [z] at nD
            rw [(x12.trans (x3.trans (x4.trans (x5.trans x6)))) _ _ hL] at nD
            cases nD
          have b9 : Btx L H9 (del L (upd H9 L (.lst (vs ++ [.ref t1])))) := Btx.put.trans btx_del
          have b19 : Btx L H1 (upd H9 L (.lst (vs ++ [.ref t1]))) := (Btx.ofEx (x18.trans x9)).trans Btx.put
          have hnew : Paired (EinAt K (del L (upd H9 L (.lst (vs ++ [.ref t1])))) (del L (upd H9 L (.lst (vs ++ [.ref t1]))))) (vs ++ [.ref t1]) ((ps.take (i + 1)).map entE) := by
            rw [List.take_add_one, hp, List.map_append]
            refine paired_snoc (paired_mono hvs fun _ _ z => z.up (del_mono b19)) ⟨t1, b, D, rs, rfl, st_of (b9 _ _ ht1L ht1), ?_, sq_of (b9 _ _ hDL hD9), ?_⟩
            · exact key_btx b9 hL9 (hkey.mono (x6.trans (x7.trans (x8.trans x9))))
            · exact paired_mono hrs fun _ _ z => rat_btx b9 hL9 (z.mono (x8.trans x9))
          refine ⟨_, rfl, _, rfl, del L (upd H9 L (.lst (vs ++ [.ref t1]))), L, (i : Nat), vs ++ [.ref t1], (ps.take (i + 1)).map entE, 200, rfl, del_ex, sq_of upd_same, paired_mono hnew fun _ _ z => z.in_ del_ex, by rw [List.length_map, List.length_take]; omega, by decide, fun e he => ?_, ?_, fun xx H10 x10 _ => ?_⟩
          · obtain ⟨p', hp', rfl⟩ := List.mem_map.mp he
            exact ent_sz (hok p' (List.mem_of_mem_take hp'))
          · refine planBad_pre (b := (ps.drop (i + 1)).map entE) ?_
            rw [← List.map_append, List.take_append_drop]
            exact hpb
          · exact ⟨vs ++ [.ref t1], _, _, _, _, _, _, _, ((e2.trans (x18.trans x9)).mut nL).trans x10, x10 _ _ upd_same, paired_mono hnew fun _ _ z => z.up (del_mono (Btx.ofEx x10)), rfl⟩
  · rintro σ H3 ⟨vs, _, _, _, _, _, _, _, e3, hL, hvs, rfl⟩
    rw [List.length_map, List.take_length] at hvs
    exact ⟨_, rfl, del L H3, L, 0, vs, ps.map entE, 200, rfl, del_ex, sq_of hL, paired_mono hvs fun _ _ z => z.in_ del_ex, by rw [List.length_map]; exact hl, by decide, fun e he => by
      obtain ⟨p', hp', rfl⟩ := List.mem_map.mp he
      exact ent_sz (hok p' hp'), hpb, fun x H2 x2 hp2 => k x H2 (e3.trans x2) hp2⟩
end
end LL
namespace L2H
open PySem PySem.Spec PyProof.Rows L2 HotX
section
variable {X : Cx} {e : Expr} {p pos : Pos} {ta : TA} {x f : Str} {C : Addr}
theorem pmk5_sup (T : SupX.SupC X.prog X.K C f) (hms : X.mg "super" = none) (hr : RoomH 2 X.A) (hg : Gl X x) (hm : X.mg x = some (.ref C)) (ha : PA X [e] ta)
    (hdb : (x == ("__debug__" : Str)) = false := by decide) (he : starEach [e] X.env = (false, eval e X.env) :: starEach [] X.env := by rfl) (hpl : (backTo pos (starEach [] X.env)).any (·.1) = false := by rfl) :
    PMk5 X (.Call (.Name x p) [e] [] pos) (tMkS C f ta) := by
  intro pins s σ H Q I h
  obtain ⟨nm, q, N, bs, bm, sn, sub, ab, col, dd, k0, k1, k2, k3, k5, hC, hbm⟩ := T.oex.cls
  obtain ⟨fI, iC, tI, RUN⟩ := T.fn
  refine wpAny_Call_Name_kw (ld_glob I hg hm ?_ hdb)
  refine PySem.W.callWith_K (h₀ := X.base) I.ok.mod.kin T.oex.kC (thn (ha.run pos pins s σ H _ I h) fun us s1 ⟨vs, H1, I1, r1, y, ev, q1⟩ => ⟨I1.kIn, ?_⟩) he hpl
  subst ev
  obtain ⟨u, rfl, ry⟩ := vals1 r1
  show wpAny _ _ (call (.ref C) [u]) _ _ _
  obtain ⟨mb, hmb, hbl⟩ := I1.ok.mod.blt
  have G1 := I1.ok.mod.glob.keeps I1.bk
  have B1 := hmb.keeps I1.bk
  have lim := I1.nolimit
  have kb := I1.ok.mod.kin
  have bk := I1.bk
  have hsys := I1.big
  obtain ⟨hp, g, dr, tk, os⟩ := s1
  have hsz : hp.objs.size ≤ hp.objs.size + 1 := Nat.le_succ _
  have hn : H1 (hp.objs.size + 1) = none := I1.hok.fresh hsz
  have kk : ∀ b o, hp.get? b = some o → ((hp.push (PySem.W.kdv_tup [u])).push (PySem.HandSPX.excO C hp.objs.size)).get? b = some o := fun b o e => Heap.get?_push_of_some _ (Heap.get?_push_of_some _ e)
  have hget : ((hp.push (PySem.W.kdv_tup [u])).push (PySem.HandSPX.excO C hp.objs.size)).get? (hp.objs.size + 1) = some (PySem.HandSPX.excO C hp.objs.size) := by heap_get
  have hus : [u].length ≤ sizeLine := by show 1 ≤ sizeLine; decide
  have hKe : ∀ o, X.K.lookup (hp.objs.size + 1) ≠ some o := fun o z => by
    have := Heap.lt_size (bk _ _ (kb _ _ z))
    exact Nat.lt_irrefl _ (Nat.lt_of_succ_lt this)
  refine wpAny_call (PySem.HandSPX.call_own F.excBase_ValueError (fun Y => PySem.HandSPX.refsVE_contains Y bm hbm) (I1.kIn _ _ hC) (PySem.W.looks_findIn I1.kIn iC) (fun self => PySem.W.bind_fn I1.kIn self tI) hus
    (RUN _ _ _ _ _ _ _ X.mg mb _ _ u _ (hr.make C [u] []).depth (fun b o z => kk b o (I1.kIn b o z)) (lim.keeps kk) (G1.keeps kk) hms (B1.keeps kk) ((hbl _ (by decide)).trans (by decide +kernel)) hget hKe fun h2 t2 dx t1 k2 dn dne e2 ns2 => ⟨rfl, ?_⟩))
  have hnd : H1 dx = none := I1.hok.fresh (by
    have : hp.objs.size ≤ dx := by
      have h3 : ((hp.push (PySem.W.kdv_tup [u])).push (PySem.HandSPX.excO C hp.objs.size)).objs.size ≤ dx := dn
      have h4 : hp.objs.size ≤ ((hp.push (PySem.W.kdv_tup [u])).push (PySem.HandSPX.excO C hp.objs.size)).objs.size := Nat.le_of_lt (Nat.lt_of_succ_lt (Heap.lt_size hget))
      exact Nat.le_trans h4 h3
    exact this)
  have dgt : hp.objs.size + 1 < dx := Nat.lt_of_lt_of_le (Heap.lt_size hget) dn
  have old : ∀ {b : Addr} {o : Obj}, hp.get? b = some o → h2.get? b = some o := fun {b o} z => k2 b o (Nat.ne_of_lt (Nat.lt_of_lt_of_le (Heap.lt_size z) hsz)) (kk b o z)
  have oldn : ∀ {b : Addr} {o : Obj}, hp.get? b = some o → b ≠ hp.objs.size + 1 ∧ b ≠ dx := fun {b o} z => by
    have h1 := Heap.lt_size z
    have h2 : b < hp.objs.size + 1 := Nat.lt_of_lt_of_le h1 hsz
    exact ⟨Nat.ne_of_lt h2, Nat.ne_of_lt (Nat.lt_trans h2 dgt)⟩
  have H1n : ∀ {b : Addr}, b ≠ dx → b ≠ hp.objs.size + 1 → (upd (upd H1 dx (exd dx [(f, y)])) (hp.objs.size + 1) (exo (hp.objs.size + 1) C (some dx))) b = H1 b := fun {b} h1 h2 => by rw [upd_ne h2, upd_ne h1]
  have un2 : Un (frs X.stack) [] (upd H1 (hp.objs.size + 1) (exo (hp.objs.size + 1) C none)) (upd (upd H1 dx (exd dx [(f, y)])) (hp.objs.size + 1) (exo (hp.objs.size + 1) C (some dx))) ((hp.push (PySem.W.kdv_tup [u])).push (PySem.HandSPX.excO C hp.objs.size)) h2 := by
    refine ⟨fun b o z n _ _ => ?_, fun b o z n _ _ => ⟨o.slots, ?_⟩, fun b o z n _ => ?_, fun b o z _ => ?_, fun b xs z => ?_, fun b o v z => ?_, fun b ps z => ⟨#[], ?_⟩⟩
    · exact k2 b o (fun w => by rw [w, upd_same] at n; cases n) z
    · exact k2 b o (fun w => by rw [w, upd_same] at n; cases n) z
    · have hb : b ≠ hp.objs.size + 1 := fun w => by rw [w, upd_same] at n; cases n
      rw [upd_ne hb] at n ⊢
      have : b ≠ dx := Nat.ne_of_lt (Nat.lt_of_lt_of_le (Heap.lt_size z) dn)
      rw [upd_ne this]
      exact n
    · by_cases hb : b = hp.objs.size + 1
      · exact ⟨_, by rw [hb]; exact e2⟩
      · exact ⟨o, k2 b o hb z⟩
    · have hb : b ≠ hp.objs.size + 1 := fun w => by rw [w, upd_same] at z; exact exo_tup (Option.some.inj z)
      rw [upd_ne hb] at z ⊢
      rw [upd_ne (ne_of_none z hnd)]
      exact z
    · have hb : b ≠ hp.objs.size + 1 := fun w => by rw [w, upd_same] at z; exact exo_frz (Option.some.inj z)
      rw [upd_ne hb] at z ⊢
      rw [upd_ne (ne_of_none z hnd)]
      exact z
    · have hb : b ≠ hp.objs.size + 1 := fun w => by rw [w, upd_same] at z; exact exo_tbl (Option.some.inj z)
      rw [upd_ne hb] at z ⊢
      rw [upd_ne (ne_of_none z hnd), z]
      simp
  have hok2 : HOk X.prog X.w (upd (upd H1 dx (exd dx [(f, y)])) (hp.objs.size + 1) (exo (hp.objs.size + 1) C (some dx))) h2 := fun b o z => by
    by_cases hb : b = hp.objs.size + 1
    · subst hb
      rw [upd_same] at z
      cases z
      exact exo_ok e2
    · rw [upd_ne hb] at z
      by_cases hbd : b = dx
      · subst hbd
        rw [upd_same] at z
        cases z
        exact exd_ok ns2 (relO_put (fs := []) ry fun g => True.intro)
      · rw [upd_ne hbd] at z
        refine (I1.hok b o z).stay (fun c v hc w => old w) (fun c hc => ?_) fun c xs hc => ?_
        · have hn' : c ≠ hp.objs.size + 1 := fun w => by rw [w, hn] at hc; cases hc
          rw [upd_ne hn', upd_ne (ne_of_none hc hnd)]
          exact hc
        · have hn' : c ≠ hp.objs.size + 1 := fun w => by rw [w, hn] at hc; cases hc
          rw [upd_ne hn', upd_ne (ne_of_none hc hnd)]
          exact hc
  have fin : upd (del (upd (upd H1 dx (exd dx [(f, y)])) (hp.objs.size + 1) (exo (hp.objs.size + 1) C (some dx))) (hp.objs.size + 1)) dx (.xd [(f, y)]) = upd H1 dx (.xd [(f, y)]) := by
    funext b
    by_cases hbd : b = dx
    · rw [hbd, upd_same, upd_same]
    · rw [upd_ne hbd, upd_ne hbd]
      by_cases hb : b = hp.objs.size + 1
      · rw [hb, del_same, hn]
      · rw [del_ne hb, upd_ne hb, upd_ne hbd]
  obtain ⟨t0, G, J, kG, ge, hoe, na⟩ := mk_end0 (d := dx) (fs := [(f, y)]) (g2 := g) (os2 := os) (d2 := dr) (t2 := t2) I1 hsz kk un2 hok2 rfl I1.bare upd_same (by rw [upd_ne (Nat.ne_of_gt dgt), upd_same]) hnd
  refine ⟨⟨hp.objs.size + 1, _, _, ⟨G, g, dr, t2, os⟩, _, .ref C, some dx, rfl, J, kG, ge, hoe, ⟨rfl, rfl, fun vs hv => ?_⟩, rfl, rfl, na, rfl, I1.bare, raises_own T.oex.exC T.oex.tyC, ?_⟩, fun a oe vs ea2 hg2 hd2 => ?_⟩
  · cases hv
    rfl
  · rw [fin]
    exact q1 dx hnd
  · cases ea2
    have hg3 : h2.get? (hp.objs.size + 1) = some oe := hg2
    rw [hoe] at hg3
    cases hg3
    cases hd2
    show (4 : Nat) < 6
    decide
end
end L2H
namespace LL
open PySem PySem.Spec PyProof.Rows L2 He Evl ND
section
variable {w : World} {K : PySem.W.Frag} {mg : Str → Option Value} {base : Heap}
/-- an exception whose context is None is an exception -/
theorem cx_up {P : Program} {outer : List Env} {H : Hp} {s : Shared} {E : XK} {u : Value} {s' : Shared} (h : L2N.CX P w outer H s E u s') : L2.CX P w outer H s E u s' := by
  obtain ⟨a, B, H', cls, d, rfl, fl, hok, ub, na, os, ag, hE⟩ := h
  exact ⟨a, B, H', cls, d, rfl, L2H.flyingZ_imp (fun o z => z.zc) fl, hok, ub, na, os, ag, hE⟩
/-- a def whose exceptions have no context -/
abbrev FnN (P : Program) (w : World) (K : PySem.W.Frag) (mg : Str → Option Value) (base : Heap) (k : Nat) (f : Addr) (sp : Sp) : Prop := FnR P w K mg base (L2N.CX P w) k f sp
theorem FnN.fn {P : Program} {k : Nat} {f : Addr} {sp : Sp} (F : FnN P w K mg base k f sp) : Fn P w K mg base k f sp := fun A outer s H us vs Q E hr e0 r h =>
  codeAny_mono (F A outer s H us vs Q E hr e0 r h) fun x s' hx => by
    cases x with
    | error e => exact cx_up hx
    | ok fl => cases fl <;> exact hx
theorem fn_defN {P : Program} {x qual : Str} {st : Stmt} {f : Addr} {N ps : List Str} {k : Nat} {sp : Sp} (D : ∃ fd, FunD K x qual (defArgs st) (defBody st) (defScope st) [] [] f fd) (S : FnScope N ps (defScope st))
    (hb : ∀ (kV doc pm : Value) (an : Option Addr) (cdv ct : Value) (us : List Value), us.length = ps.length → bindArgs (PySem.W.fnOf x qual (defArgs st) (defBody st) (defScope st) .none kV doc pm an cdv ct) ⟨us, []⟩ = pure (ps.zip us))
    (len : ∀ vs H Q E, sp vs H Q E → vs.length = ps.length)
    (hbody : ∀ (cdv : Value) (A : Around) (outer : List Env) (s : Shared) (H : Hp) (vs : List V) (Q : VK) (E : XK), Room k (A.deeper (envOfC qual (defScope st) s.heap.objs.size f cdv)) → sp vs H Q E →
      ∃ t, PSs (cxOf (L2N.CX P w) P w K mg base N qual (defScope st) f cdv A outer s H E) (defBody st) t ∧ t { nx := fun _ H' => Q .non H', rt := Q } (start N vs) H) : FnN P w K mg base (k + 1) f sp := by
  obtain ⟨fd, F⟩ := D
  exact (FnOk.raw (F.ok S len hbody) (F.bindsN hb) (dvs := []) .nil).imp (fun vs H Q E h => by simpa using h)
end
section
variable {X : Cx} {e : Expr} {p pos : Pos} {ta : TA}
theorem pmkN_BadPlan (T : Txt X.K X.mg) (hr : Room 2 X.A) (ha : PA X [e] ta) (hP : X.prog = PR := by rfl) (hg : Gl X "BadPlan" := by rfl) (he : starEach [e] X.env = (false, eval e X.env) :: starEach [] X.env := by rfl) : L2N.PMk X (.Call (.Name "BadPlan" p) [e] [] pos) (tMkS (ga X.K "BadPlan") "at" ta) :=
  L2H.PMk5.pmk (L2H.pmk5_sup (by rw [hP]; exact T.s_BadPlan) T.f_super (L2H.roomH_of hr) hg T.g_BadPlan ha (by decide) he)
theorem pmkH_BadPaper {K : PySem.W.Frag} {mg : Str → Option Value} (T : Txt K mg) (hr : L2H.RoomH 2 X.A) (ha : PA X [e] ta) (hK : X.K = K := by rfl) (hM : X.mg = mg := by rfl) (hP : X.prog = PR := by rfl) (hg : Gl X "BadPaper" := by rfl) (he : starEach [e] X.env = (false, eval e X.env) :: starEach [] X.env := by rfl) : L2N.PMk X (.Call (.Name "BadPaper" p) [e] [] pos) (tMkS (ga K "BadPaper") "at" ta) := by
  subst hK hM
  exact L2H.PMk5.pmk (L2H.pmk5_sup (by rw [hP]; exact T.s_BadPaper) T.f_super hr hg T.g_BadPaper ha (by decide) he)
end
end LL
namespace LL
open PySem PySem.Spec PyProof.Rows L2 He Evl ND
section
variable {w : World} {K : PySem.W.Frag} {mg : Str → Option Value} {base : Heap}
theorem fn_Plan_initN (T : Txt K mg) : FnN P w K mg base 5 (ma K (ga K "Plan") "__init__") (spPI w K) := by
  refine fn_defN T.d_Plan_init sc_Plan_init (fun _ _ _ _ _ _ us hl => match us, hl with | [_, _], _ => rfl) (fun vs H Q E h => ?_) (fun cdv A outer s H vs Q E hr h => ?_)
  · obtain ⟨B, x, dx, a, vs, es, k, rfl, _⟩ := h
    rfl
  obtain ⟨B, x, dx, a, vs, es, j0, rfl, e, hb, hx, hs, hp, hl, hj, hz, kg, kb⟩ := h
  have nd := sc_Plan_init.nd
  refine ⟨_, pss_cons (ps_fld (pv 0) (ND.pe_new) rfl)
      (pss_one (ps_for (passes_of rfl) rfl (pi_enum (by rfl) T.f_enumerate (pa_cons (pv 1) pa_nil)) (pg_tup rfl (pgs_cons (pg_name (i := 2) nd rfl (by first | exact Or.inl rfl | exact Or.inr rfl)) (pgs_cons (pg_name (i := 3) nd rfl (by first | exact Or.inl rfl | exact Or.inr rfl)) pgs_nil))) (pss_cons (ps_asg (pv 3) (pg_tup rfl (pgs_cons (pg_name (i := 4) nd rfl (by first | exact Or.inl rfl | exact Or.inr rfl)) (pgs_cons (pg_name (i := 5) nd rfl (by first | exact Or.inl rfl | exact Or.inr rfl)) pgs_nil))))
      (pss_cons (ps_if (PW.pt (pw_or (pt_cmpR (ND.op_in hr.units) (pv 4) (pe_fld (pv 0) rfl) rfl) (pw_or (pt_not (pt_truth (pv 5) (by intro _; rfl))) (pw_or (pt_val (pe_callB (cr_any rfl) (by rfl) T.f_any (by decide +kernel) (pa_cons (pe_lc (own := [("lot", 6)]) (g := gName 6) (tt := tYes) rfl nd (pi_list (pv 5)) (blkOk_by (N := n_Plan_init) (sc := defScope s_Plan_init) (by decide +kernel)) (fun _ _ _ _ _ => pg_name (i := 6) nd rfl (by first | exact Or.inl rfl | exact Or.inr rfl)) (fun _ _ _ _ _ => pts_nil) (fun _ _ _ _ _ => pe_cmpR op_lt (pek_fld K (pv 6) rfl) (pe_int) (nomark _))) pa_nil))) (pw_or1 (pt_cmpR (op_ownNe T.ne_Ratio T.t_Ratio_eq.at_ T.t_Ratio_eq.fn T.om_Ratio (fn_Ratio_eq T) (hr.mono (by decide)) pcN) (pe_fn T.d_added (fn_added T) (hr.mono (by decide)) T.g_added pcN (pa_cons (pv 5) pa_nil)) (StX.pe_makeR T.m_Ratio (fn_RI1 T) (hr.mono (by decide)) rfl T.g_Ratio pcN (pa_cons (pe_int) pa_nil)) (nomark _))))))) (pss_one (L2N.ps_raise rfl (L2N.takes_of rfl rfl rfl rfl) (pmkN_BadPlan T (hr.mono (by decide)) (pa_cons (pv 2) pa_nil)))) (pss_nil))
      (pss_one (ND.ps_put hr.units (pe_fld (pv 0) rfl) (pv 4) (pe_callTy call_tuple_of (by rfl) T.f_tuple (by decide +kernel) (pa_cons (pv 5) pa_nil)) rfl)))))), ?_⟩
  refine fun t nt => ?_
  have htx : t ≠ x := fun z => by rw [z, hx] at nt; cases nt
  have hx1 := (upd_ne (H := H) (o := NDo P w t []) (ne_of_none hx nt)).trans hx
  have c0 := Stp.cell (ms := [t, x]) (o := NDo P w t []) e nt
  refine ⟨_, rfl, x, ga K "Plan", dx, [], rfl, hx1, T.c_Plan, T.a_Plan_table, (by show 0 < 1000; decide), ?_⟩
  have s0 : Stp [t, x] B (upd H t (NDo P w t [])) B (upd (upd H t (NDo P w t [])) x (.ins (ga K "Plan") dx [("table", .ref t)])) := Stp.put c0.in_ hb (by simp)
  have hbt : B t = none := ex_none e nt
  have hxt : upd H t (NDo P w t []) x = some (.ins (ga K "Plan") dx []) := hx1
  have nolist : ∀ m ∈ [t, x], ∀ xs, ¬ Rd (upd H t (NDo P w t [])) m (.lst xs) := by
    intro m hm xs
    simp only [List.mem_cons, List.not_mem_nil, or_false] at hm
    rcases hm with rfl | rfl
    · exact rd_ne upd_same ndo_ne.1 ndo_ne.2
    · exact rd_ne hxt (fun z => nomatch z) (fun _ z => nomatch z)
  have hs1 : SqL K (upd H t (NDo P w t [])) a vs := ex_l (Ex.new nt) hs
  have hp1 : Paired (EinAt K B (upd H t (NDo P w t []))) vs es := paired_mono hp fun v en ⟨q1, q2, q3, q4, h1, h2, h3, h4, h5⟩ => ⟨q1, q2, q3, q4, h1, h2, h3, ex_l (Ex.new nt) h4, h5⟩
  refine ⟨_, rfl, a, vs, rfl, sql_stp hs1 s0 (fun m hm => nolist m hm vs), for_it (walk_enum (xs := vs)) (fun i σ H' => ∃ (B' : Hp) (kvs : List NE) (u2 u3 u4 u5 u6 : Option V), Stp [t, x] B (upd H t (NDo P w t [])) B' H' ∧ H' t = some (NDo P w t kvs) ∧
      H' x = some (.ins (ga K "Plan") dx [("table", .ref t)]) ∧ TabAt K B' kvs (es.take i) ∧ planBad [] 0 es = planBad ((es.take i).map (·.1)) i (es.drop i) ∧ σ = [some (.ref x), some (.ref a), u2, u3, u4, u5, u6]) ?_ ?_ ?_ ?_⟩
  · exact ⟨B, [], none, none, none, none, none, s0, (upd_ne htx).trans upd_same, upd_same, .nil, rfl, rfl⟩
  · rintro i σ H' _ ⟨B', kvs, _, _, _, _, _, s1, _⟩
    exact sql_stp hs1 s1 fun m hm => nolist m hm vs
  · rintro i y σ H1 H2 hi ⟨B1, kvs, u2, u3, u4, u5, u6, s1, ht1, hx1', htab, hpb, rfl⟩ ⟨T0, y1, y2, rfl, nT0, rfl, ey1, ey2⟩
    cases ey1
    have hie : i < es.length := by rw [← Paired.length hp]; exact hi
    obtain ⟨en, hen, hin⟩ := paired_get hp1 ey2
    have hin1 := ein_stp hin s1 nolist
    obtain ⟨tt, b, l, ls, rfl, htt, hkb, hll, hrr⟩ := hin1
    have sT := Stp.cell (ms := [t, x]) (o := .tup [.int (i : Nat), .ref tt]) s1.in_ nT0
    have s2 := s1.trans sT
    have x12 : Ex H1 (upd H1 T0 (.tup [.int (i : Nat), .ref tt])) := Ex.new nT0
    refine ⟨T0, _, rfl, SqT.of upd_same, rfl, _, _, rfl, _, _, rfl, rfl, ?_⟩
    refine ⟨_, rfl, tt, _, rfl, ex_t s2.in_ htt, rfl, _, _, rfl, _, _, rfl, rfl, ?_⟩
    have ht2 := x12 _ _ ht1
    have hx2 := x12 _ _ hx1'
    have hl2 : SqL K (upd H1 T0 (.tup [.int (i : Nat), .ref tt])) l ls := ex_l x12 hll
    obtain ⟨hzl, hzq⟩ := hz en (List.mem_of_getElem? hen)
    have hdrop : es.drop i = en :: es.drop (i + 1) := by
      rw [List.drop_eq_getElem_cons hie]
      congr 1
      exact Option.some.inj ((List.getElem?_eq_getElem hie).symm.trans hen)
    have hbad : okE ((es.take i).map (·.1)) en = false → planBad [] 0 es = some i := fun z => by
      rw [hpb, hdrop]
      unfold planBad
      rw [z]
      rfl
    have hgood : okE ((es.take i).map (·.1)) en = true → planBad [] 0 es = planBad ((es.take (i + 1)).map (·.1)) (i + 1) (es.drop (i + 1)) := fun z => by
      rw [hpb, hdrop, List.take_add_one, hen]
      conv => lhs; unfold planBad
      rw [z, if_pos rfl, List.map_append]
      rfl
    -- the entry is wrong
    have raise : okE ((es.take i).map (·.1)) en = false → ∀ H4 d, Ex (upd H1 T0 (.tup [.int (i : Nat), .ref tt])) H4 → H4 d = none → E (.ref (ga K "BadPlan")) (some d) (upd H4 d (.xd [("at", .int (i : Nat))])) := fun z H4 d x4 nd4 => by
      have s4 := s2.trans (Stp.ofEx (ms := [t, x]) s2.in_ x4)
      have s5 := s4.trans (Stp.cell (ms := [t, x]) (o := .xd [("at", .int (i : Nat))]) s4.in_ nd4)
      refine kb i (hbad z) B1 _ d ?_ upd_same
      exact Stp.with nt s5

    dsimp only []
    refine q_when (et_or (a := decide (en.1 ∈ (es.take i).map (·.1))) (et_test ?_) fun c1 => et_or (a := en.2.isEmpty) ?_ fun c2 => et_or (a := en.2.any fun q => decide (q.num < 0)) (et_B ?_) fun c3 => et_test (b := !decide (sumR en.2 = 1)) ?_) (fun cb H4 x4 => ?_) (fun cb H4 x4 => ?_)
    · intro H3 x3 Q3 q3
      refine ⟨_, rfl, _, rfl, x, _, _, _, _, rfl, x3 _ _ hx2, T.c_Plan, T.a_Plan_table, rfl, ?_⟩
      refine ⟨t, b, en.1, kvs, rfl, rfl, .inl (x3 _ _ ht2), htab.ks.mono ((s2.in_).trans x3), hkb.mono ((s2.in_).trans x3), ?_⟩
      rw [htab.get en.1]
      exact q3 H3 (Ex.refl _)
    · intro H3 x3 Q3 q3
      refine ⟨_, rfl, !en.2.isEmpty, .inl ⟨ls, ex_l x3 hl2, ?_⟩, ?_⟩
      · exact (congrArg (!·) (emp_len (Paired.length hrr))).symm
      · show Q3 (!(!en.2.isEmpty)) H3
        rw [Bool.not_not]
        exact q3 H3 (Ex.refl _)
    · intro H3 x3 Q3 q3
      refine ⟨_, rfl, l, rfl, ⟨ls, ex_l x3 hl2⟩, fun D nD => lc_it (n := ls.length) (walk_list (xs := ls)) (fun j H' => H' = upd H3 D (.lst ((en.2.take j).map fun q => V.bl (decide (q.num < 0))))) rfl (fun j H' _ z => by rw [z]; exact ex_l (x3.trans (Ex.new nD)) hl2) ?_ ?_⟩
      · rintro j y H5 H6 hj rfl ⟨rfl, hy⟩
        obtain ⟨q, hq1, hq2⟩ := paired_get hrr hy
        have hq3 := hq2.mono ((s2.in_).trans (x3.trans (Ex.new nD (o := .lst ((en.2.take j).map fun q => V.bl (decide (q.num < 0)))))))
        obtain ⟨ra, rdx, rfl, hra⟩ := hq3
        have hj2 : j < en.2.length := by rw [← Paired.length hrr]; exact hj
        refine ⟨rfl, yes_if ?_⟩
        refine ⟨_, rfl, ra, _, _, _, _, rfl, hra, T.c_Ratio, T.a_Ratio_num, rf_num _ _, _, _, rfl, rfl, _, upd_same, ?_, ?_⟩
        · rw [List.length_map, List.length_take]
          have := Nat.le_mul_of_pos_right en.2.length (show 0 < j0 + 1 from Nat.succ_pos _)
          have : (100000 : Nat) < sizeLine := by decide
          omega
        · rw [upd_twice, List.take_add_one, hq1, List.map_append]
          rfl
      · rintro H5 rfl
        rw [Paired.length hrr, List.take_length]
        refine ⟨D, en.2.map fun q => decide (q.num < 0), rfl, SqL.of (by rw [List.map_map]; exact upd_same), ?_⟩
        rw [List.any_map]
        exact q3 _ (Ex.new nD)
    · intro H3 x3 Q3 q3
      refine ⟨_, rfl, l, ls, en.2, j0, rfl, ex_l x3 hl2, rats_mono hrr ((s2.in_).trans x3), hzq, hzl, hj, fun v1 H5 x5 r1 => ?_⟩
      refine mk_ratio (n := 1) (d := 1) (Q := fun y H2 => rOwnNe (ga K "Ratio") (spEqR K) (fun _ _ _ => False) v1 y H2 Q3) (E := fun _ _ _ => False) (by decide) (by decide) fun v2 H6 x6 r2 => ?_
      obtain ⟨c1', dz1, rfl, hc1⟩ := r1.mono x6
      obtain ⟨c2', dz2, rfl, hc2⟩ := id r2
      refine ⟨c1', dz1, _, c2', dz2, _, rfl, rfl, hc1, hc2, _, _, _, _, rfl, ⟨c1', dz1, rfl, hc1⟩, r2, fun H7 x7 => ⟨_, rfl, ?_⟩⟩
      rw [show mkRat 1 (1 : Int).toNat = 1 from by decide +kernel]
      exact q3 H7 ((x5.trans x6).trans x7)
    · have hno : okE ((es.take i).map (·.1)) en = false := by
        unfold okE
        rw [all_any]
        revert cb
        generalize decide (en.1 ∈ (es.take i).map (·.1)) = b1
        generalize en.2.isEmpty = b2
        generalize (en.2.any fun q => decide (q.num < 0)) = b3
        generalize decide (sumR en.2 = 1) = b4
        revert b1 b2 b3 b4
        decide
      exact ⟨_, rfl, _, rfl, fun d nd4 => raise hno H4 d x4 nd4⟩
    · have hyes : okE ((es.take i).map (·.1)) en = true := by
        unfold okE
        rw [all_any]
        revert cb
        generalize decide (en.1 ∈ (es.take i).map (·.1)) = b1
        generalize en.2.isEmpty = b2
        generalize (en.2.any fun q => decide (q.num < 0)) = b3
        generalize decide (sumR en.2 = 1) = b4
        revert b1 b2 b3 b4
        decide
      have hnew : nGet kvs en.1 = none := by
        have z := htab.get en.1
        have y : decide (en.1 ∈ (es.take i).map (·.1)) = false := by
          unfold okE at hyes
          revert hyes
          cases decide (en.1 ∈ (es.take i).map (·.1)) with
          | false => exact fun _ => rfl
          | true => exact fun h => nomatch h
        rw [y] at z
        cases hz : nGet kvs en.1 with
        | none => rfl
        | some v => rw [hz] at z; cases z
      have s4 := s2.trans (Stp.ofEx (ms := [t, x]) s2.in_ x4)
      refine ⟨_, rfl, l, ls, rfl, .inl ⟨ex_l x4 hl2, fun u nu => ?_⟩⟩
      have s5 := s4.trans (Stp.new (ms := [t, x]) (o := .tup ls) s4.in_ nu)
      have xu : Ex H4 (upd H4 u (.tup ls)) := Ex.new nu
      have ht5 := xu _ _ (x4 _ _ ht2)
      have hx5 := xu _ _ (x4 _ _ hx2)
      have hu5 : (upd B1 u (HO.tup ls)) u = some (.tup ls) := upd_same
      refine ⟨_, rfl, x, _, _, _, _, rfl, hx5, T.c_Plan, T.a_Plan_table, rfl, ?_⟩
      refine ⟨_, rfl, t, b, en.1, kvs, rfl, rfl, ht5, htab.ks.mono (s2.in_.trans (x4.trans xu)), hkb.mono (s2.in_.trans (x4.trans xu)), ?_, ?_⟩
      · have h1 := htab.len
        rw [List.length_take] at h1
        have : (100000 : Nat) < sizeLine := by decide
        omega
      · have s6 := s5.trans (Stp.put (ms := [t, x]) (o := NDo P w t (nPut kvs en.1 b (.ref u))) s5.in_ (s5.off hbt upd_same) (.head _))
        refine ⟨_, _, _, _, _, _, _, s6, upd_same, (upd_ne (Ne.symm htx)).trans hx5, ?_, hgood hyes, rfl⟩
        rw [nPut_new hnew, List.take_add_one, hen]
        have bu : B1 u = none := ex_none s4.in_ nu
        refine tab_add (htab.mono (Ex.new bu)) rfl (hkb.mono (Ex.new bu)) ⟨u, ls, rfl, st_of hu5, rats_mono hrr (Ex.new bu)⟩
  · rintro σ H2 ⟨B2, kvs, u2, u3, u4, u5, u6, s2, ht2, hx2, htab, hpb, rfl⟩
    have hvl : vs.length = es.length := Paired.length hp
    rw [hvl, List.take_length] at htab
    rw [hvl, List.drop_length] at hpb
    have s3 := Stp.close e nt s2 ht2
    have hb2 : B2 t = none := s2.off hbt upd_same
    refine kg hpb (upd B2 t (NDo P w t kvs)) H2 t kvs s3 hx2 upd_same (htab.mono (Ex.new hb2))
end
end LL
namespace LL
open PySem PySem.Spec PyProof.Rows L2 He Evl ND
section
variable {w : World} {K : PySem.W.Frag} {mg : Str → Option Value} {base : Heap}
/-- Plan(entries), any entries -/
theorem make_planG {B H : Hp} {a : Addr} {vs : List V} {es : List Ent} {k : Nat} {Q : VK} {E : XK} (eb : Ex B H) (hs : SqL K H a vs) (hp : Paired (EinAt K B H) vs es) (hl : es.length ≤ 1000) (hk : 1 ≤ k ∧ k ≤ 1000) (hz : ∀ e ∈ es, 1 + e.2.length * (k + 1) ≤ 8000 ∧ ∀ q ∈ e.2, Sz k q)
    (kq : planBad [] 0 es = none → ∀ x H2, H x = none → Ex H H2 → PlanAt w K H2 (.ref x) es → Q (.ref x) H2) (kb : ∀ i, planBad [] 0 es = some i → ∀ d H2, Ex H H2 → E (.ref (ga K "BadPlan")) (some d) H2) :
    ∀ x dx, H x = none → H dx = none → dx ≠ x → spPI w K [.ref x, .ref a] (upd (upd H dx (.own x)) x (.ins (ga K "Plan") dx [])) (fun v H2 => v = .non ∧ Q (.ref x) H2) E := by
  intro x dx nx ndx hne
  have e1 : Ex H (upd H dx (.own x)) := Ex.new ndx
  have nx1 : (upd H dx (.own x)) x = none := (upd_ne (Ne.symm hne)).trans nx
  have e2 : Ex (upd H dx (.own x)) (upd (upd H dx (.own x)) x (.ins (ga K "Plan") dx [])) := Ex.new nx1
  have out : ∀ {B2 H2 : Hp}, Stp [x] B (upd (upd H dx (.own x)) x (.ins (ga K "Plan") dx [])) B2 H2 → Ex H H2 := fun s => by
    have s0 := Stp.with (ms := []) nx1 s
    exact fun b o hb => s0.fr b o (fun h => nomatch h) (e1 b o hb)
  exact ⟨B, x, dx, a, vs, es, k, rfl, eb.trans (e1.trans e2), ex_none eb nx, upd_same, ex_l (e1.trans e2) hs, paired_mono hp fun v en ⟨q1, q2, q3, q4, h1, h2, h3, h4, h5⟩ => ⟨q1, q2, q3, q4, h1, h2, h3, ex_l (e1.trans e2) h4, h5⟩, hl, hk, hz,
    fun hok B2 H2 t kvs s hx2 ht htab => ⟨rfl, kq hok x H2 nx (out s) ⟨x, dx, t, kvs, rfl, hx2, s.in_ _ _ ht, htab.mono s.in_⟩⟩, fun i hi B2 H2 d s hd => kb i hi d H2 (out s)⟩
/-- checked(entries, at): the plan, or BadPaper(at) -/
def spChkG (w : World) (K : PySem.W.Frag) : Sp := fun us H Q E => ∃ (B : Hp) (a : Addr) (i : Int) (vs : List V) (es : List Ent) (k : Nat), us = [.ref a, .int i] ∧ Ex B H ∧ SqL K H a vs ∧ Paired (EinAt K B H) vs es ∧ es.length ≤ 1000 ∧ (1 ≤ k ∧ k ≤ 1000) ∧ (∀ e ∈ es, 1 + e.2.length * (k + 1) ≤ 8000 ∧ ∀ q ∈ e.2, Sz k q) ∧
  (planBad [] 0 es = none → ∀ x H2, Ex H H2 → PlanAt w K H2 (.ref x) es → Q (.ref x) H2) ∧
  (∀ j, planBad [] 0 es = some j → ∀ H2 d, Ex H H2 → H d = none → H2 d = some (.xd [("at", .int i)]) → E (.ref (ga K "BadPaper")) (some d) H2)
theorem fn_checkedG (T : Txt K mg) : Fn P w K mg base 13 (ga K "checked") (spChkG w K) := by
  refine fn_def T.d_checked sc_checked (fun _ _ _ _ _ _ us hl => match us, hl with | [_, _], _ => rfl) (fun vs H Q E h => ?_) (fun cdv A outer s H vs Q E hr h => ?_)
  · obtain ⟨_, _, _, _, _, _, rfl, _⟩ := h
    rfl
  obtain ⟨B, a, i, vs, es, j, rfl, eb, hs, hp, hl, hj, hz, kg, kb⟩ := h
  have nd := sc_checked.nd
  refine ⟨_, pss_one (L2H.ps_try_onlyX (Wout := fun cls d _ H => E cls d H) rfl rfl ⟨rfl, by decide, Or.inl T.g_BadPlan⟩ (fun hd => L2H.passesAt_of rfl hd) (takes_of rfl rfl rfl rfl)
    (fun W pn xe tk1 tk2 po => pss_one (ps_ret (pe_makeRS T.m_Plan (fn_Plan_initN (w := w) (base := base) T) (hr.mono (by decide)) rfl T.g_Plan (fun σ => L2N.passAt tk1 σ) (pa_cons (pv 0) pa_nil))))
    (fun a oe cls d pn hz hf tk2 hc2 => pss_one (L2H.ps_raiseH hc2 tk2 (pmkH_BadPaper T (L2H.roomH_mark (hr.mono (by decide)) _) (pa_cons (pv 1) pa_nil))))), ?_⟩
  refine ⟨_, rfl, make_planG (Q := Q) eb hs hp hl hj hz (fun hok x H2 _ e2 hp2 => kg hok x H2 e2 hp2) (fun jx hb d H2 e2 => ?_)⟩
  exact ⟨true, T.em_BadPlan_BadPlan, fun _ a' na => ⟨_, rfl, _, rfl, fun d2 nd2 => kb jx hb _ d2 (e2.trans (Ex.new nd2)) (fresh_back e2 nd2) upd_same⟩, fun h => Bool.noConfusion h⟩
end
end LL
namespace LL
open PySem PySem.Spec PyProof.Rows L2 He Evl ND
/-! ### entries as data -/
theorem datas_nums : ∀ ns : List Nat, NestedKey.datas (ns.map fun n => .num (n : Nat)) = ns.map fun n => PyData.int (n : Nat)
  | [] => rfl
  | n :: ns => by rw [List.map_cons, NestedKey.datas, NestedKey.data, datas_nums ns]; rfl
def evD (e : Evt) : PyData := .tuple (.str e.1 :: e.2.map fun n => .int (n : Nat))
theorem ev_data (e : Evt) : (evK e).data = evD e := by
  unfold evK evD
  rw [NestedKey.data, NestedKey.datas, NestedKey.data, datas_nums]
def viewD (v : List Evt) : PyData := .tuple (v.map evD)
theorem datas_evs : ∀ v : List Evt, NestedKey.datas (v.map evK) = v.map evD
  | [] => rfl
  | e :: v => by rw [List.map_cons, NestedKey.datas, ev_data, datas_evs v]; rfl
theorem view_data (v : List Evt) : (viewK v).data = viewD v := by
  unfold viewK viewD
  rw [NestedKey.data, datas_evs]
theorem eqv_nums : ∀ ns ms : List Nat, PyData.eqvAll (ns.map fun n => .int (n : Nat)) (ms.map fun n => .int (n : Nat)) = decide (ns = ms)
  | [], [] => by simp [PyData.eqvAll]
  | [], _ :: _ => by simp [PyData.eqvAll]
  | _ :: _, [] => by simp [PyData.eqvAll]
  | n :: ns, m :: ms => by
    rw [List.map_cons, List.map_cons, PyData.eqvAll, eqv_nums ns ms, PyData.eqv]
    by_cases h : n = m
    · subst h; simp
    · have : ((n : Int) == (m : Int)) = false := by simpa using (fun z : (n : Int) = m => h (by omega))
      rw [this, Bool.false_and, decide_eq_false fun z => h (List.cons.inj z).1]
theorem eqv_ev (e f : Evt) : PyData.eqv (evD e) (evD f) = decide (e = f) := by
  obtain ⟨x, ns⟩ := e
  obtain ⟨y, ms⟩ := f
  unfold evD
  rw [PyData.eqv, PyData.eqvAll, PyData.eqv, eqv_nums]
  by_cases h : x = y
  · subst h; simp
  · have : (x == y) = false := by simpa using h
    rw [this, Bool.false_and, decide_eq_false fun z => h (Prod.ext_iff.mp z).1]
theorem eqv_evs : ∀ v u : List Evt, PyData.eqvAll (v.map evD) (u.map evD) = decide (v = u)
  | [], [] => by simp [PyData.eqvAll]
  | [], _ :: _ => by simp [PyData.eqvAll]
  | _ :: _, [] => by simp [PyData.eqvAll]
  | e :: v, f :: u => by
    rw [List.map_cons, List.map_cons, PyData.eqvAll, eqv_ev, eqv_evs v u]
    by_cases h : e = f
    · subst h; simp
    · rw [decide_eq_false h, Bool.false_and, decide_eq_false fun z => h (List.cons.inj z).1]
theorem eqv_view (v u : List Evt) : PyData.eqv (viewD v) (viewD u) = decide (v = u) := by
  unfold viewD
  rw [PyData.eqv, eqv_evs]
theorem viewK_inj {v u : List Evt} (h : viewK v = viewK u) : v = u := by
  have e := congrArg NestedKey.data h
  rw [view_data, view_data] at e
  have := eqv_evs v u
  rw [(PyData.tuple.inj e)] at this
  have r := eqv_evs u u
  rw [r, decide_eq_true rfl] at this
  exact of_decide_eq_true this.symm
theorem str_lay {x : Str} {c : Nat} (h : evCount x = some c) : (PyData.str x).canLay0 = true := by
  rcases evCount_kind h with ⟨rfl, _⟩ | ⟨rfl, _⟩ | ⟨rfl, _⟩ <;> decide +kernel
theorem nums_lay : ∀ ns : List Nat, PyData.canLayAll0 (ns.map fun n => .int (n : Nat)) = true
  | [] => rfl
  | n :: ns => by rw [List.map_cons, PyData.canLayAll0, nums_lay ns]; rfl
theorem nums_depth : ∀ ns : List Nat, PyData.depthAll (ns.map fun n => .int (n : Nat)) = 0
  | [] => rfl
  | n :: ns => by rw [List.map_cons, PyData.depthAll, nums_depth ns]; rfl
theorem ev_lay {e : Evt} (h : EvOk e) : (evD e).canLay0 = true ∧ (evD e).depth = 1 := by
  unfold evD
  constructor
  · rw [PyData.canLay0, PyData.canLayAll0, str_lay h.1, nums_lay]; rfl
  · rw [PyData.depth, PyData.depthAll, nums_depth]; rfl
theorem evs_lay : ∀ {v : List Evt}, (∀ e ∈ v, EvOk e) → PyData.canLayAll0 (v.map evD) = true ∧ PyData.depthAll (v.map evD) ≤ 1
  | [], _ => ⟨rfl, Nat.zero_le _⟩
  | e :: v, h => by
    obtain ⟨h1, h2⟩ := ev_lay (h e (.head _))
    obtain ⟨h3, h4⟩ := evs_lay (v := v) fun x hx => h x (.tail _ hx)
    rw [List.map_cons, PyData.canLayAll0, h1, h3, PyData.depthAll, h2]
    exact ⟨rfl, by omega⟩
theorem view_lay {v : List Evt} (h : ∀ e ∈ v, EvOk e) : (viewD v).canLay0 = true ∧ (viewD v).depth ≤ 2 := by
  obtain ⟨h1, h2⟩ := evs_lay h
  unfold viewD
  rw [PyData.canLay0, PyData.depth]
  exact ⟨h1, by omega⟩
theorem all_lay {k : Nat} : ∀ {ds : List PyData}, (∀ d ∈ ds, d.canLay0 = true ∧ d.depth ≤ k) → PyData.canLayAll0 ds = true ∧ PyData.depthAll ds ≤ k
  | [], _ => ⟨rfl, Nat.zero_le _⟩
  | d :: ds, h => by
    obtain ⟨h1, h2⟩ := h d (.head _)
    obtain ⟨h3, h4⟩ := all_lay (ds := ds) fun x hx => h x (.tail _ hx)
    rw [PyData.canLayAll0, h1, h3, PyData.depthAll]
    exact ⟨rfl, by omega⟩
theorem shaped_of {d : PyData} (h : d.canLay0 = true ∧ d.depth ≤ 64) : SeqAt.shaped d = true := by
  unfold SeqAt.shaped
  rw [h.1, decide_eq_true h.2]
  rfl
theorem list_shaped {k : Nat} {ds : List PyData} (h : ∀ d ∈ ds, d.canLay0 = true ∧ d.depth ≤ k) (hk : k < 64) : SeqAt.shaped (.list ds) = true := by
  obtain ⟨h1, h2⟩ := all_lay h
  refine shaped_of ⟨?_, ?_⟩
  · rw [PyData.canLay0]; exact h1
  · rw [PyData.depth]; omega
/-- an entry of the law as data -/
def entD (p : PE) : PyData := .tuple [viewD p.1, .list (p.2.map fun q => .tuple [.int q.num, .int (q.den : Int)])]
theorem ent_lay {p : PE} (h : ∀ e ∈ p.1, EvOk e) : (entD p).canLay0 = true ∧ (entD p).depth ≤ 4 := by
  obtain ⟨h1, h2⟩ := view_lay h
  obtain ⟨h3, h4⟩ := all_lay (k := 1) (ds := p.2.map fun q => .tuple [.int q.num, .int (q.den : Int)]) fun d hd => by
    obtain ⟨q, _, rfl⟩ := List.mem_map.mp hd
    exact ⟨rfl, by simp [PyData.depth, PyData.depthAll]⟩
  unfold entD
  constructor
  · rw [PyData.canLay0, PyData.canLayAll0, PyData.canLayAll0, PyData.canLayAll0, h1, PyData.canLay0, h3]; rfl
  · rw [PyData.depth, PyData.depthAll, PyData.depthAll, PyData.depthAll, PyData.depth]
    omega
theorem in_views {v : List Evt} {ps : List PE} : ((ps.map fun p => viewD p.1).any fun z => PyData.eqv z (viewD v)) = decide (v ∈ ps.map (·.1)) := by
  rw [Bool.eq_iff_iff, List.any_map, List.any_eq_true, decide_eq_true_iff, List.mem_map]
  constructor
  · rintro ⟨p, hp, h⟩
    rw [Function.comp_apply, eqv_view] at h
    exact ⟨p, hp, of_decide_eq_true h⟩
  · rintro ⟨p, hp, rfl⟩
    exact ⟨p, hp, by rw [Function.comp_apply, eqv_view]; simp⟩
def LowW (x : Str) : Prop := ∀ c ∈ x.cps.toList, c < 1114112
theorem num_low {x : Str} {n : Nat} (h : Num x n) : LowW x := fun c hc => by have := h.dig c hc; omega
theorem rat_low {q : Rat} (h : QOk q) : LowW (ratStr q) := by
  have hn : Num (istr q.num) q.num.toNat := ⟨by rw [Int.toNat_of_nonneg h.1], by have := h.1; have := h.2.1; omega⟩
  have hd : Num (istr (q.den : Int)) q.den := ⟨rfl, h.2.2⟩
  unfold ratStr
  split
  · exact num_low hn
  · intro c z
    have z : c ∈ TL.tl (Str.ofString (toString q.num) ++ Str.ofString "/" ++ Str.ofString (toString (q.den : Int))) := z
    rw [TL.tl_append, TL.tl_append] at z
    rcases List.mem_append.mp z with z | z
    · rcases List.mem_append.mp z with z | z
      · exact num_low hn c z
      · have : c = 47 := List.mem_singleton.mp (show c ∈ [47] from z)
        omega
    · exact num_low hd c z
theorem kind_low {x : Str} {c : Nat} (h : evCount x = some c) : LowW x := by
  rcases evCount_kind h with ⟨rfl, _⟩ | ⟨rfl, _⟩ | ⟨rfl, _⟩
  · exact (by decide : ∀ c ∈ ("shown" : Str).cps.toList, c < 1114112)
  · exact (by decide : ∀ c ∈ ("asked" : Str).cps.toList, c < 1114112)
  · exact (by decide : ∀ c ∈ ("did" : Str).cps.toList, c < 1114112)
theorem lineW_low {p : PE} (h : POk p) : ∀ x ∈ lineW p, LowW x := by
  intro x hx
  unfold lineW at hx
  rcases List.mem_append.mp hx with hx | hx
  · rcases List.mem_append.mp hx with hx | hx
    · rcases List.mem_cons.mp hx with rfl | hx
      · exact (by decide : ∀ c ∈ ("at" : Str).cps.toList, c < 1114112)
      · obtain ⟨e, he, hx⟩ := List.mem_flatMap.mp hx
        rcases List.mem_cons.mp hx with rfl | hx
        · exact kind_low (h.2.1 e he).1
        · obtain ⟨n, hn, rfl⟩ := List.mem_map.mp hx
          exact num_low (n := n) ⟨rfl, (h.2.1 e he).2 n hn⟩
    · rcases List.mem_singleton.mp hx with rfl
      exact (by decide : ∀ c ∈ ("do" : Str).cps.toList, c < 1114112)
  · obtain ⟨q, hq, rfl⟩ := List.mem_map.mp hx
    exact rat_low (h.2.2.2 q hq)
theorem joinL_mem {S : List Nat} {c : Nat} : ∀ {L : List (List Nat)}, c ∈ TL.joinL S L → c ∈ S ∨ ∃ p ∈ L, c ∈ p
  | [], h => by cases h
  | [p], h => .inr ⟨p, .head _, h⟩
  | p :: q :: r, h => by
    have h : c ∈ p ++ (S ++ TL.joinL S (q :: r)) := h
    rcases List.mem_append.mp h with h | h
    · exact .inr ⟨p, .head _, h⟩
    · rcases List.mem_append.mp h with h | h
      · exact .inl h
      · rcases joinL_mem h with h | ⟨x, hx, h⟩
        · exact .inl h
        · exact .inr ⟨x, .tail _ hx, h⟩
theorem line_lay {p : PE} (h : POk p) : (PyData.str (lineT p)).canLay0 = true := by
  have hall : ∀ c ∈ (lineT p).cps.toList, c < 1114112 := by
    intro c hc
    have hc : c ∈ TL.tl (lineT p) := hc
    unfold lineT at hc
    rw [TL.join_eq, TL.tl_join] at hc
    rcases joinL_mem hc with hc | ⟨x, hx, hc⟩
    · have : c = 32 := List.mem_singleton.mp (show c ∈ [32] from hc)
      omega
    · obtain ⟨y, hy, rfl⟩ := List.mem_map.mp hx
      exact lineW_low h y hy c hc
  rw [PyData.canLay0]
  show (lineT p).cps.all (· < 0x110000) = true
  rw [← Array.all_toList]
  exact List.all_eq_true.mpr fun c hc => decide_eq_true (hall c hc)
end LL
namespace LL
open PySem PySem.Spec PyProof.Rows L2 He Evl ND
/-! ### a line taken apart -/
theorem first_do : ∀ {W : List Str}, ("do" : Str) ∈ W → ∃ m : Nat, W[m]? = some ("do" : Str) ∧ ∀ j, j < m → W[j]? ≠ some ("do" : Str)
  | x :: W, h => by
    by_cases z : x = ("do" : Str)
    · exact ⟨0, by rw [z]; rfl, fun j hj => by omega⟩
    · rcases List.mem_cons.mp h with h | h
      · exact absurd h.symm z
      · obtain ⟨m, h1, h2⟩ := first_do h
        refine ⟨m + 1, h1, fun j hj => ?_⟩
        cases j with
        | zero => exact fun y => z (Option.some.inj y)
        | succ j => exact h2 j (by omega)
theorem line_cut {W : List Str} {m : Nat} (h0 : W[0]? = some ("at" : Str)) (hm : W[m]? = some ("do" : Str)) : 1 ≤ m ∧ W = ((("at" : Str) :: (W.drop 1).take (m - 1)) ++ [("do" : Str)]) ++ W.drop (m + 1) := by
  cases W with
  | nil => cases h0
  | cons x W =>
    cases (Option.some.inj h0)
    cases m with
    | zero => exact absurd (Option.some.inj hm) (by decide)
    | succ m =>
      refine ⟨by omega, ?_⟩
      have hm' : W[m]? = some ("do" : Str) := hm
      obtain ⟨hl, he⟩ := List.getElem?_eq_some_iff.mp hm'
      show _ :: W = ((("at" : Str) :: (W.take m)) ++ [("do" : Str)]) ++ W.drop (m + 1)
      rw [List.cons_append, List.cons_append, List.append_assoc, List.singleton_append]
      congr 1
      have : W.drop m = ("do" : Str) :: W.drop (m + 1) := by rw [List.drop_eq_getElem_cons hl, he]
      rw [← this, List.take_append_drop]
/-- the parts of a line are told by its first do -/
theorem line_do {p : PE} {m : Nat} (hp : POk p) (hm : (lineW p)[m]? = some ("do" : Str)) (hb : ∀ j, j < m → (lineW p)[j]? ≠ some ("do" : Str)) : m = (viewW p.1).length + 1 ∧ ((lineW p).drop 1).take (m - 1) = viewW p.1 ∧ (lineW p).drop (m + 1) = p.2.map ratStr := by
  have hk : (lineW p)[(viewW p.1).length + 1]? = some ("do" : Str) := by unfold lineW; simp
  have e : m = (viewW p.1).length + 1 := by
    rcases Nat.lt_trichotomy m ((viewW p.1).length + 1) with h | h | h
    · exfalso
      unfold lineW at hm
      rw [List.getElem?_append_left (by rw [List.length_append, List.length_cons, List.length_singleton]; omega), List.getElem?_append_left (by rw [List.length_cons]; omega)] at hm
      rcases List.mem_cons.mp (List.mem_of_getElem? hm) with z | z
      · exact absurd z (by decide)
      · exact view_do hp.2.1 z
    · exact h
    · exact absurd hk (hb _ h)
  subst e
  refine ⟨rfl, ?_, ?_⟩
  · unfold lineW; simp
  · unfold lineW
    rw [List.drop_left' (by rw [List.length_append, List.length_cons, List.length_singleton])]
open Classical in
/-- what read_ratio gives -/
noncomputable def ratO (x : Str) : Option Rat := if h : ∃ q, RatTxt x q then some h.choose else none
theorem ratO_some {x : Str} {q : Rat} (h : RatTxt x q) : ratO x = some q := by
  unfold ratO
  have h' : ∃ q, RatTxt x q := ⟨q, h⟩
  rw [dif_pos h', ratTxt_inj h'.choose_spec h]
theorem ratO_none {x : Str} (h : ∀ q, ¬ RatTxt x q) : ratO x = none := by
  unfold ratO
  rw [dif_neg fun ⟨q, hq⟩ => h q hq]
theorem lots_good : ∀ {ws : List Str}, ((ws.map ratO).any Option.isNone) = false → ∃ qs : List Rat, ws = qs.map ratStr ∧ (∀ q ∈ qs, QOk q) ∧ ws.map ratO = qs.map some
  | [], _ => ⟨[], rfl, (fun _ h => nomatch h), rfl⟩
  | x :: ws, h => by
    rw [List.map_cons, List.any_cons, Bool.or_eq_false_iff] at h
    obtain ⟨qs, h1, h2, h3⟩ := lots_good h.2
    by_cases z : ∃ q, RatTxt x q
    · obtain ⟨q, hq⟩ := z
      refine ⟨q :: qs, by rw [List.map_cons, ← h1, hq.2.2.2], fun y hy => ?_, by rw [List.map_cons, List.map_cons, h3, ratO_some hq]⟩
      rcases List.mem_cons.mp hy with rfl | hy
      · exact ⟨hq.1, hq.2.1, hq.2.2.1⟩
      · exact h2 y hy
    · rw [ratO_none fun q hq => z ⟨q, hq⟩] at h
      exact absurd h.1 (by decide)
theorem lots_bad {ws : List Str} (h : ((ws.map ratO).any Option.isNone) = true) {qs : List Rat} (hq : ∀ q ∈ qs, QOk q) : ws ≠ qs.map ratStr := by
  rintro rfl
  rw [List.any_map, List.any_eq_true] at h
  obtain ⟨x, hx, h⟩ := h
  obtain ⟨q, hq2, rfl⟩ := List.mem_map.mp hx
  rw [Function.comp_apply, ratO_some (hq q hq2).txt] at h
  cases h
theorem viewW_two : ∀ {v : List Evt}, (∀ e ∈ v, EvOk e) → 2 * v.length ≤ (viewW v).length
  | [], _ => Nat.zero_le _
  | e :: v, h => by
    have h1 := (h e (.head _)).len
    have h2 := viewW_two (v := v) fun x hx => h x (.tail _ hx)
    show _ ≤ (evW e ++ viewW v).length
    rw [List.length_append, List.length_cons]
    have : (evW e).length = e.2.length + 1 := by simp [evW]
    omega
end LL
namespace LL
open PySem PySem.Spec PyProof.Rows L2 He Evl ND
section
variable {w : World} {K : PySem.W.Frag} {mg : Str → Option Value} {base : Heap}
theorem or_btx {c : Addr} {H H' : Hp} {x : V} {o : Option Rat} {ys : List V} (h : Btx c H H') (hc : H c = some (.lst ys)) (g : OrAt K H x o) : OrAt K H' x o := by
  cases o with
  | none => exact g
  | some q => exact rat_btx h hc g
theorem ent_szG {p : PE} (h : POk p ∧ p.2.length ≤ 39) : 1 + (entE p).2.length * (200 + 1) ≤ 8000 ∧ ∀ q ∈ (entE p).2, Sz 200 q := by
  refine ⟨?_, fun q hq => (h.1.2.2.2 q hq).sz⟩
  have := Nat.mul_le_mul_right 201 h.2
  show 1 + p.2.length * 201 ≤ 8000
  omega
variable (W : TabW w K)
include W
/-- read_plan of any lines -/
def spReadG (w : World) (K : PySem.W.Frag) : Sp := fun us H Q E => ∃ (a : Addr) (ls : List Str), us = [.ref a] ∧ SqL K H a (ls.map V.str) ∧ ls.length ≤ 1000 ∧ (∀ l ∈ ls, l.length ≤ 60000 ∧ (Txt.split l " ").length ≤ 40 ∧ ∀ x ∈ Txt.split l " ", x.length ≤ 1000) ∧
  (∀ ps : List PE, ls.map (Txt.split · " ") = ps.map lineW → (∀ p ∈ ps, POk p) → planBad [] 0 (ps.map entE) = none → ∀ x H2, Ex H H2 → PlanAt w K H2 (.ref x) (ps.map entE) → Q (.ref x) H2) ∧
  (∀ (i : Nat) (l : Str) (ps : List PE), ls[i]? = some l → (ls.take i).map (Txt.split · " ") = ps.map lineW → (∀ p ∈ ps, POk p) → planBad [] 0 (ps.map entE) = none →
    ((∀ p, POk p → Txt.split l " " ≠ lineW p) ∨ ∃ p, POk p ∧ Txt.split l " " = lineW p ∧ planBad [] 0 ((ps ++ [p]).map entE) ≠ none) → ∀ H2 d, Ex H H2 → H d = none → H2 d = some (.xd [("at", .int (i : Nat))]) → E (.ref (ga K "BadPaper")) (some d) H2)
theorem fn_read_planG (T : Txt K mg) : Fn P w K mg base 14 (ga K "read_plan") (spReadG w K) := by
  refine fn_def T.d_read_plan sc_read_plan (fun _ _ _ _ _ _ us hl => match us, hl with | [_], _ => rfl) (fun vs H Q E h => ?_) (fun cdv A outer s H vs Q E hr h => ?_)
  · obtain ⟨_, _, rfl, _⟩ := h
    rfl
  obtain ⟨a, ls, rfl, ha, hl, hls, kg, kb⟩ := h
  have nd := sc_read_plan.nd
  refine ⟨_, pss_cons (ps_set (i := 1) nd rfl (by first | exact Or.inl rfl | exact Or.inr rfl) (pe_lst pa_nil))
      (pss_cons (ps_for (passes_of rfl) rfl (pi_enum (by rfl) T.f_enumerate (pa_cons (pv 0) pa_nil)) (pg_tup rfl (pgs_cons (pg_name (i := 2) nd rfl (by first | exact Or.inl rfl | exact Or.inr rfl)) (pgs_cons (pg_name (i := 3) nd rfl (by first | exact Or.inl rfl | exact Or.inr rfl)) pgs_nil))) (pss_cons (ps_set (i := 4) nd rfl (by first | exact Or.inl rfl | exact Or.inr rfl) (pe_split (pv 3) (pe_str)))
      (pss_cons (ps_if (PW.pt (pw_or (pt_cmpR op_ne (pe_ix ix_list (pv 4) (pe_int) (fun _ _ => rfl)) (pe_str) (nomark _)) (pw_or1 (pt_cmpR op_notIn_seq (pe_str) (pv 4) rfl)))) (pss_one (ps_raise rfl (takes_of rfl rfl rfl rfl) (pmk_BadPaper T (hr.mono (by decide)) (pa_cons (pv 2) pa_nil)))) (pss_nil))
      (pss_cons (ps_set (i := 5) nd rfl (by first | exact Or.inl rfl | exact Or.inr rfl) (pe_bm PySem.F.plainAttrs_list PySem.F.slot_list_index PySem.F.type_list_index mt_index (pv 4) (pa_cons (pe_str) pa_nil)))
      (pss_cons (ps_set (i := 6) nd rfl (by first | exact Or.inl rfl | exact Or.inr rfl) (pe_fn T.d_read_view (fn_read_view W T) (hr.mono (by decide)) T.g_read_view pc (pa_cons (pe_slice sl_list (pv 4) (po_some (pe_int)) (po_some (pv 5))) (pa_cons (pv 2) pa_nil))))
      (pss_cons (ps_setLc (i := 8) (own := [("word", 7)]) (g := gName 7) (tt := tYes) rfl nd rfl rfl (sw_true rfl rfl rfl (by decide +kernel)) (pi_list (pe_slice sl_list (pv 4) (po_some (pe_op op_add (pv 5) (pe_int))) po_none)) (blkOk_by (N := n_read_plan) (sc := defScope s_read_plan) (by decide +kernel)) (fun _ _ _ _ _ => pg_name (i := 7) nd rfl (by first | exact Or.inl rfl | exact Or.inr rfl)) (fun _ _ _ _ _ => pts_nil) (fun _ _ _ _ _ => pe_fn T.d_read_ratio (fn_read_ratio T) (hr.mono (by decide)) T.g_read_ratio pcN (pa_cons (pv 7) pa_nil)))
      (pss_cons (ps_if (pt_cmpR (op_noneInR T (hr.mono (by decide))) (pe_non) (pv 8) rfl) (pss_one (ps_raise rfl (takes_of rfl rfl rfl rfl) (pmk_BadPaper T (hr.mono (by decide)) (pa_cons (pv 2) pa_nil)))) (pss_nil))
      (pss_cons (ps_expr (pe_bm PySem.F.plainAttrs_list PySem.F.slot_list_append PySem.F.type_list_append mt_append (pv 1) (pa_cons (pe_tup (pa_cons (pv 6) (pa_cons (pv 8) pa_nil))) pa_nil)))
      (pss_one (ps_expr (pe_fn T.d_checked (fn_checkedG T) (hr.mono (by decide)) T.g_checked pc (pa_cons (pv 1) (pa_cons (pv 2) pa_nil)))))))))))))
      (pss_one (ps_ret (pe_fn T.d_checked (fn_checkedG T) (hr.mono (by decide)) T.g_checked pc (pa_cons (pv 1) (pa_cons (pe_int) pa_nil)))))), ?_⟩
  have hbig : (100000 : Nat) ≤ sizeLine := by decide
  refine ⟨(by show 0 ≤ sizeLine; omega), fun L nL => ?_⟩
  have e1 : Ex H (upd H L (.lst [])) := Ex.new nL
  refine ⟨_, rfl, a, _, rfl, ex_l e1 ha, for_it (walk_enum (xs := ls.map V.str)) (fun i σ H' => ∃ (ps : List PE) (vs : List V) (u2 u3 u4 u5 u6 u7 u8 : Option V), Ex H H' ∧ H' L = some (.lst vs) ∧ Paired (EinAt K (del L H') (del L H')) vs (ps.map entE) ∧ (ls.take i).map (Txt.split · " ") = ps.map lineW ∧ (∀ p ∈ ps, POk p ∧ p.2.length ≤ 39) ∧ planBad [] 0 (ps.map entE) = none ∧ σ = [some (.ref a), some (.ref L), u2, u3, u4, u5, u6, u7, u8]) ?_ ?_ ?_ ?_⟩
  · exact ⟨[], [], _, _, _, _, _, _, _, e1, upd_same, .nil, rfl, (fun _ h => nomatch h), rfl, rfl⟩
  · rintro i σ H' _ ⟨_, _, _, _, _, _, _, _, _, e, _⟩
    exact ex_l e ha
  · rintro i y σ H1 H2 hi ⟨ps, vs, _, _, _, _, _, _, _, e2, hL, hvs, hpw, hpok, hpb, rfl⟩ ⟨T0, y1, y2, rfl, nT0, rfl, ey1, ey2⟩
    cases ey1
    have ey2 : (ls.map V.str)[i]? = some y2 := ey2
    rw [List.getElem?_map] at ey2
    obtain ⟨l, hp, rfl⟩ := Option.map_eq_some_iff.mp ey2
    obtain ⟨hll, hw40, hwl⟩ := hls l (List.mem_of_getElem? hp)
    obtain ⟨ws, hws⟩ : ∃ ws, ws = Txt.split l " " := ⟨_, rfl⟩
    obtain ⟨wne, wj⟩ := split_back (x := l) (s := (" " : Str)) (c := 32) rfl (by decide)
    have x1 : Ex H1 (upd H1 T0 (.tup [.int (i : Nat), .str l])) := Ex.new nT0
    have bad := fun z => kb i l ps hp hpw (fun p h => (hpok p h).1) hpb (.inl z)
    refine ⟨T0, _, rfl, SqT.of upd_same, rfl, _, _, rfl, _, _, rfl, rfl, ?_⟩
    refine ⟨_, rfl, ⟨_, rfl⟩, _, " ", rfl, rfl, by decide, by omega, fun Wd nW => ?_⟩
    rw [← hws] at hw40 hwl wne bad ⊢
    have x2 := Ex.new (o := .lst (ws.map V.str)) nW
    have x12 := x1.trans x2
    have hW : SqL K (upd (upd H1 T0 (.tup [.int (i : Nat), .str l])) Wd (.lst (ws.map V.str))) Wd (ws.map V.str) := sq_of upd_same
    have hfl : (ws.map V.str).all flatV = true := by rw [List.all_map]; exact List.all_eq_true.mpr fun _ _ => rfl
    have raise : (∀ p, POk p → ws ≠ lineW p) → ∀ H4 d, Ex H1 H4 → H4 d = none → E (.ref (ga K "BadPaper")) (some d) (upd H4 d (.xd [("at", .int (i : Nat))])) := fun z H4 d x4 nd4 =>
      bad z _ d ((e2.trans x4).trans (Ex.new nd4)) (ex_none (e2.trans x4) nd4) upd_same
    have hin : inV (.str "do") (ws.map V.str) = decide (("do" : Str) ∈ ws) := by
      rw [Bool.eq_iff_iff, decide_eq_true_iff]
      unfold inV
      rw [List.any_map, List.any_eq_true]
      exact ⟨fun ⟨x, h1, h2⟩ => by rw [Function.comp_apply, eqV_str] at h2; rw [← of_decide_eq_true h2]; exact h1, fun h => ⟨_, h, by rw [Function.comp_apply, eqV_str]; simp⟩⟩
    obtain ⟨w0, hw0⟩ : ∃ w0, ws[0]? = some w0 := by
      cases ws with
      | nil => exact absurd rfl wne
      | cons x r => exact ⟨x, rfl⟩
    have hw0' : (ws.map V.str)[0]? = some (.str w0) := by rw [List.getElem?_map, hw0]; rfl
    dsimp only [gName]
    refine q_when (b := !decide (w0 = ("at" : Str)) || !decide (("do" : Str) ∈ ws)) (et_or (et_test (ev_is (ev_op (ev_op (ev_var rfl) ev_c (rv_ixL hW (atI_nat (j := 0) hw0'))) ev_c (rv_ne rfl)) (congrArg (fun b => V.bl (!b)) (decide_eq_decide.mpr ⟨fun h => V.str.inj h, fun h => by rw [h]⟩)))) fun _ => et_test (ev_is (ev_op ev_c (ev_var rfl) (rv_niL hW rfl hfl)) (by rw [hin]))) (fun c H3 x3 => ?_) (fun c H3 x3 => ?_)
    · refine ⟨_, rfl, _, rfl, fun d nd4 => raise (fun p hpk hwp => ?_) H3 d (x12.trans x3) nd4⟩
      rw [hwp] at hw0 c
      have h1 : w0 = ("at" : Str) := by unfold lineW at hw0; exact (Option.some.inj hw0).symm
      have h2 : ("do" : Str) ∈ lineW p := by simp [lineW]
      rw [decide_eq_true h1, decide_eq_true h2] at c
      exact Bool.noConfusion c
    · have c1 : w0 = ("at" : Str) ∧ ("do" : Str) ∈ ws := by
        by_cases z1 : w0 = ("at" : Str)
        · by_cases z2 : ("do" : Str) ∈ ws
          · exact ⟨z1, z2⟩
          · rw [decide_eq_true z1, decide_eq_false z2] at c; exact Bool.noConfusion c
        · rw [decide_eq_false z1] at c; exact Bool.noConfusion c
      obtain ⟨rfl, hdo⟩ := c1
      obtain ⟨m, hm, hmb⟩ := first_do hdo
      obtain ⟨hm1, hcut⟩ := line_cut hw0 hm
      have hmlt : m < ws.length := (List.getElem?_eq_some_iff.mp hm).1
      have hj : (ws.map V.str)[m]? = some (.str "do") := by rw [List.getElem?_map, hm]; rfl
      have hW3 := ex_l x3 hW
      refine ⟨_, rfl, .inl ⟨rfl, _, hW3⟩, Wd, _, .str "do", m, .str "do", rfl, rfl, hW3, rfl, hfl, hj, rfl, fun j z' hjm hz' => ?_, ?_⟩
      · rw [List.getElem?_map] at hz'
        obtain ⟨x, hx, rfl⟩ := Option.map_eq_some_iff.mp hz'
        rw [eqV_str]
        exact decide_eq_false fun z => hmb j hjm (by rw [hx, z])
      · have hcutv : cutV (ws.map V.str) (some ((1 : Nat) : Int)) (some ((m : Nat) : Int)) = ((ws.drop 1).take (m - 1)).map V.str := by
          rw [cut_nat hm1, ← List.map_drop, ← List.map_take]
        refine el_sl (lo := some ((1 : Nat) : Int)) (hi := some ((m : Nat) : Int)) (ev_var rfl) (eo_some ev_c) (eo_some (ev_var rfl)) hW3 _ (Ex.refl _) _ fun V1 H4 nV x4 hV => ?_
        rw [hcutv] at hV
        have x14 : Ex H1 H4 := x12.trans (x3.trans x4)
        have hvlen : ((ws.drop 1).take (m - 1)).length ≤ 40 := by rw [List.length_take, List.length_drop]; omega
        refine ⟨_, rfl, V1, (i : Nat), (ws.drop 1).take (m - 1), rfl, sq_of hV, by omega, (fun x hx => hwl x (List.mem_of_mem_drop (List.mem_of_mem_take hx))), fun v H5 b hv hvw x5 nb hkey => ?_, fun z H5 d x5 nd5 hd5 => ?_⟩
        · have hW5 := ex_l (x4.trans x5) hW3
          have hv2 := viewW_two hv
          rw [hvw] at hv2
          have hlw : (ws.drop (m + 1)).length ≤ 38 := by rw [List.length_drop]; omega
          have hdl : (ws.map V.str).drop (m + 1) = (ws.drop (m + 1)).map V.str := by rw [List.map_drop]
          dsimp only [gName]
          refine el_sl (lo := some ((m + 1 : Nat) : Int)) (hi := none) (ev_var rfl) (eo_some (ev_op (ev_var rfl) ev_c rv_I0)) eo_none hW5 _ (Ex.refl _) _ fun V2 H6 nV2 x6 hV2 => ?_
          rw [cut_from, hdl] at hV2
          refine ⟨V2, rfl, ⟨_, sq_of hV2⟩, fun D nD => lc_it (te := fun σ H Q => tCons (tVar 7) tNil σ H fun vs H1 => spRR K vs H1 Q (fun _ _ _ => False)) (n := ((ws.drop (m + 1)).map V.str).length) (walk_list (K := K) (a := V2) (xs := (ws.drop (m + 1)).map V.str)) (fun j H' => ∃ rs : List V, Ex H6 H' ∧ H' D = some (.lst rs) ∧ Paired (OrAt K H') rs (((ws.drop (m + 1)).map ratO).take j)) ⟨[], Ex.new nD, upd_same, .nil⟩ (fun j H' _ z => by obtain ⟨_, e, _⟩ := z; exact ex_l e (sq_of hV2)) ?_ ?_⟩
          · rintro j y H7' H7 hj ⟨rs, x7, hD, hrs⟩ ⟨rfl, hy⟩
            rw [List.getElem?_map] at hy
            obtain ⟨x, hx, rfl⟩ := Option.map_eq_some_iff.mp hy
            rw [List.length_map] at hj
            have hxo : ((ws.drop (m + 1)).map ratO)[j]? = some (ratO x) := by rw [List.getElem?_map, hx]; rfl
            have fin : ∀ v H8, Ex H7 H8 → OrAt K H8 v (ratO x) → ∃ acc, H8 D = some (.lst acc) ∧ acc.length < sizeLine ∧ ∃ rs : List V, Ex H6 (upd H8 D (.lst (acc ++ [v]))) ∧ (upd H8 D (.lst (acc ++ [v]))) D = some (.lst rs) ∧ Paired (OrAt K (upd H8 D (.lst (acc ++ [v])))) rs (((ws.drop (m + 1)).map ratO).take (j + 1)) := fun v H8 x8 hr => by
              have hD8 := x8 _ _ hD
              have hrl : rs.length ≤ 40 := by
                rw [Paired.length hrs, List.length_take, List.length_map]
                omega
              refine ⟨rs, hD8, by omega, rs ++ [v], (x7.trans x8).mut nD, upd_same, ?_⟩
              rw [List.take_add_one, hxo]
              exact paired_snoc (paired_mono hrs fun _ _ z => or_btx Btx.put hD8 (z.mono x8)) (or_btx Btx.put hD8 hr)
            refine ⟨rfl, yes_if ?_⟩
            refine ⟨_, rfl, x, rfl, hwl x (List.mem_of_mem_drop (List.mem_of_getElem? hx)), fun q v H8 hq x8 hr => fin v H8 x8 (by rw [ratO_some hq]; exact hr), fun hq H8 x8 => fin .non H8 x8 (by rw [ratO_none hq]; exact rfl)⟩
          · rintro H7 ⟨rs, x7, hD, hrs⟩
            rw [List.length_map, List.take_of_length_le (by rw [List.length_map]; omega)] at hrs
            dsimp only [gName]
            have x17 : Ex H1 H7 := x14.trans (x5.trans (x6.trans x7))
            have hnone : RV (rNoneR K) .non (.ref D) H7 (.bl (((ws.drop (m + 1)).map ratO).any Option.isNone)) := fun H8 x8 Q8 q8 => ⟨D, rs, (ws.drop (m + 1)).map ratO, rfl, rfl, x8 _ _ hD, paired_mono hrs fun _ _ z => z.mono x8, fun H9 x9 => q8 H9 x9⟩
            refine q_when (b := ((ws.drop (m + 1)).map ratO).any Option.isNone) (et_test (ev_op ev_c (ev_var rfl) hnone)) (fun c H8 x8 => ?_) (fun c H8 x8 => ?_)
            · refine ⟨_, rfl, _, rfl, fun d nd4 => raise (fun p hpk hwp => ?_) H8 d (x17.trans x8) nd4⟩
              rw [hwp] at hm hmb c
              exact lots_bad c hpk.2.2.2 (line_do hpk hm hmb).2.2
            · obtain ⟨qs, hqs, hqok, hqo⟩ := lots_good c
              rw [hqo] at hrs
              have hrats : RatsAt K H7 rs qs := by
                clear hnone
                clear hD
                revert hrs
                clear hqo hqs hqok
                intro hrs
                generalize hz : qs.map some = os at hrs
                induction hrs generalizing qs with
                | nil => cases qs with
                  | nil => exact .nil
                  | cons _ _ => cases hz
                | cons a b ih => cases qs with
                  | nil => cases hz
                  | cons q qs =>
                    cases hz
                    exact .cons a (ih qs rfl)
              have hql : qs.length ≤ 38 := by have := congrArg List.length hqs; rw [List.length_map] at this; omega
              have hpn : POk (v, qs) := ⟨show v.length ≤ 100 by omega, hv, show qs.length ≤ 100 by omega, hqok⟩
              have hwn : ws = lineW (v, qs) := by
                unfold lineW
                rw [hvw, ← hqs]
                exact hcut
              have x18 : Ex H1 H8 := x17.trans x8
              have hL8 := x18 _ _ hL
              have hpsl : ps.length = i := by
                have := congrArg List.length hpw
                rw [List.length_map, List.length_map, List.length_take] at this
                rw [List.length_map] at hi
                omega
              rw [List.length_map] at hi
              have hvl2 : vs.length ≤ 1000 := by rw [Paired.length hvs, List.length_map]; omega
              refine q_appU hL8 (ev_var rfl) (eu_tup (ea_cons (ev_var rfl) (ea_cons (ev_var rfl) ea_nil)) (by show 2 ≤ 100000; decide)) (by omega) (fun t1 H9 nt1 x9 ht1 => ?_)
              have hL9 := x9 _ _ hL8
              have hD9 := x9 _ _ (x8 _ _ hD)
              have ht1L : t1 ≠ L := fun z => by rw [z, hL9] at ht1; cases ht1
              have hDL : D ≠ L := fun z => by
                rw [z] at nD
                rw [(x14.trans (x5.trans x6)) _ _ hL] at nD
                cases nD
              have b9 : Btx L H9 (del L (upd H9 L (.lst (vs ++ [.ref t1])))) := Btx.put.trans btx_del
              have b19 : Btx L H1 (upd H9 L (.lst (vs ++ [.ref t1]))) := (Btx.ofEx (x18.trans x9)).trans Btx.put
              have hnew : Paired (EinAt K (del L (upd H9 L (.lst (vs ++ [.ref t1])))) (del L (upd H9 L (.lst (vs ++ [.ref t1]))))) (vs ++ [.ref t1]) ((ps ++ [(v, qs)]).map entE) := by
                rw [List.map_append]
                refine paired_snoc (paired_mono hvs fun _ _ z => z.up (del_mono b19)) ⟨t1, b, D, rs, rfl, st_of (b9 _ _ ht1L ht1), ?_, sq_of (b9 _ _ hDL hD9), ?_⟩
                · exact key_btx b9 hL9 (hkey.mono (x6.trans (x7.trans (x8.trans x9))))
                · exact paired_mono hrats fun _ _ z => rat_btx b9 hL9 (z.mono (x8.trans x9))
              have hpwn : (ls.take (i + 1)).map (Txt.split · " ") = (ps ++ [(v, qs)]).map lineW := by
                rw [List.take_add_one, hp, List.map_append, List.map_append, hpw]
                show _ ++ [Txt.split l " "] = _ ++ [lineW (v, qs)]
                rw [← hws, hwn]
              have hpokn : ∀ p ∈ ps ++ [(v, qs)], POk p ∧ p.2.length ≤ 39 := fun p hpm => by
                rcases List.mem_append.mp hpm with hpm | hpm
                · exact hpok p hpm
                · rcases List.mem_singleton.mp hpm with rfl
                  exact ⟨hpn, show qs.length ≤ 39 by omega⟩
              have xL : Ex H (upd H9 L (.lst (vs ++ [.ref t1]))) := (e2.trans (x18.trans x9)).mut nL
              refine ⟨_, rfl, _, rfl, del L (upd H9 L (.lst (vs ++ [.ref t1]))), L, (i : Nat), vs ++ [.ref t1], (ps ++ [(v, qs)]).map entE, 200, rfl, del_ex, sq_of upd_same, paired_mono hnew fun _ _ z => z.in_ del_ex, by rw [List.length_map, List.length_append, List.length_singleton]; omega, by decide, fun e he => ?_, fun hok xx H10 x10 _ => ?_, fun j hj H10 d x10 nd10 hd10 => ?_⟩
              · obtain ⟨p', hp', rfl⟩ := List.mem_map.mp he
                exact ent_szG (hpokn p' hp')
              · exact ⟨ps ++ [(v, qs)], vs ++ [.ref t1], _, _, _, _, _, _, _, xL.trans x10, x10 _ _ upd_same, paired_mono hnew fun _ _ z => z.up (del_mono (Btx.ofEx x10)), hpwn, hpokn, hok, rfl⟩
              · exact kb i l ps hp hpw (fun p h => (hpok p h).1) hpb (.inr ⟨(v, qs), hpn, by rw [← hws]; exact hwn, by rw [hj]; exact fun h => nomatch h⟩) H10 d (xL.trans x10) (ex_none xL nd10) hd10
        · refine bad (fun p hpk hwp => ?_) H5 d ((e2.trans x14).trans x5) (ex_none (e2.trans x14) nd5) hd5
          rw [hwp] at hm hmb z
          exact z p.1 hpk.2.1 (line_do hpk hm hmb).2.1.symm
  · rintro σ H3 ⟨ps, vs, _, _, _, _, _, _, _, e3, hL, hvs, hpw, hpok, hpb, rfl⟩
    rw [List.length_map, List.take_length] at hpw
    have hpl : ps.length = ls.length := by have := congrArg List.length hpw; rw [List.length_map, List.length_map] at this; exact this.symm
    exact ⟨_, rfl, del L H3, L, 0, vs, ps.map entE, 200, rfl, del_ex, sq_of hL, paired_mono hvs fun _ _ z => z.in_ del_ex, by rw [List.length_map]; omega, by decide, fun e he => by
      obtain ⟨p', hp', rfl⟩ := List.mem_map.mp he
      exact ent_szG (hpok p' hp'), fun _ x H2 x2 hp2 => kg ps hpw (fun p h => (hpok p h).1) hpb x H2 (e3.trans x2) hp2, fun j hj => by rw [hpb] at hj; cases hj⟩
end
end LL
namespace LL
open PySem PySem.Spec PyProof.Rows L2 He Evl ND
section
variable {w : World} {K : PySem.W.Frag} {mg : Str → Option Value} {base : Heap}
def spEvent (K : PySem.W.Frag) : Sp := fun us H Q _ => ∃ (B : Hp) (p : Addr), us = [.ref p] ∧ Ex B H ∧ B p = none ∧ Pool p B H ∧ ∀ e b B2 H2, EvOk e → Stp [p] B H B2 H2 → Pool p B2 H2 → B2 b = some (.tup (evV e)) → Q (.ref b) H2
theorem fn_l_event (T : Txt K mg) : Fn P w K mg base 2 (ga K "_law_event") (spEvent K) := by
  refine fn_def T.d_l_event sc_l_event (fun _ _ _ _ _ _ us hl => match us, hl with | [_], _ => rfl) (fun vs H Q E h => ?_) (fun cdv A outer s H vs Q E hr h => ?_)
  · obtain ⟨_, _, rfl, _⟩ := h
    rfl
  obtain ⟨B, p, rfl, eb, hb, hP, k⟩ := h
  have nd := sc_l_event.nd
  refine ⟨_, pss_cons (ps_set (i := 1) nd rfl (by first | exact Or.inl rfl | exact Or.inr rfl) (pe_ix ix_tup (pe_tup (pa_cons (pe_str) (pa_cons (pe_str) (pa_cons (pe_str) pa_nil)))) (pe_fn T.d_l_draw (fn_l_draw T) (hr.mono (by decide)) T.g_l_draw pc (pa_cons (pv 0) (pa_cons (pe_int) pa_nil))) (fun _ _ => rfl)))
      (pss_cons (ps_set (i := 2) nd rfl (by first | exact Or.inl rfl | exact Or.inr rfl) (pe_ix ix_tup (pe_tup (pa_cons (pe_fn T.d_l_draw (fn_l_draw T) (hr.mono (by decide)) T.g_l_draw pc (pa_cons (pv 0) (pa_cons (pe_int) pa_nil))) (pa_cons (pe_fn T.d_l_draw (fn_l_draw T) (hr.mono (by decide)) T.g_l_draw pc (pa_cons (pv 0) (pa_cons (pe_int) pa_nil))) pa_nil))) (pe_fn T.d_l_draw (fn_l_draw T) (hr.mono (by decide)) T.g_l_draw pc (pa_cons (pv 0) (pa_cons (pe_int) pa_nil))) (fun _ _ => rfl)))
      (pss_cons (ps_if (pt_cmpR op_eq (pv 1) (pe_str) (nomark _)) (pss_one (ps_ret (pe_tup (pa_cons (pv 1) (pa_cons (pv 2) (pa_cons (pe_fn T.d_l_draw (fn_l_draw T) (hr.mono (by decide)) T.g_l_draw pc (pa_cons (pv 0) (pa_cons (pe_int) pa_nil))) pa_nil)))))) (pss_nil))
      (pss_one (ps_ret (pe_tup (pa_cons (pv 1) (pa_cons (pv 2) pa_nil))))))), ?_⟩
  have hsz : (100000 : Nat) ≤ sizeLine := by decide
  refine ⟨by show 3 ≤ sizeLine; omega, fun t1 n1 => ?_⟩
  have s1 := Stp.cell (ms := [p]) (o := .tup [.str "shown", .str "asked", .str "did"]) eb n1
  refine ⟨_, rfl, ?_⟩
  dsimp only [tCons, tNil, tC]
  refine draw_s (n := 3) s1.in_ hb (hP.n1 n1) (by decide) (by decide) fun r1 H2 a0 a1 s2 P2 b2 => ?_
  have ht1 : H2 t1 = some (.tup [.str "shown", .str "asked", .str "did"]) := (b2 t1 (hP.ne n1)).trans upd_same
  obtain ⟨v, hv, hk⟩ := at3 (a := V.str "shown") (b := V.str "asked") (c := V.str "did") a0 a1
  obtain ⟨x, c, rfl, hc, hask⟩ : ∃ x c, v = .str x ∧ evCount x = some c ∧ ((x = "asked" ∧ c = 2) ∨ (x ≠ "asked" ∧ c = 1)) := by
    rcases hk with rfl | rfl | rfl
    · exact ⟨_, 1, rfl, rfl, .inr ⟨by decide, rfl⟩⟩
    · exact ⟨_, 2, rfl, rfl, .inl ⟨rfl, rfl⟩⟩
    · exact ⟨_, 1, rfl, rfl, .inr ⟨by decide, rfl⟩⟩
  refine ⟨t1, _, r1, .str x, rfl, rfl, st_of ht1, hv, ?_⟩
  have s12 := s1.trans s2
  refine ⟨_, rfl, ?_⟩
  dsimp only [tCons, tNil, tC]
  refine draw_s (n := 4) s12.in_ hb P2 (by decide) (by decide) fun r2 H3 c0 c1 s3 P3 b3 => ?_
  refine ⟨_, rfl, ?_⟩
  dsimp only [tCons, tNil, tC]
  refine draw_s (n := 70000) (s12.trans s3).in_ hb P3 (by decide) (by decide) fun r3 H4 d0 d1 s4 P4 b4 => ?_
  have s14 := (s12.trans s3).trans s4
  refine ⟨by show 2 ≤ sizeLine; omega, fun t2 n2 => ?_⟩
  have s5 := s14.trans (Stp.cell (ms := [p]) (o := .tup [.int r2, .int r3]) s14.in_ n2)
  refine ⟨_, rfl, ?_⟩
  dsimp only [tCons, tNil, tC]
  refine draw_s (n := 2) s5.in_ hb (P4.n1 n2) (by decide) (by decide) fun r4 H6 f0 f1 s6 P6 b6 => ?_
  have ht2 : H6 t2 = some (.tup [.int r2, .int r3]) := (b6 t2 (P4.ne n2)).trans upd_same
  obtain ⟨u, hu, hn⟩ := at2 (a := V.int r2) (b := V.int r3) f0 f1
  obtain ⟨n, rfl, hn1⟩ : ∃ n : Nat, u = .int (n : Nat) ∧ n < 70000 := by
    rcases hn with rfl | rfl
    · exact ⟨r2.toNat, by rw [Int.toNat_of_nonneg c0], by omega⟩
    · exact ⟨r3.toNat, by rw [Int.toNat_of_nonneg d0], by omega⟩
  refine ⟨t2, _, r4, _, rfl, rfl, st_of ht2, hu, ?_⟩
  have s16 := s5.trans s6
  have h60 : (70000 : Nat) < 10 ^ 60 := by decide +kernel
  dsimp only [gName]
  refine s_if (D := _) (b := decide (x = ("asked" : Str))) (et_test (ev_is (ev_op (ev_var rfl) ev_c (rv_eq rfl)) (congrArg V.bl (decide_eq_decide.mpr ⟨fun h => V.str.inj h, fun h => by rw [h]⟩)))) (fun cc H7 x7 => ?_) (fun cc H7 x7 => ?_)
  · have hx := of_decide_eq_true cc
    have hc2 : c = 2 := by
      rcases hask with ⟨_, h⟩ | ⟨h, _⟩
      · exact h
      · exact absurd hx h
    have s7 := Stp.ofEx (ms := []) s16.in_ x7
    have P7 := P6.stp s7 (by simp)
    have s17 := s16.trans s7.nil
    refine ⟨_, rfl, _, rfl, _, rfl, ?_⟩
    dsimp only [tCons, tNil, tC]
    refine draw_s (n := 9) s17.in_ hb P7 (by decide) (by decide) fun r5 H8 g0 g1 s8 P8 b8 => ?_
    refine ⟨by show 3 ≤ sizeLine; omega, fun t3 n3 => ?_⟩
    obtain ⟨m, rfl⟩ : ∃ m : Nat, r5 = (m : Nat) := ⟨r5.toNat, by rw [Int.toNat_of_nonneg g0]⟩
    have s18 := s17.trans s8
    refine k (x, [n, m]) t3 _ _ ⟨by rw [hc, hc2]; rfl, fun q hq => ?_⟩ (s18.trans (Stp.new s18.in_ n3)) (P8.n2 s18.in_ n3) upd_same
    simp only [List.mem_cons, List.not_mem_nil, or_false] at hq
    rcases hq with rfl | rfl <;> omega
  · have hx := of_decide_eq_false cc
    have hc1 : c = 1 := by
      rcases hask with ⟨h, _⟩ | ⟨_, h⟩
      · exact absurd h hx
      · exact h
    have s7 := Stp.ofEx (ms := []) s16.in_ x7
    have P7 := P6.stp s7 (by simp)
    have s17 := s16.trans s7.nil
    refine ⟨_, rfl, _, rfl, by show 2 ≤ sizeLine; omega, fun t3 n3 => ?_⟩
    refine k (x, [n]) t3 _ _ ⟨by rw [hc, hc1]; rfl, fun q hq => ?_⟩ (s17.trans (Stp.new s17.in_ n3)) (P7.n2 s17.in_ n3) upd_same
    rcases List.mem_singleton.mp hq with rfl
    omega
end
end LL
namespace LL
open PySem PySem.Spec PyProof.Rows L2 He Evl ND
section
variable {w : World} {K : PySem.W.Frag} {mg : Str → Option Value} {base : Heap}
/-- v is the tuple (n, d) -/
def PairAt (H : Hp) (v : V) (n d : Int) : Prop := ∃ a, v = .ref a ∧ H a = some (.tup [.int n, .int d])
theorem PairAt.mono {H H' : Hp} {v : V} {n d : Int} (e : Ex H H') (h : PairAt H v n d) : PairAt H' v n d := by
  obtain ⟨a, h1, h2⟩ := h
  exact ⟨a, h1, e _ _ h2⟩
/-- the law's own lowest terms: k tells the size -/
def spLow (K : PySem.W.Frag) : Sp := fun vs H Q _ => ∃ (n d : Int), vs = [.int n, .int d] ∧ 0 < d ∧ d.natAbs < 2 ^ 1900 ∧
  ∀ a, H a = none → Q (.ref a) (upd H a (.tup [.int (mkRat n d.toNat).num, .int ((mkRat n d.toNat).den : Int)]))
theorem half_mod {a b : Nat} (h : b < a) (hb : 0 < b) : 2 * (a % b) ≤ a := by
  have h1 := Nat.div_add_mod a b
  have h2 := Nat.mod_lt a hb
  have h3 : 1 ≤ a / b := (Nat.le_div_iff_mul_le hb).mpr (by omega)
  have h4 : b ≤ b * (a / b) := Nat.le_mul_of_pos_right b (by omega)
  omega
theorem fn_l_less (T : Txt K mg) : Fn P w K mg base 1 (ga K "_law_less") (spLow K) := by
  refine fn_def T.d_l_less sc_l_less (fun _ _ _ _ _ _ us hl => match us, hl with | [_, _], _ => rfl) (fun vs H Q E h => ?_) (fun cdv A outer s H vs Q E hr h => ?_)
  · obtain ⟨n, d, rfl, _⟩ := h
    rfl
  · obtain ⟨n, d, rfl, hd, hz, k⟩ := h
    have nd := sc_l_less.nd
    refine ⟨_, pss_cons (ps_set (i := 2) nd rfl (by first | exact Or.inl rfl | exact Or.inr rfl) (pe_callB call_abs (by rfl) T.f_abs (by decide +kernel) (pa_cons (pv 0) pa_nil)))
      (pss_cons (ps_set (i := 3) nd rfl (by first | exact Or.inl rfl | exact Or.inr rfl) (pv 1))
      (Evl.pss_cut (ps_for (passes_of rfl) rfl (pi_range1 rfl T.f_range (pa_cons (pe_int) pa_nil)) (pg_name (i := 4) nd rfl (by first | exact Or.inl rfl | exact Or.inr rfl)) (pss_cons (ps_if (pt_cmpR op_eq (pv 3) (pe_int) (nomark _)) (pss_one (ps_break)) (pss_nil))
      (pss_one (ps_par (i := 2) (j := 3) (by rfl) nd rfl rfl (by decide) rfl rfl (pa_cons (pv 3) (pa_cons (pe_op op_mod (pe_callTy call_int1 (by rfl) T.f_int (by decide +kernel) (pa_cons (pv 2) pa_nil)) (pv 3)) pa_nil)) (by rfl)))))
      (pss_one (ps_ret (pe_tup (pa_cons (pe_op op_fdivW (pv 0) (pv 2)) (pa_cons (pe_op op_fdivW (pv 1) (pv 2)) pa_nil))))))), ?_⟩
    refine ⟨_, rfl, _, rfl, ?_⟩
    refine ⟨_, rfl, ?_⟩
    have hdn : 0 < d.toNat := by omega
    refine ⟨fun σ H' => H' = H ∧ ∃ (l : Nat) (b v : Option V), σ = [some (.int n), some (.int d), some (.int (l : Int)), b, v] ∧ l = Nat.gcd n.natAbs d.toNat, ?_, ?_⟩
    · refine ⟨4000, rfl, by decide, by decide, for_range (lo := 0) (n := 4000) (fun i σ H' => H' = H ∧ ∃ (l r : Nat) (v : Option V), σ = [some (.int n), some (.int d), some (.int (l : Int)), some (.int (r : Int)), v] ∧ Nat.gcd l r = Nat.gcd n.natAbs d.toNat ∧
        (i % 2 = 0 → r * 2 ^ (i / 2) < 2 ^ 1900) ∧ (i % 2 = 1 → r < l ∧ l * 2 ^ (i / 2) < 2 ^ 1900)) ⟨rfl, n.natAbs, d.toNat, none, ?_, rfl, fun _ => ?_, fun h => by omega⟩ ?_ ?_⟩
      · show [_, _, some (V.int (if n < 0 then -n else n)), some (V.int d), _] = _
        have e1 : (if n < 0 then -n else n) = (n.natAbs : Int) := by split <;> omega
        have e2 : d = ((d.toNat : Nat) : Int) := by omega
        rw [e1, ← e2]
      · have : d.toNat = d.natAbs := by omega
        rw [this]
        simpa using hz
      · rintro i σ H' hi ⟨rfl, l, r, v, rfl, hg, h0, h1⟩
        refine ⟨_, rfl, rfl, _, rfl, ite2 (fun c => ?_) fun c => ?_⟩
        · have hr : r = 0 := by
            have := of_decide_eq_true c
            simpa using this
          subst hr
          exact ⟨rfl, l, _, _, rfl, by rw [← hg, Nat.gcd_zero_right]⟩
        · have hr : 0 < r := by
            rcases Nat.eq_zero_or_pos r with z | z
            · subst z; exact absurd rfl c
            · exact z
          refine ⟨_, rfl, _, rfl, .inl ⟨_, rfl, _, rfl, _, _, rfl, rfl, (by show (0 : Int) < (r : Int); omega), _, _, rfl, ?_⟩⟩
          refine ⟨rfl, r, l % r, some (.int (0 + (i : Int))), ?_, (gcd_turn l r).trans hg, ?_, ?_⟩
          · show [_, _, some (V.int (r : Int)), some (V.int ((l : Int) % (r : Int))), _] = _
            rw [← Int.natCast_emod]
          · intro he
            have ho : i % 2 = 1 := by omega
            obtain ⟨q1, q2⟩ := h1 ho
            have q3 := half_mod q1 hr
            have q4 : (i + 1) / 2 = i / 2 + 1 := by omega
            rw [q4, Nat.pow_succ]
            calc l % r * (2 ^ (i / 2) * 2) = 2 * (l % r) * 2 ^ (i / 2) := by rw [Nat.mul_comm (2 ^ (i / 2)) 2, ← Nat.mul_assoc, Nat.mul_comm (l % r) 2]
              _ ≤ l * 2 ^ (i / 2) := Nat.mul_le_mul_right _ q3
              _ < _ := q2
          · intro he
            have ho : i % 2 = 0 := by omega
            have q4 : (i + 1) / 2 = i / 2 := by omega
            rw [q4]
            exact ⟨Nat.mod_lt l hr, h0 ho⟩
      · rintro σ H' ⟨rfl, l, r, v, rfl, hg, h0, h1⟩
        have q := h0 (by decide)
        have hr : r = 0 := by
          rcases Nat.eq_zero_or_pos r with z | z
          · exact z
          · have z1 : 2 ^ 1900 ≤ r * 2 ^ (4000 / 2) := Nat.le_trans (Nat.pow_le_pow_right (by decide) (by decide)) (Nat.le_mul_of_pos_left _ z)
            omega
        subst hr
        exact ⟨rfl, l, _, _, rfl, by rw [← hg, Nat.gcd_zero_right]⟩
    · rintro σ H' ⟨rfl, l, b, v, rfl, hl⟩
      have hl0 : 0 < l := by rw [hl]; exact Nat.gcd_pos_of_pos_right _ hdn
      have hl1 : l ≤ d.toNat := by rw [hl]; exact Nat.gcd_le_right _ hdn
      have hz2 : ((l : Int)).natAbs < 2 ^ 1900 := by omega
      have hw : CDivW n (l : Int) := wide_div (b := 1900) (by omega) hz2 (by omega) (by omega)
      have hw2 : CDivW d (l : Int) := hw
      refine ⟨_, rfl, _, rfl, _, _, rfl, rfl, hw, _, rfl, _, rfl, _, _, rfl, rfl, hw2, (by show 2 ≤ sizeLine; decide), fun p np => ?_⟩
      have en : (mkRat n d.toNat).num = n / (l : Int) := by
        rw [Rat.num_mkRat, if_neg (by omega), Nat.gcd_comm, ← hl]
      have ed : ((mkRat n d.toNat).den : Int) = d / (l : Int) := by
        rw [Rat.den_mkRat, if_neg (by omega), Nat.gcd_comm, ← hl, Int.natCast_ediv]
        congr 1; omega
      have z := k p np
      rw [en, ed] at z
      exact z
end
end LL
namespace LL
open PySem PySem.Spec PyProof.Rows L2 He Evl ND
theorem units65 {A : Around} (r : Room 1 A) : A.units + 65 < cLine := by have := r.un; omega
theorem crk_sum {X : Cx} (K : PySem.W.Frag) (hc : X.calm = true) (hK : X.K = K := by rfl) : CallR X (.builtin "sum") (rSum K) := hK ▸ cr_sum hc
section
variable {w : World} {K : PySem.W.Frag} {mg : Str → Option Value} {base : Heap}
/-- draw(pool, (a, b, c)[draw(pool, 3)]) -/
theorem draw3 {σ : L2.St} {H B : Hp} {p : Addr} {a b c m : Int} {E1 E2 : XK} {Q : VK} (hs : σ[0]? = some (some (.ref p))) (eb : Ex B H) (hb : B p = none) (hP : Pool p B H) (ha : 0 < a ∧ a ≤ m) (hB : 0 < b ∧ b ≤ m) (hc : 0 < c ∧ c ≤ m) (hm : m ≤ 1000)
    (k : ∀ (r : Int) (H2 : Hp), 0 ≤ r → r < m → Stp [p] B H B H2 → Pool p B H2 → Q (.int r) H2) :
    (fun (σ : L2.St) (H : Hp) (Q : VK) => tCons (tVar 0) (tCons (tOp (rIxT K) (tTup (tCons (tC (.int a)) (tCons (tC (.int b)) (tCons (tC (.int c)) tNil)))) fun σ H Q => tCons (tVar 0) (tCons (tC (.int 3)) tNil) σ H fun vs H1 => spDraw vs H1 Q E1) tNil) σ H fun vs H1 => spDraw vs H1 Q E2) σ H Q := by
  refine ⟨_, hs, ?_⟩
  refine ⟨by show 3 ≤ sizeLine; decide, fun t nt => ?_⟩
  have s1 := Stp.cell (ms := [p]) (o := .tup [.int a, .int b, .int c]) eb nt
  refine ⟨_, hs, ?_⟩
  dsimp only [tCons, tNil, tC]
  refine draw_s (n := 3) s1.in_ hb (hP.n1 nt) (by decide) (by decide) fun r1 H2 a0 a1 s2 P2 b2 => ?_
  have ht1 : H2 t = some (.tup [.int a, .int b, .int c]) := (b2 t (hP.ne nt)).trans upd_same
  obtain ⟨v, hv, hk⟩ := at3 (a := V.int a) (b := V.int b) (c := V.int c) a0 a1
  obtain ⟨n, rfl, h0, h1⟩ : ∃ n : Int, v = .int n ∧ 0 < n ∧ n ≤ m := by
    rcases hk with rfl | rfl | rfl
    · exact ⟨a, rfl, ha⟩
    · exact ⟨b, rfl, hB⟩
    · exact ⟨c, rfl, hc⟩
  refine ⟨t, _, r1, .int n, rfl, rfl, st_of ht1, hv, ?_⟩
  have s12 := s1.trans s2
  exact draw_s (n := n) s12.in_ hb P2 h0 (by omega) fun r H3 c0 c1 s3 P3 _ => k r H3 c0 (by omega) (s12.trans s3) P3
/-- draw(pool, (a, b)[draw(pool, 2)]) -/
theorem draw2 {σ : L2.St} {H B : Hp} {p : Addr} {a b m : Int} {E1 E2 : XK} {Q : VK} (hs : σ[0]? = some (some (.ref p))) (eb : Ex B H) (hb : B p = none) (hP : Pool p B H) (ha : 0 < a ∧ a ≤ m) (hB : 0 < b ∧ b ≤ m) (hm : m ≤ 1000)
    (k : ∀ (r : Int) (H2 : Hp), 0 ≤ r → r < m → Stp [p] B H B H2 → Pool p B H2 → Q (.int r) H2) :
    (fun (σ : L2.St) (H : Hp) (Q : VK) => tCons (tVar 0) (tCons (tOp (rIxT K) (tTup (tCons (tC (.int a)) (tCons (tC (.int b)) tNil))) fun σ H Q => tCons (tVar 0) (tCons (tC (.int 2)) tNil) σ H fun vs H1 => spDraw vs H1 Q E1) tNil) σ H fun vs H1 => spDraw vs H1 Q E2) σ H Q := by
  refine ⟨_, hs, ?_⟩
  refine ⟨by show 2 ≤ sizeLine; decide, fun t nt => ?_⟩
  have s1 := Stp.cell (ms := [p]) (o := .tup [.int a, .int b]) eb nt
  refine ⟨_, hs, ?_⟩
  dsimp only [tCons, tNil, tC]
  refine draw_s (n := 2) s1.in_ hb (hP.n1 nt) (by decide) (by decide) fun r1 H2 a0 a1 s2 P2 b2 => ?_
  have ht1 : H2 t = some (.tup [.int a, .int b]) := (b2 t (hP.ne nt)).trans upd_same
  obtain ⟨v, hv, hk⟩ := at2 (a := V.int a) (b := V.int b) a0 a1
  obtain ⟨n, rfl, h0, h1⟩ : ∃ n : Int, v = .int n ∧ 0 < n ∧ n ≤ m := by
    rcases hk with rfl | rfl
    · exact ⟨a, rfl, ha⟩
    · exact ⟨b, rfl, hB⟩
  refine ⟨t, _, r1, .int n, rfl, rfl, st_of ht1, hv, ?_⟩
  have s12 := s1.trans s2
  exact draw_s (n := n) s12.in_ hb P2 h0 (by omega) fun r H3 c0 c1 s3 P3 _ => k r H3 c0 (by omega) (s12.trans s3) P3
/-- an entry as the law draws it, in the base -/
def DrawnAt (B : Hp) (K : PySem.W.Frag) (v : V) (p : PE) : Prop := ∃ (t b l : Addr) (ls : List V), v = .ref t ∧ B t = some (.tup [.ref b, .ref l]) ∧ KeyAt K B b (viewK p.1) ∧ B l = some (.lst ls) ∧ Paired (fun x (q : Rat) => PairAt B x q.num q.den) ls p.2
theorem DrawnAt.mono {B B' : Hp} {v : V} {p : PE} (h : DrawnAt B K v p) (e : Ex B B') : DrawnAt B' K v p := by
  obtain ⟨t, b, l, ls, h1, h2, h3, h4, h5⟩ := h
  exact ⟨t, b, l, ls, h1, e _ _ h2, h3.mono e, e _ _ h4, paired_mono h5 fun _ _ z => z.mono e⟩
/-- what the law draws -/
structure LOk (p : PE) : Prop where
  v8 : p.1.length ≤ 8
  ev : ∀ e ∈ p.1, EvOk e
  l8 : p.2.length ≤ 8
  ne : p.2 ≠ []
  qs : ∀ q ∈ p.2, QOk q
  sm : sumR p.2 = 1
/-! ### the weights' fractions -/
theorem mk_add (a b : Int) {d : Nat} (h : d ≠ 0) : mkRat a d + mkRat b d = mkRat (a + b) d := by
  rw [Rat.mkRat_add_mkRat _ _ h h, ← Int.add_mul]
  exact Rat.mkRat_mul_right h
theorem sum_mk {d : Nat} (h : d ≠ 0) : ∀ (ws : List Int) (a : Int), (ws.map fun w => mkRat w d).foldl (· + ·) (mkRat a d) = mkRat (a + ws.sum) d
  | [], a => by rw [List.map_nil, List.foldl_nil, List.sum_nil, Int.add_zero]
  | w :: ws, a => by
    rw [List.map_cons, List.foldl_cons, mk_add _ _ h, sum_mk h ws, List.sum_cons, Int.add_assoc]
theorem sum_one {ws : List Int} (h : 0 < ws.sum) : sumR (ws.map fun w => mkRat w ws.sum.toNat) = 1 := by
  have hd : ws.sum.toNat ≠ 0 := by omega
  unfold sumR
  have := sum_mk hd ws 0
  rw [Int.zero_add, Rat.zero_mkRat] at this
  rw [this]
  obtain ⟨n, hn⟩ : ∃ n : Nat, ws.sum = (n : Int) := ⟨ws.sum.toNat, by omega⟩
  rw [hn, Int.toNat_natCast]
  have hn0 : n ≠ 0 := by omega
  have e := Rat.mkRat_mul_right (n := 1) (d := 1) (a := n) hn0
  rw [Int.one_mul, Nat.one_mul] at e
  rw [e]
  rfl
theorem qok_mk {w : Int} {s : Nat} (h0 : 0 ≤ w) (h1 : w ≤ s) (hs : 0 < s) (hz : s < 10 ^ 60) : QOk (mkRat w s) := by
  have e1 : (mkRat w s).num = w / (s.gcd w.natAbs : Int) := by rw [Rat.num_mkRat, if_neg (by omega)]
  have e2 : (mkRat w s).den = s / s.gcd w.natAbs := by rw [Rat.den_mkRat, if_neg (by omega)]
  refine ⟨?_, ?_, ?_⟩
  · rw [e1]; exact Int.ediv_nonneg h0 (by omega)
  · rw [e1]
    have : w / (s.gcd w.natAbs : Int) ≤ w := Int.ediv_le_self _ h0
    omega
  · rw [e2]
    exact Nat.lt_of_le_of_lt (Nat.div_le_self _ _) hz
end
end LL
namespace LL
open PySem PySem.Spec PyProof.Rows L2 He Evl ND
/-! ### the law's own way to tell a good line -/
def prodD (qs : List Rat) : Nat := qs.foldl (fun a q => a * q.den) 1
theorem prod_from : ∀ (qs : List Rat) (a : Nat), qs.foldl (fun a q => a * q.den) a = a * prodD qs
  | [], a => by unfold prodD; simp
  | q :: qs, a => by
    have h1 := prod_from qs (a * q.den)
    have h2 := prod_from qs (1 * q.den)
    unfold prodD
    rw [List.foldl_cons, List.foldl_cons, h1, h2, Nat.one_mul, Nat.mul_assoc]
theorem prod_cons (q : Rat) (qs : List Rat) : prodD (q :: qs) = q.den * prodD qs := by
  have := prod_from qs (1 * q.den)
  unfold prodD at this ⊢
  rw [List.foldl_cons, this, Nat.one_mul]
theorem prod_pos : ∀ qs : List Rat, 0 < prodD qs
  | [] => by unfold prodD; simp
  | q :: qs => by
    rw [prod_cons]
    exact Nat.mul_pos q.den_pos (prod_pos qs)
theorem prod_dvd : ∀ {qs : List Rat} {q : Rat}, q ∈ qs → q.den ∣ prodD qs
  | p :: qs, q, h => by
    rw [prod_cons]
    rcases List.mem_cons.mp h with rfl | h
    · exact Nat.dvd_mul_right _ _
    · exact Nat.dvd_trans (prod_dvd h) (Nat.dvd_mul_left _ _)
/-- num * (whole // den), all of them -/
def partsR (w : Nat) (qs : List Rat) : List Int := qs.map fun q => q.num * ((w / q.den : Nat) : Int)
theorem part_mk {w : Nat} {q : Rat} (hw : 0 < w) (h : q.den ∣ w) : mkRat (q.num * ((w / q.den : Nat) : Int)) w = q := by
  obtain ⟨k, rfl⟩ := h
  have hk : k ≠ 0 := fun z => by rw [z] at hw; simp at hw
  rw [Nat.mul_div_cancel_left _ q.den_pos]
  have := Rat.mkRat_mul_right (n := q.num) (d := q.den) hk
  rw [this, Rat.mkRat_self]
theorem sum_parts {w : Nat} {qs : List Rat} (hw : 0 < w) (h : ∀ q ∈ qs, q.den ∣ w) : sumR qs = mkRat (partsR w qs).sum w := by
  have e : qs = (partsR w qs).map fun x => mkRat x w := by
    unfold partsR
    rw [List.map_map]
    conv => lhs; rw [← List.map_id qs]
    exact List.map_congr_left fun q hq => (part_mk hw (h q hq)).symm
  have := sum_mk (d := w) (by omega) (partsR w qs) 0
  rw [Int.zero_add, Rat.zero_mkRat, ← e] at this
  exact this
theorem mk_one {n : Int} {w : Nat} (hw : 0 < w) : mkRat n w = 1 ↔ n = w := by
  have e : (1 : Rat) = mkRat w w := by
    have := Rat.mkRat_mul_right (n := 1) (d := 1) (a := w) (by omega)
    rw [Int.one_mul, Nat.one_mul] at this
    rw [this]; rfl
  rw [e, Rat.mkRat_eq_iff (by omega) (by omega)]
  constructor
  · intro h
    exact Int.eq_of_mul_eq_mul_right (by omega) h
  · intro h; rw [h]
theorem sum_is_one {qs : List Rat} : sumR qs = 1 ↔ (partsR (prodD qs) qs).sum = prodD qs := by
  rw [sum_parts (prod_pos qs) fun q hq => prod_dvd hq, mk_one (prod_pos qs)]
/-! ### the first bad line -/
theorem planBad_snoc : ∀ {a : List Ent} {e : Ent} {seen : List NestedKey} {i : Nat}, planBad seen i a = none → (planBad seen i (a ++ [e]) = none ↔ okE (seen ++ a.map (·.1)) e = true)
  | [], e, seen, i, _ => by
    rw [List.nil_append, List.map_nil, List.append_nil]
    unfold planBad
    by_cases z : okE seen e = true
    · rw [if_pos z, z]
      exact ⟨fun _ => rfl, fun _ => rfl⟩
    · rw [if_neg z]
      exact ⟨(fun h => by cases h), fun h => absurd h z⟩
  | d :: a, e, seen, i, h => by
    unfold planBad at h
    by_cases z : okE seen d = true
    · rw [if_pos z] at h
      rw [List.cons_append, planBad, if_pos z, planBad_snoc h, List.map_cons, List.append_assoc]
      rfl
    · rw [if_neg z] at h
      cases h
/-- what a good line is -/
def GoodP (seen : List (List Evt)) (W : List Str) (p : PE) : Prop := POk p ∧ W = lineW p ∧ p.2 ≠ [] ∧ sumR p.2 = 1 ∧ p.1 ∉ seen
open Classical in
noncomputable def firstBad (seen : List (List Evt)) (i : Nat) : List Str → Option Nat
  | [] => none
  | l :: r => if h : ∃ p, GoodP seen (Txt.split l " ") p then firstBad (seen ++ [h.choose.1]) (i + 1) r else some i
theorem good_ok {ps : List PE} {p : PE} (hp : POk p) : okE ((ps.map entE).map (·.1)) (entE p) = true ↔ (p.2 ≠ [] ∧ sumR p.2 = 1 ∧ p.1 ∉ ps.map (·.1)) := by
  unfold okE
  have e3 : (entE p).2.all (fun q => decide (0 ≤ q.num)) = true := List.all_eq_true.mpr fun q hq => decide_eq_true (hp.2.2.2 q hq).1
  have e1 : (entE p).1 ∈ (ps.map entE).map (·.1) ↔ p.1 ∈ ps.map (·.1) := by
    rw [List.map_map, List.mem_map, List.mem_map]
    constructor
    · rintro ⟨q, hq, h⟩
      exact ⟨q, hq, viewK_inj h⟩
    · rintro ⟨q, hq, h⟩
      exact ⟨q, hq, congrArg viewK h⟩
  have e2 : (entE p).2.isEmpty = decide (p.2 = []) := by
    show p.2.isEmpty = _
    cases p.2 <;> rfl
  have e4 : (entE p).2 = p.2 := rfl
  rw [e3, e2, e4, Bool.true_and]
  by_cases h1 : p.1 ∈ ps.map (·.1)
  · rw [decide_eq_true (e1.mpr h1)]
    exact ⟨fun h => Bool.noConfusion h, fun h => absurd h1 h.2.2⟩
  · rw [decide_eq_false (fun z => h1 (e1.mp z))]
    by_cases h2 : p.2 = []
    · rw [decide_eq_true h2]
      exact ⟨fun h => Bool.noConfusion h, fun h => absurd h2 h.1⟩
    · rw [decide_eq_false h2]
      by_cases h3 : sumR p.2 = 1
      · rw [decide_eq_true h3]
        exact ⟨fun _ => ⟨h2, h3, h1⟩, fun _ => rfl⟩
      · rw [decide_eq_false h3]
        exact ⟨fun h => Bool.noConfusion h, fun h => absurd h.2.1 h3⟩
theorem rats_inj_txt : ∀ {ps qs : List Rat}, (∀ q ∈ ps, QOk q) → (∀ q ∈ qs, QOk q) → ps.map ratStr = qs.map ratStr → ps = qs
  | [], [], _, _, _ => rfl
  | [], _ :: _, _, _, h => by cases h
  | _ :: _, [], _, _, h => by cases h
  | p :: ps, q :: qs, hp, hq, h => by
    rw [List.map_cons, List.map_cons] at h
    obtain ⟨h1, h2⟩ := List.cons.inj h
    have a := (hp p (.head _)).txt
    rw [h1] at a
    rw [ratTxt_inj a (hq q (.head _)).txt, rats_inj_txt (fun x hx => hp x (.tail _ hx)) (fun x hx => hq x (.tail _ hx)) h2]
theorem line_uniq {p q : PE} (hp : POk p) (hq : POk q) (h : lineW p = lineW q) : p = q := by
  obtain ⟨m, h1, h2⟩ := first_do (W := lineW p) (by simp [lineW])
  obtain ⟨_, a1, a2⟩ := line_do hp h1 h2
  rw [h] at h1 h2
  obtain ⟨_, b1, b2⟩ := line_do hq h1 h2
  rw [h, b1] at a1
  rw [h, b2] at a2
  exact Prod.ext (viewW_inj hq.2.1 hp.2.1 a1.symm) (rats_inj_txt hp.2.2.2 hq.2.2.2 a2.symm)
theorem first_none : ∀ {ls : List Str} {ps : List PE} {i : Nat}, firstBad (ps.map (·.1)) i ls = none → planBad [] 0 (ps.map entE) = none →
    ∃ qs : List PE, ls.map (Txt.split · " ") = qs.map lineW ∧ (∀ p ∈ qs, POk p) ∧ planBad [] 0 ((ps ++ qs).map entE) = none
  | [], ps, i, _, hb => ⟨[], rfl, (fun _ h => nomatch h), by rw [List.append_nil]; exact hb⟩
  | l :: r, ps, i, h, hb => by
    unfold firstBad at h
    by_cases z : ∃ p, GoodP (ps.map (·.1)) (Txt.split l " ") p
    · rw [dif_pos z] at h
      obtain ⟨g1, g2, g3, g4, g5⟩ := z.choose_spec
      have hb2 : planBad [] 0 ((ps ++ [z.choose]).map entE) = none := by
        rw [List.map_append]
        exact (planBad_snoc hb).mpr ((good_ok g1).mpr ⟨g3, g4, g5⟩)
      have h' : firstBad ((ps ++ [z.choose]).map (·.1)) (i + 1) r = none := by rw [List.map_append]; exact h
      obtain ⟨qs, q1, q2, q3⟩ := first_none h' hb2
      refine ⟨z.choose :: qs, by rw [List.map_cons, List.map_cons, q1]; exact congrArg (· :: qs.map lineW) g2, fun p hp => ?_, by rw [List.append_assoc] at q3; exact q3⟩
      rcases List.mem_cons.mp hp with rfl | hp
      · exact g1
      · exact q2 p hp
    · rw [dif_neg z] at h
      cases h
theorem first_some : ∀ {ls : List Str} {ps : List PE} {i k : Nat}, firstBad (ps.map (·.1)) i ls = some k → planBad [] 0 (ps.map entE) = none →
    ∃ (j : Nat) (l : Str) (qs : List PE), k = i + j ∧ ls[j]? = some l ∧ (ls.take j).map (Txt.split · " ") = qs.map lineW ∧ (∀ p ∈ qs, POk p) ∧ planBad [] 0 ((ps ++ qs).map entE) = none ∧
      ((∀ p, POk p → Txt.split l " " ≠ lineW p) ∨ ∃ p, POk p ∧ Txt.split l " " = lineW p ∧ planBad [] 0 (((ps ++ qs) ++ [p]).map entE) ≠ none)
  | [], ps, i, k, h, _ => by cases h
  | l :: r, ps, i, k, h, hb => by
    unfold firstBad at h
    by_cases z : ∃ p, GoodP (ps.map (·.1)) (Txt.split l " ") p
    · rw [dif_pos z] at h
      obtain ⟨g1, g2, g3, g4, g5⟩ := z.choose_spec
      have hb2 : planBad [] 0 ((ps ++ [z.choose]).map entE) = none := by
        rw [List.map_append]
        exact (planBad_snoc hb).mpr ((good_ok g1).mpr ⟨g3, g4, g5⟩)
      have h' : firstBad ((ps ++ [z.choose]).map (·.1)) (i + 1) r = some k := by rw [List.map_append]; exact h
      obtain ⟨j, l', qs, e, hj, q1, q2, q3, q4⟩ := first_some h' hb2
      refine ⟨j + 1, l', z.choose :: qs, by omega, hj, by rw [List.take_succ_cons, List.map_cons, List.map_cons, q1]; exact congrArg (· :: qs.map lineW) g2, fun p hp => ?_, by rw [List.append_assoc] at q3; exact q3, ?_⟩
      · rcases List.mem_cons.mp hp with rfl | hp
        · exact g1
        · exact q2 p hp
      · rw [List.append_assoc ps [z.choose] qs] at q4
        exact q4
    · rw [dif_neg z] at h
      cases h
      refine ⟨0, l, [], rfl, rfl, rfl, (fun _ h => nomatch h), by rw [List.append_nil]; exact hb, ?_⟩
      by_cases y : ∃ p, POk p ∧ Txt.split l " " = lineW p
      · obtain ⟨p, y1, y2⟩ := y
        refine .inr ⟨p, y1, y2, fun hn => z ⟨p, ?_⟩⟩
        rw [List.append_nil, List.map_append] at hn
        obtain ⟨g3, g4, g5⟩ := (good_ok y1).mp ((planBad_snoc hb).mp hn)
        exact ⟨y1, y2, g3, g4, g5⟩
      · exact .inl fun p y1 y2 => y ⟨p, y1, y2⟩
end LL
namespace LL
open PySem PySem.Spec PyProof.Rows L2 He Evl ND
theorem lt1 (a b : Nat) : (([a] : List Nat) < [b]) ↔ a < b := by
  rw [List.cons_lt_cons_iff]
  constructor
  · rintro (h | ⟨_, h⟩)
    · exact h
    · exact absurd h (List.not_lt_nil _)
  · exact fun h => .inl h
section
variable {w : World} {K : PySem.W.Frag} {mg : Str → Option Value} {base : Heap}
theorem fn_l_digits (T : Txt K mg) : Fn P w K mg base 1 (ga K "_law_digits") (spDig) := by
  refine fn_def T.d_l_digits sc_l_digits (fun _ _ _ _ _ _ us hl => match us, hl with | [_], _ => rfl) (fun vs H Q E h => ?_) (fun cdv A outer s H vs Q E hr h => ?_)
  · obtain ⟨x, rfl, _⟩ := h
    rfl
  obtain ⟨x, rfl, hl, kg, kb⟩ := h
  have nd := sc_l_digits.nd
  refine ⟨_, pss_cons (ps_if (pt_not (pt_chain op_lt op_lt (pe_int) (pe_callB call_len_str (by rfl) T.f_len (by decide +kernel) (pa_cons (pv 0) pa_nil)) (pe_int))) (pss_one (ps_ret (pe_non))) (pss_nil))
      (pss_cons (ps_for (passes_of rfl) rfl (pi_str (pv 0)) (pg_name (i := 1) nd rfl (by first | exact Or.inl rfl | exact Or.inr rfl)) (pss_one (ps_if (pt_not (pt_chain op_le_str op_le_str (pe_str) (pv 1) (pe_str))) (pss_one (ps_ret (pe_non))) (pss_nil))))
      (pss_cons (ps_if (PW.pt (pw_and (pt_cmpR op_eq (pe_ix ix_str (pv 0) (pe_int) (fun _ _ => rfl)) (pe_str) (nomark _)) (pw_and1 (pt_cmpR op_gt (pe_callB call_len_str (by rfl) T.f_len (by decide +kernel) (pa_cons (pv 0) pa_nil)) (pe_int) (nomark _))))) (pss_one (ps_ret (pe_non))) (pss_nil))
      (pss_one (ps_ret (pe_callTy call_int_str (by rfl) T.f_int (by decide +kernel) (pa_cons (pv 0) pa_nil)))))), ?_⟩
  have hs : x.length ≤ sizeLine := slen x hl
  have hxl : x.length = x.cps.toList.length := by simp [Str.length]
  refine q_when (b := !(decide (0 < x.length) && decide (x.length < 61))) (et_not (et_test ?_)) (fun c H1 e1 => ?_) (fun c H1 e1 => ?_)
  · intro H1 e1 Q1 q1
    refine ⟨_, rfl, x, rfl, hs, _, _, rfl, rfl, _, rfl, ?_⟩
    rw [show decide ((0 : Int) < (x.length : Nat)) = decide (0 < x.length) from decide_eq_decide.mpr (by omega)]
    by_cases z : 0 < x.length
    · rw [decide_eq_true z, if_pos rfl]
      refine ⟨_, _, rfl, rfl, ?_⟩
      rw [decide_eq_true z, Bool.true_and] at q1
      show Q1 (V.bl (decide (((x.length : Nat) : Int) < 61))) H1
      rw [show decide (((x.length : Nat) : Int) < 61) = decide (x.length < 61) from decide_eq_decide.mpr (by omega)]
      exact q1 H1 (Ex.refl _)
    · rw [decide_eq_false z] at q1 ⊢
      exact q1 H1 (Ex.refl _)
  · refine kb (fun n hn => ?_) H1 e1
    obtain ⟨l1, l2⟩ := hn.len
    rw [decide_eq_true (show 0 < x.length by omega), decide_eq_true (show x.length < 61 by omega)] at c
    exact Bool.noConfusion c
  · have c1 : 1 ≤ x.length ∧ x.length ≤ 60 := by
      by_cases z1 : 0 < x.length
      · by_cases z2 : x.length < 61
        · omega
        · rw [decide_eq_true z1, decide_eq_false z2] at c
          exact Bool.noConfusion c
      · rw [decide_eq_false z1] at c
        exact Bool.noConfusion c
    obtain ⟨l1, l2⟩ := c1
    refine ⟨_, rfl, x, rfl, for_it (n := x.cps.size) walk_str (fun i σ H' => ∃ u1 : Option V, Ex H1 H' ∧ σ = [some (.str x), u1] ∧ ∀ c ∈ x.cps.toList.take i, 48 ≤ c ∧ c ≤ 57) ⟨_, Ex.refl _, rfl, by simp⟩ (fun _ _ _ _ _ => trivial) ?_ ?_⟩
    · rintro i y σ H2' H2 hi ⟨u1, e2, rfl, hd⟩ ⟨rfl, c, hc, rfl⟩
      have hm : x.cps.toList[i]? = some c := by rw [← hc, Array.getElem?_toList]
      refine s_when (b := !(decide (48 ≤ c) && decide (c ≤ 57))) (et_not (et_test ?_)) (fun cc H3 e3 => ?_) (fun cc H3 e3 => ?_)
      · intro H3 e3 Q3 q3
        refine ⟨_, rfl, "0", ⟨#[c]⟩, rfl, rfl, _, rfl, ?_⟩
        have e1' : (!decide (([c] : List Nat) < [48])) = decide (48 ≤ c) := by
          rw [show decide (([c] : List Nat) < [48]) = decide (c < 48) from decide_eq_decide.mpr (lt1 c 48)]
          by_cases z : c < 48
          · rw [decide_eq_true z, decide_eq_false (by omega)]; rfl
          · rw [decide_eq_false z, decide_eq_true (by omega)]; rfl
        have e2' : (!decide (([57] : List Nat) < [c])) = decide (c ≤ 57) := by
          rw [show decide (([57] : List Nat) < [c]) = decide (57 < c) from decide_eq_decide.mpr (lt1 57 c)]
          by_cases z : 57 < c
          · rw [decide_eq_true z, decide_eq_false (by omega)]; rfl
          · rw [decide_eq_false z, decide_eq_true (by omega)]; rfl
        show if (!decide (([c] : List Nat) < [48])) = true then _ else _
        rw [e1']
        by_cases z : 48 ≤ c
        · rw [decide_eq_true z, if_pos rfl]
          refine ⟨⟨#[c]⟩, "9", rfl, rfl, ?_⟩
          show Q3 (.bl (!decide (([57] : List Nat) < [c]))) H3
          rw [e2']
          rw [decide_eq_true z, Bool.true_and] at q3
          exact q3 H3 (Ex.refl _)
        · rw [decide_eq_false z] at q3 ⊢
          exact q3 H3 (Ex.refl _)
      · refine kb (fun n hn => ?_) H3 (e1.trans (e2.trans e3))
        have := hn.dig c (List.mem_of_getElem? hm)
        rw [decide_eq_true this.1, decide_eq_true this.2] at cc
        exact Bool.noConfusion cc
      · refine ⟨_, e2.trans e3, rfl, fun d hd2 => ?_⟩
        rw [List.take_add_one, hm] at hd2
        rcases List.mem_append.mp hd2 with hd2 | hd2
        · exact hd d hd2
        · rcases List.mem_singleton.mp hd2 with rfl
          by_cases z1 : 48 ≤ d
          · by_cases z2 : d ≤ 57
            · exact ⟨z1, z2⟩
            · rw [decide_eq_true z1, decide_eq_false z2] at cc; exact Bool.noConfusion cc
          · rw [decide_eq_false z1] at cc; exact Bool.noConfusion cc
    · rintro σ H2 ⟨u1, e2, rfl, hd⟩
      rw [show x.cps.size = x.cps.toList.length from by simp, List.take_length] at hd
      obtain ⟨c0, hc0⟩ : ∃ c0, x.cps.toList[0]? = some c0 := ⟨_, List.getElem?_eq_getElem (by omega)⟩
      have e0 : decide ((V.str ⟨#[c0]⟩) = V.str ("0" : Str)) = decide (c0 = 48) := decide_eq_decide.mpr ⟨fun h => by
        have h2 : ([c0] : List Nat) = [48] := congrArg (fun x : Str => x.cps.toList) (V.str.inj h)
        exact (List.cons.inj h2).1, fun h => by rw [h]; rfl⟩
      have e12 := e1.trans e2
      refine q_when (b := decide (c0 = 48) && decide (1 < x.length)) (et_and (et_test (ev_is (ev_op (ev_op (ev_var rfl) ev_c (rv_ixS (by omega) (atI_nat (j := 0) hc0))) ev_c (rv_eq rfl)) (congrArg V.bl e0))) fun _ => et_test (ev_is (ev_op (fun H3 e3 Q3 q3 => ⟨_, rfl, x, rfl, hs, q3 H3 (Ex.refl _)⟩) ev_c rv_I0) (congrArg V.bl (decide_eq_decide.mpr (by omega))))) (fun c2 H3 e3 => ?_) (fun c2 H3 e3 => ?_)
      · refine kb (fun n hn => ?_) H3 (e12.trans e3)
        rcases hn.head with h | ⟨c, hc, hge⟩
        · have : x.length = 1 := by rw [h]; rfl
          rw [decide_eq_false (show ¬ 1 < x.length by omega)] at c2
          simp at c2
        · rw [hc] at hc0
          cases hc0
          rw [decide_eq_false (by omega)] at c2
          exact Bool.noConfusion c2
      · obtain ⟨n, hn⟩ := num_of l1 l2 hd (by
          by_cases z : c0 = 48
          · left
            have hl1 : x.length = 1 := by
              by_cases y : 1 < x.length
              · rw [decide_eq_true z, decide_eq_true y] at c2; exact Bool.noConfusion c2
              · omega
            refine str_l ?_
            cases hx : x.cps.toList with
            | nil => rw [hx] at hc0; cases hc0
            | cons a r =>
              rw [hx] at hc0 hxl
              cases hc0
              have : r = [] := List.length_eq_zero_iff.mp (by rw [List.length_cons] at hxl; omega)
              rw [this, z]
              rfl
          · exact .inr fun y => z (Option.some.inj (hc0.symm.trans y)))
        exact ⟨_, rfl, x, _, rfl, hn.val, by omega, kg n H3 hn (e12.trans e3)⟩
end
end LL
namespace LL
open PySem PySem.Spec PyProof.Rows L2 He Evl ND
section
variable {w : World} {K : PySem.W.Frag} {mg : Str → Option Value} {base : Heap}
theorem joinL_cnt {c : Nat} : ∀ L : List (List Nat), L.length ≤ (TL.joinL [c] L).length + 1
  | [] => Nat.zero_le _
  | [p] => by show 1 ≤ _; omega
  | p :: q :: r => by
    have ih := joinL_cnt (c := c) (q :: r)
    show (q :: r).length + 1 ≤ (p ++ ([c] ++ TL.joinL [c] (q :: r))).length + 1
    rw [List.length_append, List.length_append, List.length_singleton]
    omega
theorem split_cnt {x s : Str} {c : Nat} (es : s.cps.toList = [c]) (hc : c < 256) : (Txt.split x s).length ≤ x.length + 1 := by
  obtain ⟨_, h⟩ := split_back (x := x) es hc
  have e := joinL_cnt (c := c) ((Txt.split x s).map TL.tl)
  rw [List.length_map] at e
  have e2 : x.length = (TL.joinL [c] ((Txt.split x s).map TL.tl)).length := by
    conv => lhs; rw [← h]
    rw [TL.join_eq, TL.len_tl, TL.tl_join, show TL.tl s = [c] from es]
  omega
/-- the law's own reading of a fraction -/
def spLRead : Sp := fun us H Q _ => ∃ x : Str, us = [.str x] ∧ x.length ≤ 1000 ∧ (∀ q v H2, RatTxt x q → Ex H H2 → PairAt H2 v q.num q.den → Q v H2) ∧ ((∀ q, ¬ RatTxt x q) → ∀ H2, Ex H H2 → Q .non H2)
theorem fn_l_read (T : Txt K mg) : Fn P w K mg base 2 (ga K "_law_read") (spLRead) := by
  refine fn_def T.d_l_read sc_l_read (fun _ _ _ _ _ _ us hl => match us, hl with | [_], _ => rfl) (fun vs H Q E h => ?_) (fun cdv A outer s H vs Q E hr h => ?_)
  · obtain ⟨x, rfl, _⟩ := h
    rfl
  obtain ⟨x, rfl, hl, kg, kb⟩ := h
  have nd := sc_l_read.nd
  refine ⟨_, pss_cons (ps_set (i := 1) nd rfl (by first | exact Or.inl rfl | exact Or.inr rfl) (pe_split (pv 0) (pe_str)))
      (pss_cons (ps_setLc (i := 3) (own := [("_law_part", 2)]) (g := gName 2) (tt := tYes) rfl nd rfl rfl (sw_true rfl rfl rfl (by decide +kernel)) (pi_list (pv 1)) (blkOk_by (N := n_l_read) (sc := defScope s_l_read) (by decide +kernel)) (fun _ _ _ _ _ => pg_name (i := 2) nd rfl (by first | exact Or.inl rfl | exact Or.inr rfl)) (fun _ _ _ _ _ => pts_nil) (fun _ _ _ _ _ => pe_fn T.d_l_digits (fn_l_digits T) (hr.mono (by decide)) T.g_l_digits pcN (pa_cons (pv 2) pa_nil)))
      (pss_cons (ps_if (PW.pt (pw_or (pt_cmpR op_in_seq (pe_non) (pv 3) rfl) (pw_or1 (pt_cmpR op_gt (pe_callB call_len_seq (by rfl) T.f_len PySem.boot_len (pa_cons (pv 1) pa_nil)) (pe_int) (nomark _))))) (pss_one (ps_ret (pe_non))) (pss_nil))
      (pss_cons (ps_if (pt_cmpR op_eq (pe_callB call_len_seq (by rfl) T.f_len PySem.boot_len (pa_cons (pv 1) pa_nil)) (pe_int) (nomark _)) (pss_one (ps_ret (pe_tup (pa_cons (pe_ix ix_list (pv 3) (pe_int) (fun _ _ => rfl)) (pa_cons (pe_int) pa_nil))))) (pss_nil))
      (pss_cons (ps_if (PW.pt (pw_or (pt_cmpR op_lt (pe_ix ix_list (pv 3) (pe_int) (fun _ _ => rfl)) (pe_int) (nomark _)) (pw_or1 (pt_cmpR (op_neD hr.units) (pe_fn T.d_l_less (fn_l_less T) (hr.mono (by decide)) T.g_l_less pc (pa_cons (pe_ix ix_list (pv 3) (pe_int) (fun _ _ => rfl)) (pa_cons (pe_ix ix_list (pv 3) (pe_int) (fun _ _ => rfl)) pa_nil))) (pe_tup (pa_cons (pe_ix ix_list (pv 3) (pe_int) (fun _ _ => rfl)) (pa_cons (pe_ix ix_list (pv 3) (pe_int) (fun _ _ => rfl)) pa_nil))) (nomark _))))) (pss_one (ps_ret (pe_non))) (pss_nil))
      (pss_one (ps_ret (pe_tup (pa_cons (pe_ix ix_list (pv 3) (pe_int) (fun _ _ => rfl)) (pa_cons (pe_ix ix_list (pv 3) (pe_int) (fun _ _ => rfl)) pa_nil))))))))), ?_⟩
  have hbig : (100000 : Nat) ≤ sizeLine := by decide
  obtain ⟨pne, pj⟩ := split_back (x := x) (s := ("/" : Str)) (c := 47) rfl (by decide)
  have hcnt := split_cnt (x := x) (s := ("/" : Str)) (c := 47) rfl (by decide)
  have hlen : ∀ p ∈ Txt.split x "/", p.length ≤ 1000 := fun p hp => Nat.le_trans (join_mem_len hp) (by rw [pj]; exact hl)
  have hpart := fun (q : Rat) (h : RatTxt x q) => h.parts
  refine ⟨_, rfl, ⟨x, rfl⟩, x, "/", rfl, rfl, by decide, by omega, fun a na => ?_⟩
  revert pne pj hlen hpart hcnt
  generalize Txt.split x "/" = ps
  intro pne pj hcnt hlen hpart
  have e1 : Ex H (upd H a (.lst (ps.map V.str))) := Ex.new na
  have hs1 : SqL K (upd H a (.lst (ps.map V.str))) a (ps.map V.str) := SqL.of upd_same
  dsimp only [gName]
  refine q_asgL (xs := ps.map digV) (lcL (xs := ps.map V.str) (ev_var rfl) hs1 (by rw [List.length_map, List.length_map]) (by rw [List.length_map]; omega) (fun _ => rfl) (fun i y z hy hz => ?_)) (fun N H2 nN e2 hN => ?_)
  · rw [List.getElem?_map] at hy hz
    cases hy1 : ps[i]? with
    | none => rw [hy1] at hy; cases hy
    | some q =>
      rw [hy1] at hy hz
      cases hy
      cases hz
      exact fun H6 x6 Q6 q6 => ⟨_, rfl, sp_dig (hlen q (List.mem_of_getElem? hy1)) H6 x6 Q6 q6 (fun _ _ _ => False)⟩
  · have none_of : inV .non (ps.map digV) = true → ∀ q, ¬ RatTxt x q := fun c q hq => by
      obtain ⟨y, hy, hy2⟩ := digV_in.mp c
      rcases hpart q hq with ⟨_, h, hn⟩ | ⟨_, h, hn, hd⟩
      · rw [h] at hy
        rcases List.mem_singleton.mp hy with rfl
        exact hy2 _ hn
      · rw [h] at hy
        simp only [List.mem_cons, List.not_mem_nil, or_false] at hy
        rcases hy with rfl | rfl
        · exact hy2 _ hn
        · exact hy2 _ hd
    have e12 := e1.trans e2
    refine q_when (b := inV .non (ps.map digV) || decide (2 < ps.length)) (et_or (et_test (ev_op ev_c (ev_var rfl) (rv_isL (sq_of hN) rfl (by rw [List.all_map]; exact List.all_eq_true.mpr fun x _ => digV_flat x)))) fun _ => et_test (ev_is (ev_op (ev_len (ev_var rfl) (ex_l e2 hs1)) ev_c rv_I0) (congrArg V.bl (decide_eq_decide.mpr (by rw [List.length_map]; omega))))) (fun c H3 e3 => ?_) (fun c H3 e3 => ?_)
    · refine kb (fun q hq => ?_) H3 (e12.trans e3)
      by_cases z : inV .non (ps.map digV) = true
      · exact none_of z q hq
      · rw [Bool.eq_false_iff.mpr z, Bool.false_or] at c
        have c := of_decide_eq_true c
        rcases hpart q hq with ⟨_, h, _⟩ | ⟨_, h, _⟩
        · rw [h] at c; simp at c
        · rw [h] at c; simp at c
    · rw [Bool.or_eq_false_iff] at c
      obtain ⟨c1, c2⟩ := c
      have c2 := of_decide_eq_false c2
      obtain ⟨ns, hns, hn60⟩ := nums_of (ws := ps) fun y hy => by
        by_cases z : ∃ m, Num y m
        · exact z
        · have c3 := digV_in.mpr ⟨y, hy, fun m hm => z ⟨m, hm⟩⟩
          rw [c3] at c1
          exact Bool.noConfusion c1
      have hN3 : H3 N = some (.lst (ns.map fun n => V.int (n : Nat))) := by rw [← digV_nums hn60, ← hns]; exact e3 _ _ hN
      have e13 := e12.trans e3
      have hs3 := ex_l (e2.trans e3) hs1
      have hpl : ps.length = ns.length := by rw [hns, List.length_map]
      refine q_when (b := decide (ns.length = 1)) (et_test (ev_is (ev_op (ev_len (ev_var rfl) hs3) ev_c (rv_eq rfl)) (congrArg V.bl (decide_eq_decide.mpr ⟨fun h => by have := V.int.inj h; rw [List.length_map] at this; omega, fun h => by rw [List.length_map, hpl, h]; rfl⟩)))) (fun c H4 e4 => ?_) (fun c H4 e4 => ?_)
      · obtain ⟨n, rfl⟩ : ∃ n, ns = [n] := by
          match ns, of_decide_eq_true c with
          | [n], _ => exact ⟨n, rfl⟩
        have hn : Num (istr (n : Nat)) n := ⟨rfl, hn60 n (.head _)⟩
        rw [hns] at pj
        have pj : Txt.join "/" [istr (n : Nat)] = x := pj
        rw [join1] at pj
        subst pj
        refine ⟨_, rfl, N, _, ((0 : Nat) : Int), _, rfl, rfl, sq_of (e4 _ _ hN3), atI_nat (j := 0) rfl, by show 2 ≤ sizeLine; omega, fun t nt => ?_⟩
        refine kg (n : Rat) _ _ (ratTxt_one hn) (e13.trans (e4.trans (Ex.new nt))) ⟨t, rfl, ?_⟩
        rw [upd_same, Rat.num_natCast, Rat.den_natCast]
        rfl
      · obtain ⟨n, d, rfl⟩ : ∃ n d, ns = [n, d] := by
          have c := of_decide_eq_false c
          have hp0 : ps.length ≠ 0 := fun z => pne (List.length_eq_zero_iff.mp z)
          match ns, c, (by omega : ns.length ≠ 0), (by omega : ¬ 2 < ns.length) with
          | [n, d], _, _, _ => exact ⟨n, d, rfl⟩
          | [_], c, _, _ => exact absurd rfl c
          | [], _, c, _ => exact absurd rfl c
          | _ :: _ :: _ :: _, _, _, c => exact absurd (by simp) c
        have hn : Num (istr (n : Nat)) n := ⟨rfl, hn60 n (.head _)⟩
        have hd : Num (istr (d : Nat)) d := ⟨rfl, hn60 d (.tail _ (.head _))⟩
        rw [hns] at pj hpart
        have pj : Txt.join "/" [istr (n : Nat), istr (d : Nat)] = x := pj
        rw [join2] at pj
        have hN4 := e4 _ _ hN3
        have hmk : ∀ q, RatTxt x q → 2 ≤ d ∧ mkRat (n : Nat) d = q ∧ q.num = n ∧ q.den = d := fun q hq => by
          rcases hpart q hq with ⟨_, h, _⟩ | ⟨h2, h, hn', hd'⟩
          · have h1 : (2 : Nat) = 1 := congrArg List.length h
            omega
          · have h : [istr (n : Nat), istr (d : Nat)] = [istr q.num, istr (q.den : Int)] := h
            obtain ⟨g1, g2⟩ := List.cons.inj h
            rw [← g1] at hn'
            rw [← (List.cons.inj g2).1] at hd'
            have z1 := Num.inj hd hd'
            have z2 := Num.inj hn hn'
            have z3 : q.num = n := by rw [z2, Int.toNat_of_nonneg hq.1]
            exact ⟨by omega, by rw [z1, ← z3, Rat.mkRat_self], z3, z1.symm⟩
        refine q_when (b := decide (d < 2) || !decide ((mkRat (n : Nat) d).num = (n : Nat) ∧ ((mkRat (n : Nat) d).den : Int) = (d : Nat))) (et_or (et_test (ev_is (ev_op (ev_op (ev_var rfl) ev_c (rv_ixL (sq_of hN4) (atI_nat (j := 1) rfl))) ev_c rv_I0) (congrArg V.bl (decide_eq_decide.mpr (by omega))))) fun cd => et_test ?_) (fun c5 H5 e5 => ?_) (fun c5 H5 e5 => ?_)
        · intro H5 x5 Q5 q5
          have hd2 := of_decide_eq_false cd
          have hN5 := x5 _ _ hN4
          refine ⟨_, rfl, N, _, ((0 : Nat) : Int), _, rfl, rfl, sq_of hN5, atI_nat (j := 0) rfl, _, rfl, N, _, ((1 : Nat) : Int), _, rfl, rfl, sq_of hN5, atI_nat (j := 1) rfl, (n : Nat), (d : Nat), rfl, by omega, ?_, fun a1 na1 => ?_⟩
          · rw [Int.natAbs_natCast]
            exact Nat.lt_trans hd.2 (by decide +kernel)
          · have y1 := Ex.new (o := .tup [.int (mkRat (n : Nat) d).num, .int ((mkRat (n : Nat) d).den : Int)]) na1
            refine ⟨_, rfl, N, _, ((0 : Nat) : Int), _, rfl, rfl, sq_of (y1 _ _ hN5), atI_nat (j := 0) rfl, _, rfl, N, _, ((1 : Nat) : Int), _, rfl, rfl, sq_of (y1 _ _ hN5), atI_nat (j := 1) rfl, by show 2 ≤ sizeLine; omega, fun t nt => ?_⟩
            have y2 := Ex.new (o := .tup [.int (n : Nat), .int (d : Nat)]) nt
            refine ⟨.tuple [.int (mkRat (n : Nat) d).num, .int ((mkRat (n : Nat) d).den : Int)], .tuple [.int (n : Nat), .int (d : Nat)], Dp.tup (st_of (y2 _ _ upd_same)) (.cons (.int _) (.cons (.int _) .nil)), Dp.tup (st_of upd_same) (.cons (.int _) (.cons (.int _) .nil)), rfl, rfl, ?_⟩
            rw [eqv_pair]
            exact q5 _ (y1.trans y2)
        · refine kb (fun q hq => ?_) H5 (e13.trans (e4.trans e5))
          obtain ⟨g1, g2, g3, g4⟩ := hmk q hq
          rw [decide_eq_false (show ¬ d < 2 by omega), g2, decide_eq_true ⟨g3, by rw [g4]⟩] at c5
          exact Bool.noConfusion c5
        · rw [Bool.or_eq_false_iff] at c5
          obtain ⟨c6, c7⟩ := c5
          have hd2 := of_decide_eq_false c6
          have c8 : (mkRat (n : Nat) d).num = (n : Nat) ∧ ((mkRat (n : Nat) d).den : Int) = (d : Nat) := by
            by_cases z : (mkRat (n : Nat) d).num = (n : Nat) ∧ ((mkRat (n : Nat) d).den : Int) = (d : Nat)
            · exact z
            · rw [decide_eq_false z] at c7; exact Bool.noConfusion c7
          have hr : (mkRat (n : Nat) d).den = d := Int.ofNat.inj c8.2
          have hN5 := e5 _ _ hN4
          refine ⟨_, rfl, N, _, ((0 : Nat) : Int), _, rfl, rfl, sq_of hN5, atI_nat (j := 0) rfl, _, rfl, N, _, ((1 : Nat) : Int), _, rfl, rfl, sq_of hN5, atI_nat (j := 1) rfl, by show 2 ≤ sizeLine; omega, fun t nt => ?_⟩
          subst pj
          refine kg (mkRat (n : Nat) d) _ _ (ratTxt_two hn hd (by omega) hr) (e13.trans (e4.trans (e5.trans (Ex.new nt)))) ⟨t, rfl, ?_⟩
          rw [upd_same, c8.1, hr]
end
end LL
namespace LL
open PySem PySem.Spec PyProof.Rows L2 He Evl ND
/-! ### the law's good line -/
def GoodW (W : List Str) (p : PE) : Prop := POk p ∧ W = lineW p ∧ p.2 ≠ [] ∧ sumR p.2 = 1
open Classical in
noncomputable def goodB (W : List Str) : Bool := decide (∃ p, GoodW W p)
open Classical in
theorem goodB_iff {W : List Str} : goodB W = true ↔ ∃ p, GoodW W p := by unfold goodB; exact decide_eq_true_iff
theorem goodB_no {W : List Str} (h : ¬ ∃ p, GoodW W p) : goodB W = false := by
  cases e : goodB W with
  | false => rfl
  | true => exact absurd (goodB_iff.mp e) h
theorem goodB_dec {W : List Str} {c : Prop} [Decidable c] (h : (∃ p, GoodW W p) ↔ c) : goodB W = decide c := by
  by_cases z : c
  · rw [decide_eq_true z, goodB_iff.mpr (h.mpr z)]
  · rw [decide_eq_false z, goodB_no fun y => z (h.mp y)]
def cnts : List (Key × V) := [(.inr "shown", .int 1), (.inr "asked", .int 2), (.inr "did", .int 1)]
theorem cnts_val (x : Str) : valV cnts (.inr x) = (evCount x).map fun c => V.int (c : Nat) := by
  unfold evCount
  by_cases h1 : x = "shown"
  · subst h1; rfl
  by_cases h2 : x = "asked"
  · subst h2; rfl
  by_cases h3 : x = "did"
  · subst h3; rfl
  rw [if_neg h1, if_neg h2, if_neg h3]
  have e1 : ∀ y : Str, x ≠ y → decide ((Sum.inr y : Key) = .inr x) = false := fun y h => decide_eq_false fun z => h (Sum.inr.inj z).symm
  unfold valV cnts
  simp only [List.find?, e1 _ h1, e1 _ h2, e1 _ h3]
  rfl
theorem prod_snoc (a : List Rat) (q : Rat) : prodD (a ++ [q]) = prodD a * q.den := by
  unfold prodD
  rw [List.foldl_append]
  rfl
theorem prod_lt : ∀ {qs : List Rat}, (∀ q ∈ qs, q.den < 2 ^ 200) → prodD qs < 2 ^ (200 * qs.length + 1)
  | [], _ => by unfold prodD; decide
  | q :: qs, h => by
    rw [prod_cons]
    have := mul_lt_pow (h q (.head _)) (prod_lt fun x hx => h x (.tail _ hx))
    rw [List.length_cons, show 200 * (qs.length + 1) + 1 = 200 + (200 * qs.length + 1) by omega]
    exact this
theorem paired_mapR {α β γ : Type} {F : α → γ → Prop} {f : β → γ} : ∀ {xs : List α} {ys : List β}, Paired (fun x b => F x (f b)) xs ys → Paired F xs (ys.map f)
  | _, _, .nil => .nil
  | _, _, .cons p q => .cons p (paired_mapR q)
theorem pair_btx {c : Addr} {H H' : Hp} {x : V} {n d : Int} {ys : List V} (h : Btx c H H') (hc : H c = some (.lst ys)) (g : PairAt H x n d) : PairAt H' x n d := by
  obtain ⟨a, h1, h2⟩ := g
  exact ⟨a, h1, h a _ (fun z => by rw [z, hc] at h2; cases h2) h2⟩
def PairOr (H : Hp) (v : V) (o : Option Rat) : Prop := match o with | none => v = .non | some q => PairAt H v q.num q.den
theorem PairOr.mono {H H' : Hp} {v : V} {o : Option Rat} (e : Ex H H') (h : PairOr H v o) : PairOr H' v o := by
  cases o with
  | none => exact h
  | some q => exact PairAt.mono e h
theorem pairOr_btx {c : Addr} {H H' : Hp} {x : V} {o : Option Rat} {ys : List V} (h : Btx c H H') (hc : H c = some (.lst ys)) (g : PairOr H x o) : PairOr H' x o := by
  cases o with
  | none => exact g
  | some q => exact pair_btx h hc g
def orD : Option Rat → PyData
  | none => .none
  | some q => .tuple [.int q.num, .int (q.den : Int)]
theorem or_lay (o : Option Rat) : (orD o).canLay0 = true ∧ (orD o).depth ≤ 1 := by
  cases o with
  | none => exact ⟨rfl, by decide⟩
  | some q => exact ⟨rfl, Nat.le_refl _⟩
theorem or_eqv (o : Option Rat) : PyData.eqv (orD o) .none = o.isNone := by
  cases o with
  | none => rfl
  | some q => rfl
section
variable {w : World} {K : PySem.W.Frag} {mg : Str → Option Value} {base : Heap}
theorem or_dp {H : Hp} {v : V} {o : Option Rat} (h : PairOr H v o) : Dp K H v (orD o) := by
  cases o with
  | none => rw [show v = .non from h]; exact .non
  | some q =>
    obtain ⟨a, rfl, ha⟩ := h
    exact Dp.tup (st_of ha) (.cons (.int _) (.cons (.int _) .nil))
theorem ors_dp {H : Hp} : ∀ {xs : List V} {os : List (Option Rat)}, Paired (PairOr H) xs os → DpAll K H xs (os.map orD)
  | _, _, .nil => .nil
  | _, _, .cons a b => .cons (or_dp a) (ors_dp b)
section
variable {σ : L2.St} {H : Hp} {te tl ta tb : TE} {i j : Nat} {vs : List Nat} {xs ys : List V}
theorem ev_index {a : Addr} {ws : List Str} {m : Nat} {x : Str} (h : Ev te σ H (.ref a)) (ha : SqL K H a (ws.map V.str)) (hm : ws[m]? = some x) (hb : ∀ j, j < m → ws[j]? ≠ some x) : Ev (tBM K "list" (rIndex K) te (tCons (tC (.str x)) tNil)) σ H (.int (m : Nat)) := fun H1 e Q q =>
  h H1 e _ fun H2 e2 => by
    have hfl : (ws.map V.str).all flatV = true := by rw [List.all_map]; exact List.all_eq_true.mpr fun _ _ => rfl
    have h2 := ex_l (e.trans e2) ha
    refine ⟨.inl ⟨rfl, _, h2⟩, a, _, .str x, m, .str x, rfl, rfl, h2, rfl, hfl, by rw [List.getElem?_map, hm]; rfl, by rw [eqV_str]; simp, fun j z' hjm hz' => ?_, q H2 e2⟩
    rw [List.getElem?_map] at hz'
    obtain ⟨y, hy, rfl⟩ := Option.map_eq_some_iff.mp hz'
    rw [eqV_str]
    exact decide_eq_false fun z => hb j hjm (by rw [hy, z])
theorem ev_dget2 {d : Addr} {kvs : List (Key × V)} {x : Str} {z : V} (h : Ev te σ H (.ref d)) (hd : H d = some (.dK kvs)) (hx : Ev ta σ H (.str x)) (hz : Ev tb σ H z) : Ev (tDGet2 te ta tb) σ H ((valV kvs (.inr x)).getD z) := fun H1 e Q q =>
  h H1 e _ fun H2 e2 => ⟨d, rfl, .inl ⟨_, .inl ((e.trans e2) _ _ hd)⟩, hx H2 (e.trans e2) _ fun H3 e3 => hz H3 (e.trans (e2.trans e3)) _ fun H4 e4 => ⟨_, DGet.k (k := .inr x) ((e.trans (e2.trans (e3.trans e4))) _ _ hd), q H4 (e2.trans (e3.trans e4))⟩⟩
theorem ev_dget {d : Addr} {kvs : List (Key × V)} {x : Str} {z : V} (h : Ev te σ H (.ref d)) (hd : H d = some (.dK kvs)) (hx : Ev ta σ H (.str x)) (hv : valV kvs (.inr x) = some z) : Ev (tDGet te ta) σ H z := fun H1 e Q q =>
  h H1 e _ fun H2 e2 => hx H2 (e.trans e2) _ fun H3 e3 => ⟨d, _, rfl, by rw [← hv]; exact DGet.k (k := .inr x) ((e.trans (e2.trans e3)) _ _ hd), q H3 (e2.trans e3)⟩
theorem ev_dnotin {d : Addr} {kvs : List (Key × V)} {x : Str} (hx : Ev ta σ H (.str x)) (h : Ev te σ H (.ref d)) (hd : H d = some (.dK kvs)) : Ev (tDNotIn ta te) σ H (.bl (!(valV kvs (.inr x)).isSome)) := fun H1 e Q q =>
  hx H1 e _ fun H2 e2 => h H2 (e.trans e2) _ fun H3 e3 => ⟨d, _, rfl, DGet.k (k := .inr x) ((e.trans (e2.trans e3)) _ _ hd), q H3 (e2.trans e3)⟩
theorem ev_sumL {ns : List Int} (h : EvL te σ H (ns.map V.int)) : Ev (tCB (rSum K) (tCons te tNil)) σ H (.int ns.sum) := fun H1 e Q q =>
  h H1 e _ fun p H2 _ e2 hp => ⟨p, ns, rfl, sq_of hp, q H2 e2⟩
/-- [f(n, d) for n, d in a list of pairs] -/
theorem lcP {a : Addr} {ps : List (Int × Int)} (h : Ev tl σ H (.ref a)) (hx : SqL K H a xs) (hp : Paired (fun x (p : Int × Int) => PairAt H x p.1 p.2) xs ps) (hl : ys.length = xs.length) (hz : xs.length ≤ 40000) (hw : ∀ x y, wipe (((wipe σ vs).set i (some x)).set j (some y)) vs = wipe σ vs)
    (he : ∀ (k : Nat) (n d : Int) (z : V), ps[k]? = some (n, d) → ys[k]? = some z → Ev te (((wipe σ vs).set i (some (.int n))).set j (some (.int d))) H z) :
    EvL (tLc (iList K tl) (gTup K 2 (gCons (gName i) (gCons (gName j) gNil))) tYes te vs) σ H ys := fun H0 e Q q => h H0 e _ fun H1 e1 => ⟨a, rfl, ⟨xs, ex_l (e.trans e1) hx⟩, fun D nD =>
  lc_it (walk_list (xs := xs)) (fun i H' => Ex H1 H' ∧ H' D = some (.lst (ys.take i))) ⟨Ex.new nD, upd_same⟩ (fun i H' _ p => ex_l ((e.trans e1).trans p.1) hx)
    (fun k x H' H'' hi p hy => by
      obtain ⟨rfl, hx⟩ := hy
      obtain ⟨q, hq, b, rfl, hb⟩ := paired_get hp hx
      have e01 := e.trans e1
      refine ⟨b, _, rfl, st_of ((e01.trans p.1) _ _ hb), rfl, _, _, rfl, _, _, rfl, rfl, hw _ _, yes_if ?_⟩
      obtain ⟨y, hy⟩ : ∃ y, ys[k]? = some y := ⟨_, List.getElem?_eq_getElem (by omega)⟩
      refine he k q.1 q.2 y hq hy H'' (e01.trans p.1) _ fun H4 e4 => ⟨ys.take k, e4 _ _ p.2, ?_, (p.1.trans e4).mut nD, ?_⟩
      · rw [List.length_take]
        have : (100000 : Nat) ≤ sizeLine := by decide
        omega
      · rw [upd_same, List.take_add_one, hy]; rfl) (fun H' p => q D H' (fresh_back e1 nD) (e1.trans p.1) (by rw [p.2, ← hl, List.take_length]))⟩
end
def spGoodL (K : PySem.W.Frag) : Sp := fun us H Q _ => ∃ (a : Addr) (ws : List Str), us = [.ref a] ∧ SqL K H a (ws.map V.str) ∧ ws ≠ [] ∧ ws.length ≤ 40 ∧ (∀ x ∈ ws, x.length ≤ 1000) ∧ ∀ H2, Ex H H2 → Q (.bl (goodB ws)) H2
theorem fn_l_good (T : Txt K mg) : Fn P w K mg base 3 (ga K "_law_good") (spGoodL K) := by
  refine fn_def T.d_l_good sc_l_good (fun _ _ _ _ _ _ us hl => match us, hl with | [_], _ => rfl) (fun vs H Q E h => ?_) (fun cdv A outer s H vs Q E hr h => ?_)
  · obtain ⟨a, ws, rfl, _⟩ := h
    rfl
  obtain ⟨a, ws, rfl, ha, hne, hl, hwl, k⟩ := h
  have nd := sc_l_good.nd
  refine ⟨_, pss_cons (ps_set (i := 1) nd rfl (by first | exact Or.inl rfl | exact Or.inr rfl) (pe_disp (pps_cons (pe_str) (pe_int) (pps_cons (pe_str) (pe_int) (pps_cons (pe_str) (pe_int) pps_nil))) rfl rfl (by intro h; cases h) (by decide)))
      (Evl.pss_cut (ps_if (PW.pt (pw_or (pt_cmpR op_ne (pe_ix ix_list (pv 0) (pe_int) (fun _ _ => rfl)) (pe_str) (nomark _)) (pw_or1 (pt_cmpR op_notIn_seq (pe_str) (pv 0) rfl)))) (pss_one (ps_ret (pe_bl))) (pss_nil))
      (Evl.pss_cut (ps_set (i := 2) nd rfl (by first | exact Or.inl rfl | exact Or.inr rfl) (pe_slice sl_list (pv 0) (po_some (pe_int)) (po_some (pe_bm PySem.F.plainAttrs_list PySem.F.slot_list_index PySem.F.type_list_index mt_index (pv 0) (pa_cons (pe_str) pa_nil)))))
      (Evl.pss_cut (ps_for (passes_of rfl) rfl (pi_range1 rfl T.f_range (pa_cons (pe_callB call_len_seq (by rfl) T.f_len PySem.boot_len (pa_cons (pv 0) pa_nil)) pa_nil)) (pg_name (i := 3) nd rfl (by first | exact Or.inl rfl | exact Or.inr rfl)) (pss_one (ps_if (pt_cmpR op_gt (pe_callB call_len_seq (by rfl) T.f_len PySem.boot_len (pa_cons (pv 2) pa_nil)) (pe_int) (nomark _)) (pss_cons (ps_set (i := 4) nd rfl (by first | exact Or.inl rfl | exact Or.inr rfl) (pe_slice sl_list (pv 2) (po_some (pe_int)) (po_some (pe_op op_add (pe_int) (pe_dget2 (hu_of hr) (pv 1) (pe_ix ix_list (pv 2) (pe_int) (fun _ _ => rfl)) (pe_int) ⟨rfl, rfl, rfl, rfl⟩)))))
      (pss_cons (ps_if (PW.pt (pw_or (pt_cmp (pc_dnotin (hu_of hr) (pe_ix ix_list (pv 2) (pe_int) (fun _ _ => rfl)) (pv 1))) (pw_or (pt_cmpR op_ne (pe_callB call_len_seq (by rfl) T.f_len PySem.boot_len (pa_cons (pv 4) pa_nil)) (pe_dget (hu_of hr) (pv 1) (pe_ix ix_list (pv 2) (pe_int) (fun _ _ => rfl)) (fun _ _ => rfl)) (nomark _)) (pw_or1 (pt_cmpR op_in_seq (pe_non) (pe_lc (own := [("_law_word_here", 5)]) (g := gName 5) (tt := tYes) rfl nd (pi_list (pv 4)) (blkOk_by (N := n_l_good) (sc := defScope s_l_good) (by decide +kernel)) (fun _ _ _ _ _ => pg_name (i := 5) nd rfl (by first | exact Or.inl rfl | exact Or.inr rfl)) (fun _ _ _ _ _ => pts_nil) (fun _ _ _ _ _ => pe_fn T.d_l_digits (fn_l_digits T) (hr.mono (by decide)) T.g_l_digits pcN (pa_cons (pv 5) pa_nil))) rfl))))) (pss_one (ps_ret (pe_bl))) (pss_nil))
      (pss_one (ps_set (i := 2) nd rfl (by first | exact Or.inl rfl | exact Or.inr rfl) (pe_slice sl_list (pv 2) (po_some (pe_op op_add (pe_int) (pe_callB call_len_seq (by rfl) T.f_len PySem.boot_len (pa_cons (pv 4) pa_nil)))) po_none))))) (pss_nil))))
      (Evl.pss_cut (ps_setLc (i := 6) (own := [("_law_word_here", 5)]) (g := gName 5) (tt := tYes) rfl nd rfl rfl (sw_true rfl rfl rfl (by decide +kernel)) (pi_list (pe_slice sl_list (pv 0) (po_some (pe_op op_add (pe_bm PySem.F.plainAttrs_list PySem.F.slot_list_index PySem.F.type_list_index mt_index (pv 0) (pa_cons (pe_str) pa_nil)) (pe_int))) po_none)) (blkOk_by (N := n_l_good) (sc := defScope s_l_good) (by decide +kernel)) (fun _ _ _ _ _ => pg_name (i := 5) nd rfl (by first | exact Or.inl rfl | exact Or.inr rfl)) (fun _ _ _ _ _ => pts_nil) (fun _ _ _ _ _ => pe_fn T.d_l_read (fn_l_read T) (hr.mono (by decide)) T.g_l_read pcN (pa_cons (pv 5) pa_nil)))
      (Evl.pss_cut (ps_if (PW.pt (pw_or (pt_cmpR op_eq (pe_callB call_len_seq (by rfl) T.f_len PySem.boot_len (pa_cons (pv 6) pa_nil)) (pe_int) (nomark _)) (pw_or1 (pt_cmpR (op_inD (units65 (hr.mono (by decide)))) (pe_non) (pv 6) rfl)))) (pss_one (ps_ret (pe_bl))) (pss_nil))
      (Evl.pss_cut (ps_set (i := 7) nd rfl (by first | exact Or.inl rfl | exact Or.inr rfl) (pe_int))
      (pss_cons (ps_for (passes_of rfl) rfl (pi_list (pv 6)) (pg_tup rfl (pgs_cons (pg_name (i := 8) nd rfl (by first | exact Or.inl rfl | exact Or.inr rfl)) (pgs_cons (pg_name (i := 9) nd rfl (by first | exact Or.inl rfl | exact Or.inr rfl)) pgs_nil))) (pss_one (ps_set (i := 7) nd rfl (by first | exact Or.inl rfl | exact Or.inr rfl) (pe_op op_mulW (pv 7) (pv 9)))))
      (pss_one (ps_ret (pe_cmpR op_eq (pe_callB (cr_sum rfl) (by rfl) T.f_sum (by decide +kernel) (pa_cons (pe_lc (own := [("_law_num", 8), ("_law_den", 9)]) (g := (gTup K 2 (gCons (gName 8) (gCons (gName 9) (gNil))))) (tt := tYes) rfl nd (pi_list (pv 6)) (blkOk_by (N := n_l_good) (sc := defScope s_l_good) (by decide +kernel)) (fun _ _ _ _ _ => pg_tup (n := 2) rfl (pgs_cons (pg_name (i := 8) nd rfl (by first | exact Or.inl rfl | exact Or.inr rfl)) (pgs_cons (pg_name (i := 9) nd rfl (by first | exact Or.inl rfl | exact Or.inr rfl)) pgs_nil))) (fun _ _ _ _ _ => pts_nil) (fun _ _ _ _ _ => pe_op op_mulW (pv 8) (pe_op op_fdivW (pv 7) (pv 9)))) pa_nil)) (pv 7) (nomark _))))))))))), ?_⟩
  have hbig : (100000 : Nat) ≤ sizeLine := by decide
  obtain ⟨w0, hw0⟩ : ∃ w0, ws[0]? = some w0 := by
    cases ws with
    | nil => exact absurd rfl hne
    | cons x r => exact ⟨x, rfl⟩
  have no : (∀ p, POk p → p.2 ≠ [] → sumR p.2 = 1 → ws ≠ lineW p) → ∀ H2, Ex H H2 → Q (.bl false) H2 := fun z H2 e2 => by
    have : goodB ws = false := goodB_no fun ⟨p, h1, h2, h3, h4⟩ => z p h1 h3 h4 h2
    rw [← this]
    exact k H2 e2
  have hw0' : (ws.map V.str)[0]? = some (.str w0) := by rw [List.getElem?_map, hw0]; rfl
  have hfl : (ws.map V.str).all flatV = true := by rw [List.all_map]; exact List.all_eq_true.mpr fun _ _ => rfl
  have hin : inV (.str "do") (ws.map V.str) = decide (("do" : Str) ∈ ws) := by
    rw [Bool.eq_iff_iff, decide_eq_true_iff]
    unfold inV
    rw [List.any_map, List.any_eq_true]
    exact ⟨fun ⟨x, h1, h2⟩ => by rw [Function.comp_apply, eqV_str] at h2; rw [← of_decide_eq_true h2]; exact h1, fun h => ⟨_, h, by rw [Function.comp_apply, eqV_str]; simp⟩⟩
  refine fun d nd1 => ?_
  refine ⟨upd_same, cnts, rfl, by decide, ?_⟩
  rw [show mergeK [] cnts = cnts from rfl, upd_twice]
  have e1 : Ex H (upd H d (.dK cnts)) := Ex.new nd1
  have hd1 : (upd H d (.dK cnts)) d = some (.dK cnts) := upd_same
  revert e1 hd1
  generalize upd H d (.dK cnts) = Hd
  intro e1 hd1
  refine ⟨fun σ H' => Ex Hd H' ∧ (w0 = ("at" : Str) ∧ ("do" : Str) ∈ ws) ∧ ∃ u2 u3 u4 u5 u6 u7 u8 u9, σ = [some (.ref a), some (.ref d), u2, u3, u4, u5, u6, u7, u8, u9], ?_, ?_⟩
  · refine s_when (b := !decide (w0 = ("at" : Str)) || !decide (("do" : Str) ∈ ws)) (et_or (et_test (ev_is (ev_op (ev_op (ev_var rfl) ev_c (rv_ixL (ex_l e1 ha) (atI_nat (j := 0) hw0'))) ev_c (rv_ne rfl)) (congrArg (fun b => V.bl (!b)) (decide_eq_decide.mpr ⟨fun h => V.str.inj h, fun h => by rw [h]⟩)))) fun _ => et_test (ev_is (ev_op ev_c (ev_var rfl) (rv_niL (ex_l e1 ha) rfl hfl)) (by rw [hin]))) (fun c H3 x3 => ?_) (fun c H3 x3 => ?_)
    · refine no (fun p hpk _ _ hwp => ?_) H3 (e1.trans x3)
      rw [hwp] at hw0 c
      have h1 : w0 = ("at" : Str) := by unfold lineW at hw0; exact (Option.some.inj hw0).symm
      have h2 : ("do" : Str) ∈ lineW p := by simp [lineW]
      rw [decide_eq_true h1, decide_eq_true h2] at c
      exact Bool.noConfusion c
    · refine ⟨x3, ?_, _, _, _, _, _, _, _, _, rfl⟩
      by_cases z1 : w0 = ("at" : Str)
      · by_cases z2 : ("do" : Str) ∈ ws
        · exact ⟨z1, z2⟩
        · rw [decide_eq_true z1, decide_eq_false z2] at c; exact Bool.noConfusion c
      · rw [decide_eq_false z1] at c; exact Bool.noConfusion c
  rintro σ H1 ⟨x1, ⟨rfl, hdo⟩, u2, u3, u4, u5, u6, u7, u8, u9, rfl⟩
  obtain ⟨m, hm, hmb⟩ := first_do hdo
  obtain ⟨hm1, hcut⟩ := line_cut hw0 hm
  have hmlt : m < ws.length := (List.getElem?_eq_some_iff.mp hm).1
  have ha1 := ex_l (e1.trans x1) ha
  have hcutv : cutV (ws.map V.str) (some ((1 : Nat) : Int)) (some ((m : Nat) : Int)) = ((ws.drop 1).take (m - 1)).map V.str := by
    rw [cut_nat hm1, ← List.map_drop, ← List.map_take]
  obtain ⟨md, hmd⟩ : ∃ md, md = (ws.drop 1).take (m - 1) := ⟨_, rfl⟩
  have hmdl : md.length ≤ 40 := by rw [hmd, List.length_take, List.length_drop]; omega
  have hmdw : ∀ x ∈ md, x.length ≤ 1000 := fun x hx => hwl x (by rw [hmd] at hx; exact List.mem_of_mem_drop (List.mem_of_mem_take hx))
  rw [← hmd] at hcutv hcut
  have hml : md.length + 1 = m := by rw [hmd, List.length_take, List.length_drop]; omega
  refine ⟨fun σ H' => Ex Hd H' ∧ ∃ Lf u3 u4 u5 u6 u7 u8 u9, SqL K H' Lf (md.map V.str) ∧ σ = [some (.ref a), some (.ref d), some (.ref Lf), u3, u4, u5, u6, u7, u8, u9], ?_, ?_⟩
  · refine s_asgL (el_sl (lo := some ((1 : Nat) : Int)) (hi := some ((m : Nat) : Int)) (ev_var rfl) (eo_some ev_c) (eo_some (ev_index (ev_var rfl) ha1 hm hmb)) ha1) fun Lf H2 nL x2 hL => ?_
    rw [hcutv] at hL
    exact ⟨x1.trans x2, Lf, _, _, _, _, _, _, _, sq_of hL, rfl⟩
  rintro σ H1 ⟨x1, Lf, u3, u4, u5, u6, u7, u8, u9, hLf, rfl⟩
  have ha1 := ex_l (e1.trans x1) ha
  -- the words of the view
  refine ⟨fun σ H' => Ex Hd H' ∧ (∃ v, (∀ e ∈ v, EvOk e) ∧ viewW v = md) ∧ ∃ Lf u3 u4 u5 u6 u7 u8 u9, σ = [some (.ref a), some (.ref d), some (.ref Lf), u3, u4, u5, u6, u7, u8, u9], ?_, ?_⟩
  · refine s_forR1 (n := (ws.length : Nat)) (ea_cons (ev_is (ev_len (ev_var rfl) ha1) (by rw [List.length_map])) ea_nil) ⟨by omega, by omega⟩ (fun i σ H' => Ex Hd H' ∧ ∃ (v : List Evt) (R : List Str), (∀ e ∈ v, EvOk e) ∧ md = viewW v ++ R ∧ (R = [] ∨ R.length + i ≤ ws.length) ∧ ∃ Lf u3 u4 u5 u6 u7 u8 u9, SqL K H' Lf (R.map V.str) ∧ σ = [some (.ref a), some (.ref d), some (.ref Lf), u3, u4, u5, u6, u7, u8, u9]) ?_ ?_ ?_
    · intro H2 x2
      exact ⟨x1.trans x2, [], md, (fun _ h => nomatch h), rfl, .inr (by omega), Lf, _, _, _, _, _, _, _, ex_l x2 hLf, rfl⟩
    · rintro i σ H2 hi ⟨x2, v, R, hv, hR, hRl, Lf, v3, v4, v5, v6, v7, v8, v9, hLf, rfl⟩
      have hd2 := x2 _ _ hd1
      dsimp only [List.set]
      refine s_when (b := decide (0 < R.length)) (et_test (ev_is (ev_op (ev_len (ev_var rfl) hLf) ev_c rv_I0) (congrArg V.bl (decide_eq_decide.mpr (by rw [List.length_map]; omega))))) (fun c H3 x3 => ?_) (fun c H3 x3 => ?_)
      · have c := of_decide_eq_true c
        obtain ⟨x, R', rfl⟩ : ∃ x R', R = x :: R' := by
          cases R with
          | nil => exact absurd c (by decide)
          | cons x R' => exact ⟨x, R', rfl⟩
        have hRl : (R'.length + 1) + i ≤ ws.length := by
          rcases hRl with h | h
          · cases h
          · rw [List.length_cons] at h; exact h
        have hRw : ∀ y ∈ R', y.length ≤ 1000 := fun y hy => hmdw y (by rw [hR]; exact List.mem_append_right _ (.tail _ hy))
        have bad : (∀ ns t, EvOk (x, ns) → R' ≠ (ns.map fun n => istr (n : Nat)) ++ t) → ∀ H4, Ex Hd H4 → Q (.bl false) H4 := fun z H4 x4 => no (fun p hpk _ _ hwp => by
          rw [hwp] at hm hmb hmd
          have h2 := (line_do hpk hm hmb).2.1
          rw [← hmd] at h2
          obtain ⟨y, g1, g2⟩ := viewW_pre hv hpk.2.1 (h2.symm.trans hR)
          obtain ⟨ns, t, g3, g4⟩ := viewW_next (fun e he => hpk.2.1 e (by rw [g1]; simp [he])) g2
          exact z ns t g3 g4) H4 (e1.trans x4)
        have x23 := x2.trans x3
        have hd3 := x23 _ _ hd1
        have hLf3 := ex_l x3 hLf
        have hx0 : ((x :: R').map V.str)[0]? = some (.str x) := rfl
        obtain ⟨n, hn⟩ : ∃ n : Nat, (evCount x).getD 0 = n := ⟨_, rfl⟩
        have hget : (valV cnts (.inr x)).getD (.int 0) = .int (n : Nat) := by
          rw [cnts_val]
          cases hc : evCount x with
          | none => rw [hc] at hn; rw [← hn]; rfl
          | some c => rw [hc] at hn; rw [← hn]; rfl
        have hcutn : cutV ((x :: R').map V.str) (some ((1 : Nat) : Int)) (some ((1 + n : Nat) : Int)) = (R'.take n).map V.str := by
          rw [cut_nat (by omega), List.map_cons, List.drop_succ_cons, List.drop_zero, ← List.map_take]
          congr 2
          omega
        refine q_asgL (el_sl (lo := some ((1 : Nat) : Int)) (hi := some ((1 + n : Nat) : Int)) (ev_var rfl) (eo_some ev_c) (eo_some (ev_is (ev_op ev_c (ev_is (ev_dget2 (ev_var rfl) hd3 (ev_op (ev_var rfl) ev_c (rv_ixL hLf3 (atI_nat (j := 0) hx0))) ev_c) hget) rv_I0) (by rw [Int.natCast_add]; rfl))) hLf3) fun Mo H4 nM x4 hM => ?_
        rw [hcutn] at hM
        have hLf4 := ex_l x4 hLf3
        have hd4 := x4 _ _ hd3
        have htk : (R'.take n).length ≤ 40 := by rw [List.length_take]; have := congrArg List.length hR; rw [List.length_append, List.length_cons] at this; omega
        have x24 := x23.trans x4
        dsimp only [List.set]
        refine q_when (b := !(valV cnts (.inr x)).isSome || (!decide ((R'.take n).length = n) || inV .non ((R'.take n).map digV))) (et_or (et_test (ev_dnotin (ev_op (ev_var rfl) ev_c (rv_ixL hLf4 (atI_nat (j := 0) hx0))) (ev_var rfl) hd4)) fun c1 => et_or (et_test (ev_is (ev_op (ev_len (ev_var rfl) (sq_of hM)) (ev_dget (z := .int (n : Nat)) (ev_var rfl) hd4 (ev_op (ev_var rfl) ev_c (rv_ixL hLf4 (atI_nat (j := 0) hx0))) ?_) (rv_ne rfl)) (congrArg (fun b => V.bl (!b)) (decide_eq_decide.mpr ⟨fun h => ?_, fun h => ?_⟩)))) fun c2 => et_test (ev_opL ev_c (lcL (xs := (R'.take n).map V.str) (ys := (R'.take n).map digV) (ev_var rfl) (sq_of hM) (by rw [List.length_map, List.length_map]) (by rw [List.length_map]; omega) (fun _ => rfl) (fun i y z hy hz => ?_)) fun p H5 hp x5 => rv_isL (sq_of hp) rfl ?_)) (fun c2 H5 x5 => ?_) (fun c2 H5 x5 => ?_)
        · rw [cnts_val] at c1 ⊢
          cases hc : evCount x with
          | none => rw [hc] at c1; exact Bool.noConfusion c1
          | some q => rw [hc] at hn; rw [← hn]; rfl
        · have := V.int.inj h
          rw [List.length_map] at this
          exact Int.ofNat.inj this
        · rw [List.length_map, h]
        · rw [List.getElem?_map] at hy hz
          cases hy1 : (R'.take n)[i]? with
          | none => rw [hy1] at hy; cases hy
          | some q =>
            rw [hy1] at hy hz
            cases hy
            cases hz
            exact fun H6 x6 Q6 q6 => ⟨_, rfl, sp_dig (hRw q (List.mem_of_mem_take (List.mem_of_getElem? hy1))) H6 x6 Q6 q6 (fun _ _ _ => False)⟩
        · rw [List.all_map]
          exact List.all_eq_true.mpr fun x _ => digV_flat x
        · refine bad (fun ns t h he => ?_) H5 (x24.trans x5)
          have hc := h.1
          rw [cnts_val, hc] at c2
          rw [hc] at hn
          have hnl : n = ns.length := hn.symm
          have htk : R'.take n = ns.map fun n => istr (n : Nat) := by
            rw [he, hnl, List.take_append_of_le_length (by rw [List.length_map]; omega), List.take_of_length_le (by rw [List.length_map]; omega)]
          rw [htk, List.length_map, decide_eq_true hnl.symm] at c2
          obtain ⟨y, hy, hy2⟩ := digV_in.mp c2
          obtain ⟨m, hm, rfl⟩ := List.mem_map.mp hy
          exact hy2 m ⟨rfl, h.2 m hm⟩
        · rw [Bool.or_eq_false_iff, Bool.or_eq_false_iff] at c2
          obtain ⟨c1, c3, c4⟩ := c2
          have hnl : (R'.take n).length = n := by
            by_cases z : (R'.take n).length = n
            · exact z
            · rw [decide_eq_false z] at c3; exact Bool.noConfusion c3
          obtain ⟨ns, hns, hn60⟩ := nums_of (ws := R'.take n) fun y hy => by
            by_cases z : ∃ m, Num y m
            · exact z
            · have c3 := digV_in.mpr ⟨y, hy, fun m hm => z ⟨m, hm⟩⟩
              rw [c3] at c4
              exact Bool.noConfusion c4
          have hlen : ns.length = n := by rw [hns, List.length_map] at hnl; exact hnl
          have hev : EvOk (x, ns) := by
            refine ⟨?_, hn60⟩
            rw [cnts_val] at c1
            cases hc : evCount x with
            | none => rw [hc] at c1; exact Bool.noConfusion c1
            | some q => rw [hc] at hn; show some q = some ns.length; rw [hlen, ← hn]; rfl
          have hcut2 : cutV ((x :: R').map V.str) (some ((1 + n : Nat) : Int)) none = (R'.drop n).map V.str := by
            rw [cut_from, List.map_cons, Nat.add_comm, List.drop_succ_cons, List.map_drop]
          refine s_asgL (el_sl (lo := some ((1 + n : Nat) : Int)) (hi := none) (ev_var rfl) (eo_some (ev_is (ev_op ev_c (ev_len (ev_var rfl) (ex_l x5 (sq_of hM))) rv_I0) (by rw [List.length_map, hnl, Int.natCast_add]; rfl))) eo_none (ex_l x5 hLf4)) fun L2 H6 nL2 x6 hL2 => ?_
          rw [hcut2] at hL2
          refine ⟨x24.trans (x5.trans x6), v ++ [(x, ns)], R'.drop n, ?_, ?_, .inr (by rw [List.length_drop]; omega), L2, _, _, _, _, _, _, _, sq_of hL2, rfl⟩
          · intro e he
            rcases List.mem_append.mp he with he | he
            · exact hv e he
            · rcases List.mem_singleton.mp he with rfl
              exact hev
          · rw [hR]
            unfold viewW
            rw [List.flatMap_append, List.append_assoc]
            congr 1
            rw [List.flatMap_cons, List.flatMap_nil, List.append_nil]
            unfold evW
            rw [List.cons_append, ← hns, List.take_append_drop]
      · have c := of_decide_eq_false c
        have : R = [] := List.length_eq_zero_iff.mp (by omega)
        subst this
        exact ⟨x2.trans x3, v, [], hv, hR, .inl rfl, Lf, _, _, _, _, _, _, _, ex_l x3 hLf, rfl⟩
    · rintro σ H2 ⟨x2, v, R, hv, hR, hRl, Lf, v3, v4, v5, v6, v7, v8, v9, hLf, rfl⟩
      have : R = [] := by
        rcases hRl with h | h
        · exact h
        · exact List.length_eq_zero_iff.mp (by omega)
      subst this
      exact ⟨x2, ⟨v, hv, by rw [hR, List.append_nil]⟩, Lf, _, _, _, _, _, _, _, rfl⟩
  rintro σ H1 ⟨x1, ⟨v, hv, hvw⟩, Lf, u3, u4, u5, u6, u7, u8, u9, rfl⟩
  have ha1 := ex_l (e1.trans x1) ha
  -- the lots
  have hlw : (ws.drop (m + 1)).length ≤ 38 := by rw [List.length_drop]; omega
  obtain ⟨lw, hlw2⟩ : ∃ lw, lw = ws.drop (m + 1) := ⟨_, rfl⟩
  have hdl : (ws.map V.str).drop (m + 1) = lw.map V.str := by rw [hlw2, List.map_drop]
  have hlww : ∀ x ∈ lw, x.length ≤ 1000 := fun x hx => hwl x (by rw [hlw2] at hx; exact List.mem_of_mem_drop hx)
  rw [← hlw2] at hlw hcut
  refine ⟨fun σ H' => Ex Hd H' ∧ ∃ D rs u2 u3 u4 u5 u7 u8 u9, H' D = some (.lst rs) ∧ Paired (PairOr H') rs (lw.map ratO) ∧ σ = [some (.ref a), some (.ref d), u2, u3, u4, u5, some (.ref D), u7, u8, u9], ?_, ?_⟩
  · refine el_sl (lo := some ((m + 1 : Nat) : Int)) (hi := none) (ev_var rfl) (eo_some (ev_op (ev_index (ev_var rfl) ha1 hm hmb) ev_c rv_I0)) eo_none ha1 _ (Ex.refl _) _ fun V2 H6 nV2 x6 hV2 => ?_
    rw [cut_from, hdl] at hV2
    refine ⟨V2, rfl, ⟨_, sq_of hV2⟩, fun D nD => lc_it (te := fun σ H Q => tCons (tVar 5) tNil σ H fun vs H1 => spLRead vs H1 Q (fun _ _ _ => False)) (n := (lw.map V.str).length) (walk_list (K := K) (a := V2) (xs := lw.map V.str)) (fun j H' => ∃ rs : List V, Ex H6 H' ∧ H' D = some (.lst rs) ∧ Paired (PairOr H') rs ((lw.map ratO).take j)) ⟨[], Ex.new nD, upd_same, .nil⟩ (fun j H' _ z => by obtain ⟨_, e, _⟩ := z; exact ex_l e (sq_of hV2)) ?_ ?_⟩
    · rintro j y H7' H7 hj ⟨rs, x7, hD, hrs⟩ ⟨rfl, hy⟩
      rw [List.getElem?_map] at hy
      obtain ⟨x, hx, rfl⟩ := Option.map_eq_some_iff.mp hy
      rw [List.length_map] at hj
      have hxo : (lw.map ratO)[j]? = some (ratO x) := by rw [List.getElem?_map, hx]; rfl
      have fin : ∀ v H8, Ex H7 H8 → PairOr H8 v (ratO x) → ∃ acc, H8 D = some (.lst acc) ∧ acc.length < sizeLine ∧ ∃ rs : List V, Ex H6 (upd H8 D (.lst (acc ++ [v]))) ∧ (upd H8 D (.lst (acc ++ [v]))) D = some (.lst rs) ∧ Paired (PairOr (upd H8 D (.lst (acc ++ [v])))) rs ((lw.map ratO).take (j + 1)) := fun v H8 x8 hr => by
        have hD8 := x8 _ _ hD
        have hrl : rs.length ≤ 40 := by
          rw [Paired.length hrs, List.length_take, List.length_map]
          omega
        refine ⟨rs, hD8, by omega, rs ++ [v], (x7.trans x8).mut nD, upd_same, ?_⟩
        rw [List.take_add_one, hxo]
        exact paired_snoc (paired_mono hrs fun _ _ z => pairOr_btx Btx.put hD8 (z.mono x8)) (pairOr_btx Btx.put hD8 hr)
      refine ⟨rfl, yes_if ?_⟩
      refine ⟨_, rfl, x, rfl, hlww x (List.mem_of_getElem? hx), fun q v H8 hq x8 hr => fin v H8 x8 (by rw [ratO_some hq]; exact hr), fun hq H8 x8 => fin .non H8 x8 (by rw [ratO_none hq]; exact rfl)⟩
    · rintro H7 ⟨rs, x7, hD, hrs⟩
      rw [List.length_map, List.take_of_length_le (by rw [List.length_map]; omega)] at hrs
      exact ⟨x1.trans (x6.trans x7), D, rs, _, _, _, _, _, _, _, hD, hrs, rfl⟩
  rintro σ H1 ⟨x1, D, rs, u2, u3, u4, u5, u7, u8, u9, hD, hrs, rfl⟩
  have hrl : rs.length = lw.length := by rw [Paired.length hrs, List.length_map]
  have hlay : ∀ d ∈ (lw.map ratO).map orD, d.canLay0 = true ∧ d.depth ≤ 1 := fun d hd => by
    obtain ⟨o, _, rfl⟩ := List.mem_map.mp hd
    exact or_lay o
  have hany : (((lw.map ratO).map orD).any fun z => PyData.eqv z .none) = (lw.map ratO).any Option.isNone := by
    rw [List.any_map]
    congr 1
    funext o
    exact or_eqv o
  refine ⟨fun σ H' => Ex Hd H' ∧ lw ≠ [] ∧ ∃ qs rs u2 u3 u4 u5 u7 u8 u9, lw = qs.map ratStr ∧ (∀ q ∈ qs, QOk q) ∧ H' D = some (.lst rs) ∧ Paired (fun x (q : Rat) => PairAt H' x q.num q.den) rs qs ∧ σ = [some (.ref a), some (.ref d), u2, u3, u4, u5, some (.ref D), u7, u8, u9], ?_, ?_⟩
  · refine s_when (b := decide (lw.length = 0) || (lw.map ratO).any Option.isNone) (et_or (et_test (ev_is (ev_op (ev_len (ev_var rfl) (sq_of hD)) ev_c (rv_eq rfl)) (congrArg V.bl (decide_eq_decide.mpr ⟨fun h => by have := V.int.inj h; omega, fun h => by rw [hrl, h]; rfl⟩)))) fun _ => et_test (ev_op ev_c (ev_var rfl) fun H2 x2 Q2 q2 => ⟨.none, (lw.map ratO).map orD, .non, Dp.lst (sq_of (x2 _ _ hD)) (ors_dp (paired_mono hrs fun _ _ z => z.mono x2)), rfl, list_shaped hlay (by decide), by rw [hany]; exact q2 H2 (Ex.refl _)⟩)) (fun c H2 x2 => ?_) (fun c H2 x2 => ?_)
    · refine no (fun p hpk hp2 _ hwp => ?_) H2 (e1.trans (x1.trans x2))
      rw [hwp] at hm hmb hlw2
      have h3 := (line_do hpk hm hmb).2.2
      rw [← hlw2] at h3
      rcases (Bool.or_eq_true _ _).mp c with c | c
      · have c := of_decide_eq_true c
        rw [h3, List.length_map] at c
        exact hp2 (List.length_eq_zero_iff.mp c)
      · exact lots_bad c hpk.2.2.2 h3
    · rw [Bool.or_eq_false_iff] at c
      obtain ⟨qs, hqs, hqok, hqo⟩ := lots_good c.2
      have c1 := of_decide_eq_false c.1
      rw [hqo] at hrs
      refine ⟨x1.trans x2, fun z => c1 (by rw [z]; rfl), qs, rs, _, _, _, _, _, _, _, hqs, hqok, x2 _ _ hD, ?_, rfl⟩
      have hrats : Paired (fun x (q : Rat) => PairAt H1 x q.num q.den) rs qs := by
        clear hqo hqs hqok hD hrl
        generalize hz : qs.map some = os at hrs
        induction hrs generalizing qs with
        | nil => cases qs with
          | nil => exact .nil
          | cons _ _ => cases hz
        | cons a b ih => cases qs with
          | nil => cases hz
          | cons q qs =>
            cases hz
            exact .cons a (ih qs rfl)
      exact paired_mono hrats fun _ _ z => PairAt.mono x2 z
  rintro σ H1 ⟨x1, hlne, qs, rs, u2, u3, u4, u5, u7, u8, u9, hqs, hqok, hD, hrs, rfl⟩
  have hql : qs.length ≤ 38 := by have := congrArg List.length hqs; rw [List.length_map] at this; omega
  have hqd : ∀ q ∈ qs, q.den < 2 ^ 200 := fun q hq => Nat.lt_trans (hqok q hq).2.2 pow_60
  have hrl : rs.length = qs.length := Paired.length hrs
  have hv2 := viewW_two hv
  rw [hvw] at hv2
  have hpn : POk (v, qs) := ⟨show v.length ≤ 100 by omega, hv, show qs.length ≤ 100 by omega, hqok⟩
  have hwn : ws = lineW (v, qs) := by
    unfold lineW
    rw [hvw, ← hqs]
    exact hcut
  have hgood : goodB ws = decide ((partsR (prodD qs) qs).sum = prodD qs) := by
    refine goodB_dec ⟨fun ⟨p, h1, h2, h3, h4⟩ => ?_, fun h => ⟨(v, qs), hpn, hwn, ?_, sum_is_one.mpr h⟩⟩
    · rw [← line_uniq hpn h1 (hwn.symm.trans h2)] at h4
      exact sum_is_one.mp h4
    · intro z
      have z : qs = [] := z
      rw [z] at hqs
      exact hlne hqs
  have hprod : ∀ i, prodD (qs.take i) < 2 ^ 7700 := fun i => by
    refine Nat.lt_of_lt_of_le (prod_lt fun q hq => hqd q (List.mem_of_mem_take hq)) (Nat.pow_le_pow_right (by decide) ?_)
    have : (qs.take i).length ≤ 38 := by rw [List.length_take]; omega
    omega
  refine q_cut (M := fun σ H' => Ex Hd H' ∧ ∃ rs u2 u3 u4 u5 u8 u9, H' D = some (.lst rs) ∧ Paired (fun x (q : Rat) => PairAt H' x q.num q.den) rs qs ∧ σ = [some (.ref a), some (.ref d), u2, u3, u4, u5, some (.ref D), some (.int (1 : Nat)), u8, u9]) ?_ ?_
  · exact s_asg ev_c fun H2 x2 => ⟨x1.trans x2, rs, _, _, _, _, _, _, x2 _ _ hD, paired_mono hrs fun _ _ z => PairAt.mono x2 z, rfl⟩
  rintro σ H1 ⟨x1, rs, u2, u3, u4, u5, u8, u9, hD, hrs, rfl⟩
  have hrl : rs.length = qs.length := Paired.length hrs
  refine q_forL (ev_var rfl) (sq_of hD) (fun i σ H' => Ex H1 H' ∧ ∃ u8 u9, σ = [some (.ref a), some (.ref d), u2, u3, u4, u5, some (.ref D), some (.int (prodD (qs.take i) : Nat)), u8, u9]) (fun H2 x2 => ⟨x2, _, _, rfl⟩) (fun i σ H2 _ z => sq_of (z.1 _ _ hD)) ?_ ?_
  · rintro i x σ H2 hx ⟨x2, w8, w9, rfl⟩
    obtain ⟨q, hq, b, rfl, hb⟩ := paired_get hrs hx
    refine ⟨b, _, rfl, st_of (x2 _ _ hb), rfl, _, _, rfl, _, _, rfl, rfl, ?_⟩
    refine s_asg (ev_op (ev_var rfl) (ev_var rfl) (rv_I (wide_mul (a := 7700) (b := 200) (by rw [Int.natAbs_natCast]; exact hprod i) (by rw [Int.natAbs_natCast]; exact hqd q (List.mem_of_getElem? hq)) (by decide) (by decide) (by decide)))) fun H3 x3 => ⟨x2.trans x3, some (.int q.num), some (.int (q.den : Int)), ?_⟩
    rw [List.take_add_one, hq]
    show _ = [some (V.ref a), some (.ref d), u2, u3, u4, u5, some (.ref D), some (.int (prodD (qs.take i ++ [q]) : Nat)), some (.int q.num), some (.int (q.den : Int))]
    rw [prod_snoc, Int.natCast_mul]
    rfl
  · rintro σ H2 ⟨x2, w8, w9, rfl⟩
    rw [hrl, List.take_length]
    have hw2 := hprod qs.length
    rw [List.take_length] at hw2
    refine s_ret (v := .bl (decide ((partsR (prodD qs) qs).sum = prodD qs))) (ev_is (ev_op (ev_sumL (ns := partsR (prodD qs) qs) (lcP (ps := qs.map fun q => (q.num, (q.den : Int))) (ev_var rfl) (sq_of (x2 _ _ hD)) ?_ (by rw [List.length_map]; unfold partsR; rw [List.length_map]; exact hrl.symm) (by omega) (fun _ _ => rfl) fun k n dd z hk hz => ?_)) (ev_var rfl) (rv_eq rfl)) ?_) fun H3 x3 => ?_
    · exact paired_mapR (paired_mono hrs fun _ _ z => PairAt.mono x2 z)
    · rw [List.getElem?_map] at hk hz
      unfold partsR at hz
      rw [List.getElem?_map] at hz
      cases hq : qs[k]? with
      | none => rw [hq] at hk; cases hk
      | some q =>
        rw [hq] at hk hz
        cases hk
        cases hz
        have hm := List.mem_of_getElem? hq
        have hqq := hqok q hm
        refine ev_is (ev_op (ev_var rfl) (ev_op (ev_var rfl) (ev_var rfl) (rv_I (wide_div (b := 200) (by have := q.den_pos; omega) (by rw [Int.natAbs_natCast]; exact hqd q hm) (by decide) (by decide)))) (rv_I (wide_mul (a := 200) (b := 7700) ?_ ?_ (by decide) (by decide) (by decide)))) ?_
        · have h1 := hqq.1
          have h2 := hqq.2.1
          have := pow_60
          omega
        · rw [← Int.natCast_ediv, Int.natAbs_natCast]
          exact Nat.lt_of_le_of_lt (Nat.div_le_self _ _) hw2
        · show V.int (q.num * _) = V.int (q.num * ((prodD qs / q.den : Nat) : Int))
          rw [Int.natCast_ediv]
    · exact congrArg V.bl (decide_eq_decide.mpr ⟨fun h => V.int.inj h, fun h => by rw [h]⟩)
    · rw [← hgood]
      exact k H3 (e1.trans (x1.trans (x2.trans x3)))
end
end LL
namespace LL
open PySem PySem.Spec PyProof.Rows L2 He Evl ND
theorem eqv_strs : ∀ xs ys : List Str, PyData.eqvAll (xs.map .str) (ys.map .str) = decide (xs = ys)
  | [], [] => rfl
  | [], _ :: _ => rfl
  | _ :: _, [] => rfl
  | x :: xs, y :: ys => by
    rw [List.map_cons, List.map_cons, PyData.eqvAll, eqv_strs xs ys]
    by_cases h : x = y
    · subst h
      simp [PyData.eqv]
    · simp [PyData.eqv, h]
def viewL (v : List Evt) : PyData := .list ((("at" : Str) :: viewW v).map .str)
theorem eqv_viewL {v u : List Evt} (hv : ∀ e ∈ v, EvOk e) (hu : ∀ e ∈ u, EvOk e) : PyData.eqv (viewL v) (viewL u) = decide (v = u) := by
  show PyData.eqvAll _ _ = _
  rw [eqv_strs]
  refine decide_eq_decide.mpr ⟨fun h => viewW_inj hu hv (List.cons.inj h).2, fun h => by rw [h]⟩
theorem in_viewL {v : List Evt} (hv : ∀ e ∈ v, EvOk e) : ∀ {seen : List (List Evt)}, (∀ u ∈ seen, ∀ e ∈ u, EvOk e) → ((seen.map viewL).any fun z => PyData.eqv z (viewL v)) = decide (v ∈ seen)
  | [], _ => rfl
  | u :: seen, h => by
    rw [List.map_cons, List.any_cons, in_viewL hv fun x hx => h x (.tail _ hx), eqv_viewL (h u (.head _)) hv]
    by_cases z : u = v
    · subst z; simp
    · by_cases y : v ∈ seen
      · simp [y]
      · simp [y, z, Ne.symm z]
theorem strs_lay : ∀ {xs : List Str}, (∀ x ∈ xs, (PyData.str x).canLay0 = true) → PyData.canLayAll0 (xs.map .str) = true ∧ PyData.depthAll (xs.map PyData.str) = 0
  | [], _ => ⟨rfl, rfl⟩
  | x :: xs, h => by
    obtain ⟨a, b⟩ := strs_lay (xs := xs) fun y hy => h y (.tail _ hy)
    have c := h x (.head _)
    refine ⟨?_, ?_⟩
    · rw [List.map_cons, PyData.canLayAll0, c, a]; rfl
    · rw [List.map_cons, PyData.depthAll, b]; rfl
theorem str_layN {x : Str} {n : Nat} (h : Num x n) : (PyData.str x).canLay0 = true := by
  rw [PyData.canLay0]
  show x.cps.all (· < 0x110000) = true
  rw [← Array.all_toList]
  exact List.all_eq_true.mpr fun c hc => decide_eq_true (num_low h c hc)
theorem first_pos {seen : List (List Evt)} {i : Nat} {l : Str} {r : List Str} (h : ∃ p, GoodP seen (Txt.split l " ") p) : firstBad seen i (l :: r) = firstBad (seen ++ [h.choose.1]) (i + 1) r := by
  conv => lhs; unfold firstBad
  exact dif_pos h
theorem first_neg {seen : List (List Evt)} {i : Nat} {l : Str} {r : List Str} (h : ¬ ∃ p, GoodP seen (Txt.split l " ") p) : firstBad seen i (l :: r) = some i := by
  conv => lhs; unfold firstBad
  exact dif_neg h
theorem viewL_lay {v : List Evt} (hv : ∀ e ∈ v, EvOk e) : (viewL v).canLay0 = true ∧ (viewL v).depth ≤ 1 := by
  have h : ∀ x ∈ ("at" : Str) :: viewW v, (PyData.str x).canLay0 = true := fun x hx => by
    rcases List.mem_cons.mp hx with rfl | hx
    · decide +kernel
    · obtain ⟨e, he, hx⟩ := List.mem_flatMap.mp hx
      have ho := hv e he
      rcases List.mem_cons.mp hx with rfl | hx
      · exact str_lay ho.1
      · obtain ⟨n, hn, rfl⟩ := List.mem_map.mp hx
        exact str_layN ⟨rfl, ho.2 n hn⟩
  obtain ⟨a, b⟩ := strs_lay h
  exact ⟨by unfold viewL; rw [PyData.canLay0]; exact a, by unfold viewL; rw [PyData.depth, b]; exact Nat.le_refl _⟩
def badV : Option Nat → V
  | none => .non
  | some i => .int (i : Nat)
section
variable {w : World} {K : PySem.W.Frag} {mg : Str → Option Value} {base : Heap}
theorem dpa_strs {H : Hp} : ∀ {xs : List Str}, DpAll K H (xs.map V.str) (xs.map PyData.str)
  | [] => .nil
  | _ :: _ => .cons (.str _) dpa_strs
def LineOk (l : Str) : Prop := l.length ≤ 60000 ∧ (Txt.split l " ").length ≤ 40 ∧ ∀ x ∈ Txt.split l " ", x.length ≤ 1000
theorem sv_good {a : Addr} {ws : List Str} {H : Hp} (ha : SqL K H a (ws.map V.str)) (h0 : ws ≠ []) (hl : ws.length ≤ 40) (hw : ∀ x ∈ ws, x.length ≤ 1000) : SpV (spGoodL K) [.ref a] H (.bl (goodB ws)) := fun H1 e Q q E =>
  ⟨a, ws, rfl, ex_l e ha, h0, hl, hw, fun H2 e2 => q H2 e2⟩
def spBadL (K : PySem.W.Frag) : Sp := fun us H Q _ => ∃ (a : Addr) (ls : List Str), us = [.ref a] ∧ SqL K H a (ls.map V.str) ∧ ls.length ≤ 1000 ∧ (∀ l ∈ ls, LineOk l) ∧ ∀ H2, Ex H H2 → Q (badV (firstBad [] 0 ls)) H2
def ViewAt (H : Hp) (x : V) (v : List Evt) : Prop := ∃ b, x = .ref b ∧ H b = some (.lst ((("at" : Str) :: viewW v).map V.str))
theorem views_dp {H : Hp} : ∀ {xs : List V} {seen : List (List Evt)}, Paired (ViewAt H) xs seen → DpAll K H xs (seen.map viewL)
  | _, _, .nil => .nil
  | _, _, .cons a b => by
    obtain ⟨x, rfl, h⟩ := a
    exact .cons (Dp.lst (sq_of h) dpa_strs) (views_dp b)
theorem view_ne {H : Hp} {L b : Addr} {vs : List V} {seen : List (List Evt)} {v : List Evt} (h : Paired (ViewAt H) vs seen) (hL : H L = some (.lst vs)) (hb : H b = some (.lst ((("at" : Str) :: viewW v).map V.str))) : b ≠ L := by
  rintro rfl
  rw [hL] at hb
  have e := HO.lst.inj (Option.some.inj hb)
  cases h with
  | nil => cases e
  | cons a _ =>
    obtain ⟨x, rfl, _⟩ := a
    cases e
theorem fn_l_bad (T : Txt K mg) : Fn P w K mg base 4 (ga K "_law_bad") (spBadL K) := by
  refine fn_def T.d_l_bad sc_l_bad (fun _ _ _ _ _ _ us hl => match us, hl with | [_], _ => rfl) (fun vs H Q E h => ?_) (fun cdv A outer s H vs Q E hr h => ?_)
  · obtain ⟨_, _, rfl, _⟩ := h
    rfl
  obtain ⟨a, ls, rfl, ha, hl, hls, k⟩ := h
  have nd := sc_l_bad.nd
  refine ⟨_, pss_cons (ps_set (i := 1) nd rfl (by first | exact Or.inl rfl | exact Or.inr rfl) (pe_lst pa_nil))
      (pss_cons (ps_for (passes_of rfl) rfl (pi_range1 rfl T.f_range (pa_cons (pe_callB call_len_seq (by rfl) T.f_len PySem.boot_len (pa_cons (pv 0) pa_nil)) pa_nil)) (pg_name (i := 2) nd rfl (by first | exact Or.inl rfl | exact Or.inr rfl)) (pss_cons (ps_set (i := 3) nd rfl (by first | exact Or.inl rfl | exact Or.inr rfl) (pe_split (pe_ix ix_list (pv 0) (pv 2) (fun _ _ => rfl)) (pe_str)))
      (pss_cons (ps_if (PW.pt (pw_or (pt_not (pt_val (pe_fn T.d_l_good (fn_l_good T) (hr.mono (by decide)) T.g_l_good pc (pa_cons (pv 3) pa_nil)))) (pw_or1 (pt_cmpR (op_inD (units65 (hr.mono (by decide)))) (pe_slice sl_list (pv 3) po_none (po_some (pe_bm PySem.F.plainAttrs_list PySem.F.slot_list_index PySem.F.type_list_index mt_index (pv 3) (pa_cons (pe_str) pa_nil)))) (pv 1) rfl)))) (pss_one (ps_ret (pv 2))) (pss_nil))
      (pss_one (ps_expr (pe_bm PySem.F.plainAttrs_list PySem.F.slot_list_append PySem.F.type_list_append mt_append (pv 1) (pa_cons (pe_slice sl_list (pv 3) po_none (po_some (pe_bm PySem.F.plainAttrs_list PySem.F.slot_list_index PySem.F.type_list_index mt_index (pv 3) (pa_cons (pe_str) pa_nil)))) pa_nil)))))))
      (pss_one (ps_ret (pe_non)))), ?_⟩
  have hbig : (100000 : Nat) ≤ sizeLine := by decide
  refine ⟨(by show 0 ≤ sizeLine; omega), fun L nL => ?_⟩
  have e1 : Ex H (upd H L (.lst [])) := Ex.new nL
  refine q_forR1 (n := (ls.length : Nat)) (ea_cons (ev_is (ev_len (ev_var rfl) (ex_l e1 ha)) (by rw [List.length_map])) ea_nil) ⟨by omega, by omega⟩ (fun i σ H' => ∃ (vs : List V) (seen : List (List Evt)) (u2 u3 : Option V), Ex H H' ∧ H' L = some (.lst vs) ∧ Paired (ViewAt H') vs seen ∧ (∀ v ∈ seen, ∀ e ∈ v, EvOk e) ∧ seen.length = i ∧ firstBad [] 0 ls = firstBad seen i (ls.drop i) ∧ σ = [some (.ref a), some (.ref L), u2, u3]) ?_ ?_ ?_
  · intro H2 x2
    exact ⟨[], [], _, _, e1.trans x2, x2 _ _ upd_same, .nil, (fun _ h => nomatch h), rfl, rfl, rfl⟩
  · rintro i σ H1 hi ⟨vs, seen, u2, u3, e2, hL, hvs, hok, hsl, hfb, rfl⟩
    have hi : i < ls.length := by omega
    obtain ⟨l, hl1⟩ : ∃ l, ls[i]? = some l := ⟨_, List.getElem?_eq_getElem hi⟩
    obtain ⟨hll, hw40, hwl⟩ := hls l (List.mem_of_getElem? hl1)
    have hdrop : ls.drop i = l :: ls.drop (i + 1) := by
      rw [List.drop_eq_getElem_cons hi]
      congr 1
      exact Option.some.inj ((List.getElem?_eq_getElem hi).symm.trans hl1)
    obtain ⟨wne, wj⟩ := split_back (x := l) (s := (" " : Str)) (c := 32) rfl (by decide)
    dsimp only [List.set]
    refine ⟨_, rfl, _, rfl, a, _, (i : Nat), .str l, rfl, rfl, ex_l e2 ha, atI_nat (by rw [List.getElem?_map, hl1]; rfl), ⟨_, rfl⟩, _, " ", rfl, rfl, by decide, by omega, fun Wd nW => ?_⟩
    rw [hdrop] at hfb
    obtain ⟨ws, hws⟩ : ∃ ws, ws = Txt.split l " " := ⟨_, rfl⟩
    have hpos := fun z => first_pos (seen := seen) (i := i) (l := l) (r := ls.drop (i + 1)) z
    have hneg := fun z => first_neg (seen := seen) (i := i) (l := l) (r := ls.drop (i + 1)) z
    rw [← hws] at hw40 hwl wne hpos hneg ⊢
    have x2 : Ex H1 (upd H1 Wd (.lst (ws.map V.str))) := Ex.new nW
    have hW : SqL K (upd H1 Wd (.lst (ws.map V.str))) Wd (ws.map V.str) := sq_of upd_same
    revert x2 hW
    generalize upd H1 Wd (.lst (ws.map V.str)) = H2
    intro x2 hW
    have hL2 := x2 _ _ hL
    have hvs2 : Paired (ViewAt H2) vs seen := paired_mono hvs fun _ _ ⟨b, z1, z2⟩ => ⟨b, z1, x2 _ _ z2⟩
    dsimp only [gName, List.set]
    have parts : ∀ p, GoodW ws p → ∃ m, ws[m]? = some ("do" : Str) ∧ (∀ j, j < m → ws[j]? ≠ some ("do" : Str)) ∧ ws.take m = ("at" : Str) :: viewW p.1 := fun p hp => by
      obtain ⟨h1, h2, h3, h4⟩ := hp
      obtain ⟨m, hm, hmb⟩ := first_do (W := ws) (by rw [h2]; simp [lineW])
      refine ⟨m, hm, hmb, ?_⟩
      rw [h2] at hm hmb
      rw [h2, (line_do h1 hm hmb).1]
      unfold lineW
      rw [List.append_assoc, List.take_left' (by rw [List.length_cons])]
    have cutm : ∀ m, cutV (ws.map V.str) none (some ((m : Nat) : Int)) = (ws.take m).map V.str := fun m => by
      have := cut_nat (xs := ws.map V.str) (a := 0) (b := m) (Nat.zero_le _)
      rw [List.drop_zero, Nat.sub_zero, ← List.map_take] at this
      rw [← this]
      rfl
    by_cases hg : ∃ p, GoodW ws p
    · obtain ⟨p, hp⟩ := hg
      obtain ⟨m, hm, hmb, htk⟩ := parts p hp
      have hpe := hp.1.2.1
      have hany : ((seen.map viewL).any fun z => PyData.eqv z (viewL p.1)) = decide (p.1 ∈ seen) := in_viewL hpe hok
      have hel : ∀ H3, Ex H2 H3 → EvL (tSl (rSlL K) (tVar 3) tNoPart (tPart (tBM K "list" (rIndex K) (tVar 3) (tCons (tC (.str "do")) tNil)))) [some (.ref a), some (.ref L), some (.int (i : Nat)), some (.ref Wd)] H3 ((("at" : Str) :: viewW p.1).map V.str) := fun H3 x3 => by
        rw [← htk, ← cutm]
        exact el_sl (ev_var rfl) eo_none (eo_some (ev_index (ev_var rfl) (ex_l x3 hW) hm hmb)) (ex_l x3 hW)
      refine q_when (b := !(goodB ws) || decide (p.1 ∈ seen)) (et_or (et_not (et_test (ev_fn (ea_cons (ev_var rfl) ea_nil) (sv_good hW wne hw40 hwl)))) fun _ => et_test (ev_opL1 (hel H2 (Ex.refl _)) (fun H3 x3 => ev_var rfl) fun q H3 hq x3 H4 x4 Q4 q4 => ⟨viewL p.1, seen.map viewL, Dp.lst (sq_of (x4 _ _ hq)) dpa_strs, Dp.lst (sq_of (x4 _ _ (x3 _ _ hL2))) (views_dp (paired_mono hvs2 fun _ _ ⟨b, z1, z2⟩ => ⟨b, z1, x4 _ _ (x3 _ _ z2)⟩)), ?_, ?_, by rw [hany]; exact q4 H4 (Ex.refl _)⟩)) (fun c H3 x3 => ?_) (fun c H3 x3 => ?_)
      · obtain ⟨h1, h2⟩ := viewL_lay hpe
        exact shaped_of ⟨h1, by omega⟩
      · refine list_shaped (k := 1) (fun d hd => ?_) (by decide)
        obtain ⟨v, hv, rfl⟩ := List.mem_map.mp hd
        exact viewL_lay (hok v hv)
      · have hns : ¬ ∃ p, GoodP seen ws p := fun ⟨p', h1, h2, h3, h4, h5⟩ => by
          rw [line_uniq h1 hp.1 (h2.symm.trans hp.2.1)] at h5
          rw [goodB_iff.mpr ⟨p, hp⟩, decide_eq_false h5] at c
          exact Bool.noConfusion c
        rw [hneg hns] at hfb
        refine ⟨_, rfl, ?_⟩
        have := k H3 (e2.trans (x2.trans x3))
        rw [hfb] at this
        exact this
      · have hnm : p.1 ∉ seen := fun z => by
          rw [decide_eq_true z, Bool.or_true] at c
          exact Bool.noConfusion c
        have hgp : ∃ p, GoodP seen ws p := ⟨p, hp.1, hp.2.1, hp.2.2.1, hp.2.2.2, hnm⟩
        rw [hpos hgp] at hfb
        have hch : hgp.choose = p := line_uniq hgp.choose_spec.1 hp.1 (hgp.choose_spec.2.1.symm.trans hp.2.1)
        rw [hch] at hfb
        have hvl : vs.length = i := by rw [Paired.length hvs, hsl]
        refine s_appL (x3 _ _ hL2) (ev_var rfl) (hel H3 x3) (by omega) fun q H4 nq x4 hq => ?_
        have hq4 : ∀ b o, H2 b = some (.lst o) → b ≠ L → (upd H4 L (.lst (vs ++ [.ref q]))) b = some (.lst o) := fun b o hb hn => by rw [upd_ne hn]; exact x4 _ _ (x3 _ _ hb)
        refine ⟨vs ++ [.ref q], seen ++ [p.1], _, _, (e2.trans (x2.trans (x3.trans x4))).mut nL, upd_same, ?_, ?_, by rw [List.length_append, List.length_singleton, hsl], hfb, rfl⟩
        · refine paired_snoc (paired_mono hvs2 fun x v ⟨b, z1, z2⟩ => ?_) ⟨q, rfl, by rw [upd_ne (fun z => by rw [z, x3 _ _ hL2] at nq; cases nq)]; exact hq⟩
          refine ⟨b, z1, ?_⟩
          exact hq4 b _ z2 (view_ne hvs2 hL2 z2)
        · intro v hv
          rcases List.mem_append.mp hv with hv | hv
          · exact hok v hv
          · rcases List.mem_singleton.mp hv with rfl
            exact hpe
    · refine q_when (b := true) (et_is (et_or (et_not (et_test (ev_fn (ea_cons (ev_var rfl) ea_nil) (sv_good hW wne hw40 hwl)))) (b := false) fun c => by rw [goodB_no hg] at c; exact Bool.noConfusion c) (by rw [goodB_no hg]; rfl)) (fun _ H3 x3 => ?_) (fun c => Bool.noConfusion c)
      have hns : ¬ ∃ p, GoodP seen ws p := fun ⟨p', h1, h2, h3, h4, h5⟩ => hg ⟨p', h1, h2, h3, h4⟩
      rw [hneg hns] at hfb
      refine ⟨_, rfl, ?_⟩
      have := k H3 (e2.trans (x2.trans x3))
      rw [hfb] at this
      exact this
  · rintro σ H1 ⟨vs, seen, u2, u3, e2, hL, hvs, hok, hsl, hfb, rfl⟩
    rw [Int.toNat_natCast, List.drop_length] at hfb
    have := k H1 e2
    rw [hfb] at this
    exact this
end
end LL
namespace LL
open PySem PySem.Spec PyProof.Rows L2 He Evl
/-! ### readings beside the pool: the base B grows, the pool at p changes, nothing else -/
structure Wd (p : Addr) (B H : Hp) : Prop where
  e : Ex B H
  b : B p = none
  P : Pool p B H
theorem Wd.stp {p : Addr} {B H B2 H2 : Hp} (w : Wd p B H) (a : Stp [p] B H B2 H2) (P : Pool p B2 H2) : Wd p B2 H2 := ⟨a.in_, a.off w.b w.P.at.choose_spec, P⟩
theorem Wd.ex {p : Addr} {B H H2 : Hp} (w : Wd p B H) (x : Ex H H2) : Stp [p] B H B H2 ∧ Wd p B H2 := by
  obtain ⟨o, ho⟩ := w.P.at
  exact ⟨Stp.ofEx w.e x, ⟨w.e.trans x, w.b, w.P.of (Ex.refl B) ((x _ _ ho).trans ho.symm)⟩⟩
theorem Wd.new {p a : Addr} {o : HO} {B H : Hp} (w : Wd p B H) (n : H a = none) : Stp [p] B H (upd B a o) (upd H a o) ∧ Wd p (upd B a o) (upd H a o) := by
  have s := Stp.new (ms := [p]) (o := o) w.e n
  exact ⟨s, w.stp s (w.P.n2 w.e n)⟩
/-- a new cell that is no thing of the base -/
theorem Wd.cell {p a : Addr} {o : HO} {B H : Hp} (w : Wd p B H) (n : H a = none) : Wd p B (upd H a o) := ⟨Ex.mut w.e (ex_none w.e n), w.b, w.P.n1 n⟩
theorem Wd.put {p a : Addr} {o : HO} {B H : Hp} (w : Wd p B H) (n : B a = none) (m : a ≠ p) : Wd p B (upd H a o) := ⟨Ex.mut w.e n, w.b, w.P.p1 m⟩
/-- what was found new goes into the base -/
theorem Wd.adopt {p a : Addr} {o : HO} {B H H2 : Hp} (w : Wd p B H) (x : Ex H H2) (n : H a = none) (h : H2 a = some o) : Stp [p] B H (upd B a o) H2 ∧ Wd p (upd B a o) H2 := by
  obtain ⟨s, w2⟩ := w.ex x
  have nb : B a = none := ex_none w.e n
  obtain ⟨k1, k2⟩ := Stp.keep w2.e h nb
  have s3 : Stp [p] B H (upd B a o) H2 := ⟨k1, k2, fun b h1 h2 => by
    rw [upd_ne (fun z => by subst z; exact h2 n)]; exact h1, s.fr, s.al⟩
  exact ⟨s3, w.stp s3 (w2.P.of k1 rfl)⟩
theorem Wd.refl {p : Addr} {B H : Hp} (w : Wd p B H) : Stp [p] B H B H := Stp.refl w.e
def GK {α : Type} (p : Addr) (k : Hp → (α → Hp → Prop) → Prop) (B : Hp) (R : α → Hp → Prop) : Prop :=
  ∀ B1 H1, Ex B B1 → Wd p B1 H1 → ∀ Q : α → Hp → Prop, (∀ v B2 H2, Stp [p] B1 H1 B2 H2 → Wd p B2 H2 → R v B2 → Q v H2) → k H1 Q
/-- an int from 0 on, below n -/
theorem base_pool {p : Addr} {H : Hp} {P : Pl} (h : PoolAt H p P) : ∃ B, Ex B H ∧ B p = none ∧ Pool p B H := by
  obtain ⟨h1, h2, h3⟩ := h
  have hne : P.at_ ≠ p := fun z => by
    rw [z, h1] at h2
    have := congrArg List.length (HO.lst.inj (Option.some.inj h2))
    have h4 := HO.lst.inj (Option.some.inj h2)
    cases hc : P.cells with
    | nil => rw [hc] at h4; cases h4
    | cons x r => rw [hc] at h4; cases h4
  refine ⟨fun b => if b = p then none else H b, fun b o hb => ?_, if_pos rfl, P, h1, ?_, h3⟩
  · by_cases z : b = p
    · simp [z] at hb
    · simpa [z] using hb
  · show (if P.at_ = p then none else H P.at_) = _
    rw [if_neg hne]
    exact h2
abbrev RI (n : Int) : V → Hp → Prop := fun v _ => ∃ r : Int, v = .int r ∧ 0 ≤ r ∧ r < n
section
variable {α β : Type} {p : Addr} {B B' H : Hp} {R R' : α → Hp → Prop} {k : Hp → (α → Hp → Prop) → Prop}
theorem GK.mono (e : Ex B B') (h : GK p k B R) : GK p k B' R := fun B1 H1 x w Q q => h B1 H1 (e.trans x) w Q q
theorem GK.imp (h : GK p k B R) (f : ∀ v B1, Ex B B1 → R v B1 → R' v B1) : GK p k B R' := fun B1 H1 x w Q q => h B1 H1 x w Q fun v B2 H2 s w2 r => q v B2 H2 s w2 (f v B2 (x.trans s.base) r)
theorem GK.go (h : GK p k B R) (w : Wd p B H) {Q : α → Hp → Prop} (q : ∀ v B2 H2, Stp [p] B H B2 H2 → Wd p B2 H2 → R v B2 → Q v H2) : k H Q := h B H (Ex.refl B) w Q q
theorem gk_pure {v : α} (h : ∀ B1, Ex B B1 → R v B1) : GK p (fun H Q => Q v H) B R := fun B1 H1 x w Q q => q v B1 H1 w.refl w (h B1 x)
theorem gk_bind {k2 : α → Hp → (β → Hp → Prop) → Prop} {S : β → Hp → Prop} (h : GK p k B R) (g : ∀ v B1, Ex B B1 → R v B1 → GK p (k2 v) B1 S) : GK p (fun H Q => k H fun v H1 => k2 v H1 Q) B S := fun B1 H1 x w Q q =>
  h B1 H1 x w _ fun v B2 H2 s w2 r => g v B2 (x.trans s.base) r B2 H2 (Ex.refl B2) w2 Q fun u B3 H3 s3 w3 z => q u B3 H3 (s.trans s3) w3 z
end
section
variable {p : Addr} {B : Hp} {σ : L2.St} {te ta tb : TE} {R R1 R2 : V → Hp → Prop} {v : V} {xs : List V} {i : Nat}
theorem gk_ev (h : Ev te σ B v) (r : ∀ B1, Ex B B1 → R v B1) : GK p (te σ) B R := fun B1 H1 x w Q q => h H1 (x.trans w.e) Q fun H2 x2 => by
  obtain ⟨s, w2⟩ := w.ex x2
  exact q v B1 H2 s w2 (r B1 x)
theorem gk_val (h : Ev te σ B v) : GK p (te σ) B (fun w _ => w = v) := gk_ev h fun _ _ => rfl
theorem gk_var (h : σ[i]? = some (some v)) (r : ∀ B1, Ex B B1 → R v B1) : GK p (tVar i σ) B R := gk_ev (ev_var h) r
theorem gk_c (r : ∀ B1, Ex B B1 → R v B1) : GK p (tC v σ) B R := gk_ev ev_c r
/-- a new list, a new tuple that the reading leaves behind new things of its own -/
theorem gk_newL (r : ∀ B1 a, Ex B B1 → B1 a = some (.lst xs) → R (.ref a) B1) : GK p (fun H Q => ∀ l, H l = none → Q (.ref l) (upd H l (.lst xs))) B R := fun B1 H1 x w Q q l nl => by
  obtain ⟨s, w2⟩ := w.new (o := .lst xs) nl
  exact q _ _ _ s w2 (r _ l (x.trans s.base) upd_same)
theorem gk_newT (r : ∀ B1 a, Ex B B1 → B1 a = some (.tup xs) → R (.ref a) B1) : GK p (fun H Q => ∀ l, H l = none → Q (.ref l) (upd H l (.tup xs))) B R := fun B1 H1 x w Q q l nl => by
  obtain ⟨s, w2⟩ := w.new (o := .tup xs) nl
  exact q _ _ _ s w2 (r _ l (x.trans s.base) upd_same)
/-- what holds of the heap beside goes into the base: an object that was found new -/
theorem gk_evL (h : EvL te σ B xs) (r : ∀ B1 a, Ex B B1 → B1 a = some (.lst xs) → R (.ref a) B1) : GK p (te σ) B R := fun B1 H1 x w Q q => h H1 (x.trans w.e) Q fun a H2 na x2 ha => by
  obtain ⟨s, w2⟩ := w.ex x2
  have nb : B1 a = none := ex_none w.e na
  obtain ⟨k1, k2⟩ := Stp.keep w2.e ha nb
  have s3 : Stp [p] B1 H1 (upd B1 a (.lst xs)) H2 := ⟨k1, k2, fun b h1 h2 => by
    rw [upd_ne (fun z => by subst z; exact h2 na)]; exact h1, s.fr, s.al⟩
  exact q _ _ H2 s3 (w.stp s3 (w2.P.of k1 rfl)) (r _ a (x.trans k1) upd_same)
theorem gk_evU (h : EvU te σ B xs) (r : ∀ B1 a, Ex B B1 → B1 a = some (.tup xs) → R (.ref a) B1) : GK p (te σ) B R := fun B1 H1 x w Q q => h H1 (x.trans w.e) Q fun a H2 na x2 ha => by
  obtain ⟨s, w2⟩ := w.ex x2
  have nb : B1 a = none := ex_none w.e na
  obtain ⟨k1, k2⟩ := Stp.keep w2.e ha nb
  have s3 : Stp [p] B1 H1 (upd B1 a (.tup xs)) H2 := ⟨k1, k2, fun b h1 h2 => by
    rw [upd_ne (fun z => by subst z; exact h2 na)]; exact h1, s.fr, s.al⟩
  exact q _ _ H2 s3 (w.stp s3 (w2.P.of k1 rfl)) (r _ a (x.trans k1) upd_same)
theorem gk_op {r : L2.R2} (h1 : GK p (ta σ) B R1) (h2 : ∀ x B1, Ex B B1 → R1 x B1 → GK p (tb σ) B1 (fun y B2 => GK p (r x y) B2 R)) : GK p (tOp r ta tb σ) B R :=
  gk_bind (k2 := fun x H Q => tb σ H fun y H2 => r x y H2 Q) h1 fun x B1 e1 r1 => gk_bind (k2 := fun y => r x y) (h2 x B1 e1 r1) fun _ _ _ z => z
theorem gk_rv {r : L2.R2} {x y z : V} (h : RV r x y B z) (k : ∀ B1, Ex B B1 → R z B1) : GK p (r x y) B R := fun B1 H1 e w Q q => h H1 (e.trans w.e) Q fun H2 x2 => by
  obtain ⟨s, w2⟩ := w.ex x2
  exact q z B1 H2 s w2 (k B1 e)
theorem gk_nil {R : List V → Hp → Prop} (h : ∀ B1, Ex B B1 → R [] B1) : GK p (tNil σ) B R := gk_pure h
theorem gk_cons {ta : TE} {tr : TA} {R : List V → Hp → Prop} (h1 : GK p (ta σ) B R1) (h2 : ∀ x B1, Ex B B1 → R1 x B1 → GK p (tr σ) B1 (fun vs B2 => R (x :: vs) B2)) : GK p (tCons ta tr σ) B R :=
  fun B1 H1 e w Q q => h1 B1 H1 e w _ fun x B2 H2 s2 w2 r1 => h2 x B2 (e.trans s2.base) r1 B2 H2 (Ex.refl _) w2 _ fun vs B3 H3 s3 w3 r => q _ B3 H3 (s2.trans s3) w3 r
theorem gk_c1 {tr : TA} {R : List V → Hp → Prop} (h1 : Ev ta σ B v) (h2 : GK p (tr σ) B (fun vs B2 => R (v :: vs) B2)) : GK p (tCons ta tr σ) B R :=
  gk_cons (gk_val h1) fun x B1 e1 r1 => by subst r1; exact h2.mono e1
/-- a call of a def -/
theorem gk_fn {t : TA} {sp : Sp} {E : XK} {S : List V → Hp → Prop} (h : GK p (t σ) B S) (g : ∀ vs B1, Ex B B1 → S vs B1 → GK p (fun H Q => sp vs H Q E) B1 R) : GK p ((fun σ H Q => t σ H fun vs H1 => sp vs H1 Q E) σ) B R := gk_bind (k2 := fun vs H Q => sp vs H Q E) h g
theorem gk_cb {t : TA} {r : List V → Hp → VK → Prop} {S : List V → Hp → Prop} (h : GK p (t σ) B S) (g : ∀ vs B1, Ex B B1 → S vs B1 → GK p (r vs) B1 R) : GK p (tCB r t σ) B R := gk_bind (k2 := r) h g
theorem gk_tup {t : TA} {S : List V → Hp → Prop} (h : GK p (t σ) B S) (g : ∀ vs B1, Ex B B1 → S vs B1 → vs.length ≤ 100000 ∧ ∀ B2 a, Ex B1 B2 → B2 a = some (.tup vs) → R (.ref a) B2) : GK p (tTup t σ) B R :=
  gk_bind (β := V) (k2 := fun (xs : List V) H Q => xs.length ≤ sizeLine ∧ ∀ a, H a = none → Q (.ref a) (upd H a (.tup xs))) h fun vs B1 e1 r1 B2 H2 e2 w2 Q q => ⟨Evl.sz_of (g vs B1 e1 r1).1, gk_newT (fun B3 a e3 ha => (g vs B1 e1 r1).2 B3 a (e2.trans e3) ha) B2 H2 (Ex.refl _) w2 Q q⟩
theorem gk_lst {t : TA} {S : List V → Hp → Prop} (h : GK p (t σ) B S) (g : ∀ vs B1, Ex B B1 → S vs B1 → vs.length ≤ 100000 ∧ ∀ B2 a, Ex B1 B2 → B2 a = some (.lst vs) → R (.ref a) B2) : GK p (tLst t σ) B R :=
  gk_bind (β := V) (k2 := fun (xs : List V) H Q => xs.length ≤ sizeLine ∧ ∀ a, H a = none → Q (.ref a) (upd H a (.lst xs))) h fun vs B1 e1 r1 B2 H2 e2 w2 Q q => ⟨Evl.sz_of (g vs B1 e1 r1).1, gk_newL (fun B3 a e3 ha => (g vs B1 e1 r1).2 B3 a (e2.trans e3) ha) B2 H2 (Ex.refl _) w2 Q q⟩
/-- a draw -/
theorem gk_drawn {n : Int} {E : XK} (h0 : 0 < n) (h1 : n < 1073741824) : GK p (fun H Q => spDraw [.ref p, .int n] H Q E) B (RI n) := fun B1 H1 e w Q q =>
  draw_s (n := n) w.e w.b w.P h0 h1 fun r H2 c0 c1 s P _ => q (.int r) B1 H2 s (w.stp s P) ⟨r, rfl, c0, c1⟩
theorem gk_draw {tn : TE} {n : Int} {E : XK} (hs : σ[i]? = some (some (.ref p))) (hn : Ev tn σ B (.int n)) (h0 : 0 < n) (h1 : n < 1073741824) : GK p ((fun σ H Q => tCons (tVar i) (tCons tn tNil) σ H fun vs H1 => spDraw vs H1 Q E) σ) B (RI n) :=
  gk_fn (S := fun vs _ => vs = [.ref p, .int n]) (gk_c1 (ev_var hs) (gk_c1 hn (gk_nil fun _ _ => rfl))) fun vs B1 e1 r1 => by subst r1; exact gk_drawn h0 h1
/-- a draw below a number that is itself found on the way -/
theorem gk_draw' {tn : TE} {P : Int → Prop} {E : XK} (hs : σ[i]? = some (some (.ref p))) (hn : GK p (tn σ) B (fun v _ => ∃ n, v = .int n ∧ P n)) (h01 : ∀ n, P n → 0 < n ∧ n < 1073741824) : GK p ((fun σ H Q => tCons (tVar i) (tCons tn tNil) σ H fun vs H1 => spDraw vs H1 Q E) σ) B (fun v _ => ∃ r n : Int, v = .int r ∧ P n ∧ 0 ≤ r ∧ r < n) :=
  gk_fn (S := fun vs _ => ∃ n, vs = [.ref p, .int n] ∧ P n) (gk_c1 (ev_var hs) (gk_cons hn fun x B1 e1 ⟨n, ex, hp⟩ => gk_nil fun _ _ => ⟨n, by rw [ex], hp⟩)) fun vs B1 e1 ⟨n, ev, hp⟩ => by
    subst ev
    exact (gk_drawn (h01 n hp).1 (h01 n hp).2).imp fun v B2 _ ⟨r, h1, h2, h3⟩ => ⟨r, n, h1, hp, h2, h3⟩
/-! tests -/
theorem gk_test {R : Bool → Hp → Prop} (h : GK p (te σ) B (fun v B1 => ∃ b, v = .bl b ∧ R b B1)) : GK p (tTest te σ) B R := fun B1 H1 e w Q q => h B1 H1 e w _ fun v B2 H2 s w2 ⟨b, hv, r⟩ => ⟨b, hv, q b B2 H2 s w2 r⟩
theorem gk_tv {tt : TT} {b : Bool} {R : Bool → Hp → Prop} (h : EvT tt σ B b) (r : ∀ B1, Ex B B1 → R b B1) : GK p (tt σ) B R := fun B1 H1 x w Q q => h H1 (x.trans w.e) Q fun H2 x2 => by
  obtain ⟨s, w2⟩ := w.ex x2
  exact q b B1 H2 s w2 (r B1 x)
/-! statements -/
variable {D : Ends} {tu tw tz : TS} {H : Hp}
theorem gs_asg (w : Wd p B H) (h : GK p (te σ) B R) (k : ∀ v B2 H2, Stp [p] B H B2 H2 → Wd p B2 H2 → R v B2 → D.nx (σ.set i (some v)) H2) : tAsg te (gName i) D σ H := h.go w k
theorem gq_asg (w : Wd p B H) (h : GK p (te σ) B R) (k : ∀ v B2 H2, Stp [p] B H B2 H2 → Wd p B2 H2 → R v B2 → tz D (σ.set i (some v)) H2) : tSeq (tAsg te (gName i)) tz D σ H := h.go w k
theorem gs_ret (w : Wd p B H) (h : GK p (te σ) B R) (k : ∀ v B2 H2, Stp [p] B H B2 H2 → Wd p B2 H2 → R v B2 → D.rt v H2) : tRet te D σ H := h.go w k
theorem gs_if {tt : TT} {R : Bool → Hp → Prop} (w : Wd p B H) (h : GK p (tt σ) B R) (h1 : ∀ B2 H2, Stp [p] B H B2 H2 → Wd p B2 H2 → R true B2 → tu D σ H2) (h2 : ∀ B2 H2, Stp [p] B H B2 H2 → Wd p B2 H2 → R false B2 → tw D σ H2) : tIfS tt tu tw D σ H :=
  h.go w fun b B2 H2 s w2 r => by
    cases b with
    | true => exact h1 B2 H2 s w2 r
    | false => exact h2 B2 H2 s w2 r
theorem gq_if {tt : TT} {R : Bool → Hp → Prop} (w : Wd p B H) (h : GK p (tt σ) B R) (h1 : ∀ B2 H2, Stp [p] B H B2 H2 → Wd p B2 H2 → R true B2 → tu { D with nx := tz D } σ H2) (h2 : ∀ B2 H2, Stp [p] B H B2 H2 → Wd p B2 H2 → R false B2 → tw { D with nx := tz D } σ H2) : tSeq (tIfS tt tu tw) tz D σ H := gs_if (D := { D with nx := tz D }) w h h1 h2
/-- an if without else -/
theorem gs_when {tt : TT} {R : Bool → Hp → Prop} (w : Wd p B H) (h : GK p (tt σ) B R) (h1 : ∀ B2 H2, Stp [p] B H B2 H2 → Wd p B2 H2 → R true B2 → tu D σ H2) (h2 : ∀ B2 H2, Stp [p] B H B2 H2 → Wd p B2 H2 → R false B2 → D.nx σ H2) : tIfS tt tu tNext D σ H := gs_if w h h1 h2
theorem gq_when {tt : TT} {R : Bool → Hp → Prop} (w : Wd p B H) (h : GK p (tt σ) B R) (h1 : ∀ B2 H2, Stp [p] B H B2 H2 → Wd p B2 H2 → R true B2 → tu { D with nx := tz D } σ H2) (h2 : ∀ B2 H2, Stp [p] B H B2 H2 → Wd p B2 H2 → R false B2 → tz D σ H2) : tSeq (tIfS tt tu tNext) tz D σ H := gs_if (D := { D with nx := tz D }) w h h1 h2
/-- for x in range(n), n found on the way -/
theorem gs_forR {ta : TA} {Rn : Int → Prop} {j : Nat} (w : Wd p B H) (h : GK p (ta σ) B (fun vs _ => ∃ n : Int, vs = [.int n] ∧ Rn n)) (hn : ∀ n, Rn n → 0 ≤ n ∧ n ≤ 100000) (Pv : Int → Nat → L2.St → Hp → Prop)
    (h0 : ∀ n B2 H2, Stp [p] B H B2 H2 → Wd p B2 H2 → Rn n → Pv n 0 σ H2)
    (hs : ∀ (n : Int) (i : Nat) σ' H', Rn n → (i : Int) < n → Pv n i σ' H' → tu { D with nx := Pv n (i + 1), ct := Pv n (i + 1), bk := D.nx } (σ'.set j (some (.int (i : Int)))) H') (hd : ∀ n σ' H', Rn n → Pv n n.toNat σ' H' → D.nx σ' H') : tFor (iRng1 ta) (gName j) tu D σ H :=
  h.go w fun vs B2 H2 s w2 ⟨n, ev, rn⟩ => by
    have hb := hn n rn
    refine ⟨n, ev, by omega, by omega, for_range (lo := 0) (n := n.toNat) (Pv n) (h0 n B2 H2 s w2 rn) (fun i σ' H' hi q => ?_) (fun σ' H' q => hd n σ' H' rn q)⟩
    have e0 : (0 : Int) + (i : Int) = (i : Int) := Int.zero_add _
    show tu { D with nx := Pv n (i + 1), ct := Pv n (i + 1), bk := D.nx } (σ'.set j (some (.int ((0 : Int) + (i : Int))))) H'
    rw [e0]
    exact hs n i σ' H' rn (by omega) q
theorem gq_forR {ta : TA} {Rn : Int → Prop} {j : Nat} (w : Wd p B H) (h : GK p (ta σ) B (fun vs _ => ∃ n : Int, vs = [.int n] ∧ Rn n)) (hn : ∀ n, Rn n → 0 ≤ n ∧ n ≤ 100000) (Pv : Int → Nat → L2.St → Hp → Prop)
    (h0 : ∀ n B2 H2, Stp [p] B H B2 H2 → Wd p B2 H2 → Rn n → Pv n 0 σ H2)
    (hs : ∀ (n : Int) (i : Nat) σ' H', Rn n → (i : Int) < n → Pv n i σ' H' → tu { D with nx := Pv n (i + 1), ct := Pv n (i + 1), bk := tz D } (σ'.set j (some (.int (i : Int)))) H') (hd : ∀ n σ' H', Rn n → Pv n n.toNat σ' H' → tz D σ' H') : tSeq (tFor (iRng1 ta) (gName j) tu) tz D σ H :=
  gs_forR (D := { D with nx := tz D }) w h hn Pv h0 hs hd
/-- [e for x in range(n)], e reads beside the pool -/
theorem gk_lcR {ta : TA} {Rn : Int → Prop} {Re : Nat → V → Hp → Prop} {j : Nat} {ws : List Nat} (h : GK p (ta σ) B (fun vs _ => ∃ n : Int, vs = [.int n] ∧ Rn n)) (hn : ∀ n, Rn n → 0 ≤ n ∧ n ≤ 40000) (hw : ∀ x, wipe ((wipe σ ws).set j (some x)) ws = wipe σ ws)
    (hm : ∀ i v B1 B2, Ex B1 B2 → Re i v B1 → Re i v B2) (he : ∀ (n : Int) (i : Nat) B1, Rn n → (i : Int) < n → Ex B B1 → GK p (te ((wipe σ ws).set j (some (.int (i : Int))))) B1 (Re i))
    (r : ∀ n B1 a vs, Ex B B1 → Rn n → vs.length = n.toNat → B1 a = some (.lst vs) → (∀ i v, vs[i]? = some v → Re i v B1) → R (.ref a) B1) : GK p (tLc (iRng1 ta) (gName j) tYes te ws σ) B R := fun B1 H1 e1 w1 Q q =>
  h B1 H1 e1 w1 _ fun vs B2 H2 s2 w2 ⟨n, ev, rn⟩ => by
    have hb := hn n rn
    have hbig : (100000 : Nat) ≤ sizeLine := by decide
    refine ⟨n, ev, by omega, by omega, fun L nL => ?_⟩
    have nLp : L ≠ p := w2.P.ne nL
    refine lc_range (lo := 0) (n := n.toNat) (fun i H' => ∃ B' vs, Stp [L, p] B2 (upd H2 L (.lst [])) B' H' ∧ Wd p B' H' ∧ H' L = some (.lst vs) ∧ B' L = none ∧ vs.length = i ∧ ∀ j v, vs[j]? = some v → Re j v B') ⟨B2, [], Stp.refl (w2.cell nL).e, w2.cell nL, upd_same, ex_none w2.e nL, rfl, fun _ _ h => by cases h⟩ (fun i H' hi z => ?_) (fun H' z => ?_)
    · obtain ⟨B', vs, st, w', hL, hBL, hlen, hre⟩ := z
      have e0 : (0 : Int) + (i : Int) = (i : Int) := Int.zero_add _
      show wipe ((wipe σ ws).set j (some (.int ((0 : Int) + (i : Int))))) ws = wipe σ ws ∧ tYes ((wipe σ ws).set j (some (.int ((0 : Int) + (i : Int))))) H' fun b H3 => if b = true then te ((wipe σ ws).set j (some (.int ((0 : Int) + (i : Int))))) H3 fun y H4 => ∃ acc, H4 L = some (.lst acc) ∧ acc.length < sizeLine ∧ _ else _
      rw [e0]
      refine ⟨hw _, yes_if ?_⟩
      refine he n i B' rn (by omega) ((e1.trans s2.base).trans st.base) B' H' (Ex.refl _) w' _ fun v B3 H3 s3 w3 rv => ?_
      have hL3 := s3.fr L _ (by simpa using nLp) hL
      have hB3 := s3.off hBL hL
      have st3 : Stp [L, p] B2 (upd H2 L (.lst [])) B3 H3 := st.trans (s3.wk fun x hx => .tail _ hx)
      refine ⟨vs, hL3, by omega, B3, vs ++ [v], st3.trans (Stp.put w3.e hB3 (.head _)), w3.put hB3 nLp, upd_same, hB3, by rw [List.length_append, List.length_singleton, hlen], fun k u hk => ?_⟩
      by_cases c : k < vs.length
      · rw [List.getElem?_append_left c] at hk
        exact hm k u B' B3 s3.base (hre k u hk)
      · rw [List.getElem?_append_right (by omega)] at hk
        have : k - vs.length = 0 := by
          cases hz : k - vs.length with
          | zero => rfl
          | succ m => rw [hz] at hk; cases hk
        rw [this] at hk
        cases hk
        rw [show k = i by omega]
        exact rv
    · obtain ⟨B', vs, st, w', hL, hBL, hlen, hre⟩ := z
      have cl := Stp.close w2.e nL st hL
      have w3 : Wd p (upd B' L (.lst vs)) H' := w2.stp cl (w'.P.of (Ex.new hBL) rfl)
      exact q _ _ H' (s2.trans cl) w3 (r n _ L vs (e1.trans (s2.base.trans cl.base)) rn hlen upd_same fun i v hv => hm i v _ _ (Ex.new hBL) (hre i v hv))
end
end LL
namespace LL
open PySem PySem.Spec PyProof.Rows L2 He Evl
/-! ### texts without a space -/
theorem spl_free (c : Nat) : ∀ x acc : List Nat, c ∉ acc → ∀ p ∈ TL.spl [c] 0 acc x, c ∉ p
  | [], acc, ha, p, hp => by
    rcases List.mem_singleton.mp (show p ∈ [acc] from hp) with rfl
    exact ha
  | d :: r, acc, ha, p, hp => by
    by_cases h : TL.pre [c] (d :: r) = true
    · rw [TL.spl_hit h] at hp
      rcases List.mem_cons.mp hp with rfl | hp
      · exact ha
      · exact spl_free c r [] (by simp) p hp
    · rw [TL.spl_miss (by simpa using h)] at hp
      refine spl_free c r _ (fun z => ?_) p hp
      rcases List.mem_append.mp z with z | z
      · exact ha z
      · have hd : c = d := by simpa using z
        subst hd
        have : TL.pre [c] (c :: r) = true := show ((([c] : List Nat) == [c]) = true) by simp
        exact h this
theorem split_free {x s : Str} {c : Nat} (es : s.cps.toList = [c]) (hc : c < 256) {p : Str} (hp : p ∈ Txt.split x s) : c ∉ p.cps.toList := by
  have hk : ¬ Builtin.Str.strKind x < Builtin.Str.strKind s := TL.kind_ok (by rw [← Array.all_toList, es]; simpa using hc)
  have e : (Txt.split x s).map TL.tl = TL.spl [c] 0 [] (TL.tl x) := by
    have := TL.split_spl x s (by rw [show TL.tl s = [c] from es]; simp) hk
    rw [show TL.tl s = [c] from es] at this
    exact this
  have : TL.tl p ∈ TL.spl [c] 0 [] (TL.tl x) := by rw [← e]; exact List.mem_map.mpr ⟨p, hp, rfl⟩
  exact spl_free c _ [] (by simp) _ this
structure FineS (n : Nat) (x : Str) : Prop where
  l : x.length ≤ n
  s : 32 ∉ x.cps.toList
def fineB (n : Nat) (x : Str) : Bool := decide (x.length ≤ n) && !(x.cps.toList.contains 32)
theorem fine_b {n : Nat} {x : Str} (h : fineB n x = true) : FineS n x := by
  unfold fineB at h
  rw [Bool.and_eq_true] at h
  exact ⟨of_decide_eq_true h.1, fun z => by
    have h2 := h.2
    rw [List.contains_iff_mem.mpr z] at h2
    exact Bool.noConfusion h2⟩
theorem FineS.mono {n m : Nat} {x : Str} (h : FineS n x) (l : n ≤ m) : FineS m x := ⟨Nat.le_trans h.l l, h.s⟩
theorem str_len (x : Str) : x.length = x.cps.toList.length := by simp [Str.length]
theorem cat_tl (x y : Str) : (x ++ y).cps.toList = x.cps.toList ++ y.cps.toList := TL.tl_append x y
theorem FineS.cat {n m : Nat} {x y : Str} (h : FineS n x) (g : FineS m y) : FineS (n + m) (x ++ y) := by
  refine ⟨?_, fun z => ?_⟩
  · rw [str_len, cat_tl, List.length_append, ← str_len, ← str_len]
    have := h.l
    have := g.l
    omega
  · rw [cat_tl] at z
    rcases List.mem_append.mp z with z | z
    · exact h.s z
    · exact g.s z
theorem FineS.num {x : Str} {n : Nat} (h : Num x n) : FineS 60 x := ⟨h.len.2, fun z => by have := h.dig _ z; omega⟩
theorem FineS.ch {c : Nat} (h : c ≠ 32) : FineS 1 ⟨#[c]⟩ := ⟨Nat.le_refl _, fun z => h (List.mem_singleton.mp (show 32 ∈ [c] from z)).symm⟩
theorem cut_pre {z : Str} {a : Nat} (h : a ≤ z.length) : (cutS z none (some (a : Int))).cps.toList = z.cps.toList.take a := by
  unfold cutS
  rw [HT.sIx_none, HT.sIx_nat, Nat.min_eq_left h]
  simp
theorem cut_suf {z : Str} {a : Nat} : (cutS z (some (a : Int)) none).cps.toList = z.cps.toList.drop a := by
  unfold cutS
  rw [HT.sIx_none, HT.sIx_nat]
  have e := str_len z
  by_cases h : a ≤ z.length
  · rw [Nat.min_eq_left h]
    simp only []
    rw [List.take_of_length_le (by rw [List.length_drop]; omega)]
  · rw [Nat.min_eq_right (by omega), Nat.sub_self]
    simp only []
    rw [List.take_zero, List.drop_of_length_le (by omega)]
theorem FineS.pre {n a : Nat} {z : Str} (h : FineS n z) (ha : a ≤ z.length) : FineS a (cutS z none (some (a : Int))) := by
  refine ⟨?_, fun y => ?_⟩
  · rw [str_len, cut_pre ha, List.length_take]; omega
  · rw [cut_pre ha] at y
    exact h.s (List.mem_of_mem_take y)
theorem FineS.suf {n a : Nat} {z : Str} (h : FineS n z) : FineS (z.length - a) (cutS z (some (a : Int)) none) := by
  refine ⟨?_, fun y => ?_⟩
  · rw [str_len, cut_suf, List.length_drop, ← str_len]; omega
  · rw [cut_suf] at y
    exact h.s (List.mem_of_mem_drop y)
/-- "".join of signs -/
theorem FineS.join {n : Nat} {ys : List Str} (hl : ys.length ≤ n) (h : ∀ y ∈ ys, FineS 1 y) : FineS n (Txt.join "" ys) := by
  refine ⟨?_, fun z => ?_⟩
  · have h1 := join_len "" ys
    have : (ys.map (·.length)).sum ≤ ys.length := by
      clear h1 hl
      induction ys with
      | nil => exact Nat.le_refl _
      | cons y ys ih =>
        have a := ih fun x hx => h x (.tail _ hx)
        have b := (h y (.head _)).l
        rw [List.map_cons, List.sum_cons, List.length_cons]
        omega
    have e : ("" : Str).length = 0 := rfl
    rw [e] at h1
    omega
  · have z : 32 ∈ TL.tl (Txt.join "" ys) := z
    rw [TL.join_eq, TL.tl_join] at z
    rcases joinL_mem z with z | ⟨q, hq, z⟩
    · cases z
    · obtain ⟨y, hy, rfl⟩ := List.mem_map.mp hq
      exact (h y hy).s z
/-! ### "9" * 60 -/
def rRepS : L2.R2 := fun x y H Q => ∃ z n, x = .str z ∧ y = .int n ∧ MulOk z n ∧ Q (.str (Txt.mul z n)) H
theorem op_repS {X : Cx} : OpR X (binaryOp .Mult) rRepS := by
  intro pins s σ H x y v u Q I rx ry h
  obtain ⟨z, n, rfl, rfl, hz, q⟩ := h
  obtain ⟨t, rfl⟩ := rx
  obtain ⟨t', rfl⟩ := ry
  exact SB.mul hz fun t' tk => ⟨.str (Txt.mul z n), H, I.tok _, ⟨_, rfl⟩, q⟩
theorem log60 {n : Nat} (h : n < 10 ^ 60) : ((n : Nat) : Int).natAbs.log2 < 1920 := by
  rw [Int.natAbs_natCast]
  exact log_lt (Nat.lt_trans h (by decide +kernel)) (by decide)
/-! ### the same as readings beside the pool -/
abbrev rAddS : L2.R2 := fun x y H Q => ∃ i j, x = .str i ∧ y = .str j ∧ i.length + j.length ≤ sizeLine ∧ Q (.str (i ++ j)) H
section
variable {p : Addr} {B : Hp} {σ : L2.St} {te ta tb : TE} {n m : Nat} {i : Nat}
def RS (n : Nat) : V → Hp → Prop := fun v _ => ∃ x, v = .str x ∧ FineS n x
/-- a list of fine texts in the base -/
def RL (n m : Nat) : V → Hp → Prop := fun v B => ∃ (a : Addr) (xs : List Str), v = .ref a ∧ B a = some (.lst (xs.map V.str)) ∧ xs.length ≤ m ∧ ∀ x ∈ xs, FineS n x
theorem gk_addS (h1 : GK p (ta σ) B (RS n)) (h2 : GK p (tb σ) B (RS m)) (hz : n + m ≤ 100000) : GK p (tOp rAddS ta tb σ) B (RS (n + m)) :=
  gk_op h1 fun x B1 e1 ⟨a, ea, ha⟩ => (h2.mono e1).imp fun y B2 e2 ⟨b, eb, hb⟩ => by
    subst ea
    subst eb
    exact gk_rv (z := .str (a ++ b)) (fun H1 _ Q q => ⟨a, b, rfl, rfl, Nat.le_trans (by have := ha.l; have := hb.l; omega) (by decide : 100000 ≤ sizeLine), q H1 (Ex.refl _)⟩) fun _ _ => ⟨_, rfl, ha.cat hb⟩
theorem gk_cS {x : Str} (h : fineB n x = true) : GK p (tC (.str x) σ) B (RS n) := gk_c fun _ _ => ⟨x, rfl, fine_b h⟩
theorem gk_repS {x : Str} {k : Int} (hk : MulOk x k) (h : fineB n (Txt.mul x k) = true) : GK p (tOp rRepS (tC (.str x)) (tC (.int k)) σ) B (RS n) :=
  gk_ev (ev_op ev_c ev_c fun H1 _ Q q => ⟨x, k, rfl, rfl, hk, q H1 (Ex.refl _)⟩) fun _ _ => ⟨_, rfl, fine_b h⟩
theorem gk_strI {k : Int} (h : Ev te σ B (.int k)) (h0 : 0 ≤ k) (h1 : k < 10 ^ 60) : GK p (tCB (fun xs H Q => ∃ i, xs = [V.int i] ∧ i.natAbs.log2 < 1920 ∧ Q (V.str (Str.ofString (toString i))) H) (tCons te tNil) σ) B (RS 60) := by
  obtain ⟨j, rfl⟩ : ∃ j : Nat, k = j := ⟨k.toNat, by omega⟩
  have hj : Num (istr (j : Nat)) j := ⟨rfl, by omega⟩
  exact gk_ev (v := .str (istr (j : Nat))) (fun H1 e Q q => h H1 e _ fun H2 e2 => ⟨_, rfl, log60 hj.2, q H2 e2⟩) fun _ _ => ⟨_, rfl, FineS.num hj⟩
/-- s[i], i drawn -/
theorem gk_ixS {S : Str} (hS : S.length ≤ 1000) (h32 : 32 ∉ S.cps.toList) (h1 : Ev ta σ B (.str S)) (h2 : GK p (tb σ) B (fun v _ => ∃ r : Int, v = .int r ∧ 0 ≤ r ∧ r < S.length)) : GK p (tOp rIxS ta tb σ) B (RS 1) :=
  gk_op (gk_val h1) fun x B1 e1 ex => (h2.mono e1).imp fun y B2 e2 ⟨r, ey, r0, r1⟩ => by
    subst ex
    subst ey
    obtain ⟨k, rfl⟩ : ∃ k : Nat, r = k := ⟨r.toNat, by omega⟩
    have e := str_len S
    obtain ⟨c, hc⟩ : ∃ c, S.cps.toList[k]? = some c := ⟨_, List.getElem?_eq_getElem (by omega)⟩
    exact gk_rv (z := .str ⟨#[c]⟩) (fun H1 _ Q q => ⟨S, _, c, rfl, rfl, Nat.le_trans hS (by decide), atI_nat hc, q H1 (Ex.refl _)⟩) fun _ _ => ⟨_, rfl, FineS.ch fun z => h32 (by rw [← z]; exact List.mem_of_getElem? hc)⟩
/-- a test == of a drawn number and a written one -/
theorem gk_eqT {c : Int} (h : GK p (ta σ) B (fun v _ => ∃ r : Int, v = .int r)) : GK p (tTest (tOp rEq ta (tC (.int c))) σ) B (fun _ _ => True) :=
  gk_test (gk_op h fun x B1 e1 ⟨r, ex⟩ => gk_c fun B2 e2 => by
    subst ex
    exact gk_rv (rv_eq rfl) fun _ _ => ⟨_, rfl, True.intro⟩)
theorem gk_addI {P : Int → Prop} {c : Int} (h : GK p (ta σ) B (fun v _ => ∃ r : Int, v = .int r ∧ P r)) : GK p (tOp (rI0 fun i j => .int (i + j)) (tC (.int c)) ta σ) B (fun v _ => ∃ r : Int, v = .int (c + r) ∧ P r) :=
  gk_op (gk_val ev_c) fun x B1 e1 ex => (h.mono e1).imp fun y B2 e2 ⟨r, ey, hr⟩ => by
    subst ex
    subst ey
    exact gk_rv rv_I0 fun _ _ => ⟨r, rfl, hr⟩
theorem gk_addI2 {P : Int → Prop} {c : Int} (h1 : Ev ta σ B (.int c)) (h : GK p (tb σ) B (fun v _ => ∃ r : Int, v = .int r ∧ P r)) : GK p (tOp (rI0 fun i j => .int (i + j)) ta tb σ) B (fun v _ => ∃ r : Int, v = .int (c + r) ∧ P r) :=
  gk_op (gk_val h1) fun x B1 e1 ex => (h.mono e1).imp fun y B2 e2 ⟨r, ey, hr⟩ => by
    subst ex
    subst ey
    exact gk_rv rv_I0 fun _ _ => ⟨r, rfl, hr⟩
/-- a list of texts + a list of texts -/
def RLP (P : List Str → Prop) : V → Hp → Prop := fun v B => ∃ (a : Addr) (xs : List Str), v = .ref a ∧ B a = some (.lst (xs.map V.str)) ∧ P xs
theorem RLP.mono {P : List Str → Prop} {v : V} {B B2 : Hp} (h : RLP P v B) (e : Ex B B2) : RLP P v B2 := by
  obtain ⟨a, xs, h1, h2, h3⟩ := h
  exact ⟨a, xs, h1, e _ _ h2, h3⟩
theorem gk_catP {P1 P2 P : List Str → Prop} (h1 : GK p (ta σ) B (RLP P1)) (h2 : GK p (tb σ) B (RLP P2)) (hz : ∀ xs ys, P1 xs → P2 ys → xs.length + ys.length ≤ 100000 ∧ P (xs ++ ys)) : GK p (tOp rCat ta tb σ) B (RLP P) :=
  gk_op h1 fun x B1 e1 ⟨a, xs, ea, ha, hx⟩ => (h2.mono e1).imp fun y B2 e2 ⟨b, ys, eb, hb, hy⟩ => by
    subst ea
    subst eb
    have ha2 := e2 _ _ ha
    obtain ⟨hz1, hz2⟩ := hz xs ys hx hy
    refine fun B3 H3 e3 w3 Q q => ⟨a, b, _, _, rfl, rfl, w3.e _ _ (e3 _ _ ha2), w3.e _ _ (e3 _ _ hb), by rw [List.length_map, List.length_map]; exact Nat.le_trans hz1 (by decide), ?_⟩
    rw [← List.map_append]
    exact gk_newL (xs := (xs ++ ys).map V.str) (R := RLP P) (B := B2) (fun B4 c e4 hc => ⟨c, xs ++ ys, rfl, hc, hz2⟩) B3 H3 e3 w3 Q q
theorem gk_cat {k l : Nat} (h1 : GK p (ta σ) B (RL n k)) (h2 : GK p (tb σ) B (RL n l)) (hz : k + l ≤ 100000) : GK p (tOp rCat ta tb σ) B (RL n (k + l)) :=
  gk_catP (P1 := fun xs => xs.length ≤ k ∧ ∀ x ∈ xs, FineS n x) (P2 := fun xs => xs.length ≤ l ∧ ∀ x ∈ xs, FineS n x) (P := fun xs => xs.length ≤ k + l ∧ ∀ x ∈ xs, FineS n x) h1 h2 fun xs ys hx hy => ⟨by omega, by rw [List.length_append]; omega, fun z hz => by
    rcases List.mem_append.mp hz with hz | hz
    · exact hx.2 z hz
    · exact hy.2 z hz⟩
theorem RL.mono {k : Nat} {v : V} {B B2 : Hp} (h : RL n k v B) (e : Ex B B2) : RL n k v B2 := by
  obtain ⟨a, xs, h1, h2, h3⟩ := h
  exact ⟨a, xs, h1, e _ _ h2, h3⟩
/-- args all of which are fine texts -/
def RA (n k : Nat) : List V → Hp → Prop := fun vs _ => ∃ xs : List Str, vs = xs.map V.str ∧ xs.length = k ∧ ∀ x ∈ xs, FineS n x
theorem gk_aN : GK p (tNil σ) B (RA n 0) := gk_nil fun _ _ => ⟨[], rfl, rfl, fun _ h => nomatch h⟩
theorem gk_aC {tr : TA} {k : Nat} (h1 : GK p (ta σ) B (RS m)) (h2 : GK p (tr σ) B (RA n k)) (hm : m ≤ n) : GK p (tCons ta tr σ) B (RA n (k + 1)) :=
  gk_cons h1 fun x B1 e1 ⟨a, ea, ha⟩ => (h2.mono e1).imp fun vs B2 e2 ⟨xs, ev, hl, hx⟩ => ⟨a :: xs, by rw [ea, ev, List.map_cons], by rw [List.length_cons, hl], fun z hz => by
    rcases List.mem_cons.mp hz with rfl | hz
    · exact ha.mono hm
    · exact hx z hz⟩
theorem gk_lstS {t : TA} {k : Nat} (h : GK p (t σ) B (RA n k)) (hk : k ≤ 1000) : GK p (tLst t σ) B (RL n k) :=
  gk_lst h fun vs B1 e1 ⟨xs, ev, hl, hx⟩ => ⟨by rw [ev, List.length_map]; omega, fun B2 a e2 ha => ⟨a, xs, rfl, by rw [← ev]; exact ha, by omega, hx⟩⟩
abbrev rJoin (K : PySem.W.Frag) : V → List V → Hp → VK → Prop := fun x xs H Q => ∃ a p, ∃ ys : List Str, x = .str a ∧ xs = [.ref p] ∧ (SqL K H p (ys.map V.str) ∨ SqT K H p (ys.map V.str)) ∧ (ys.map (·.length)).sum + ys.length * a.length ≤ 16777216 ∧ Q (.str (Txt.join a ys)) H
theorem sum_fine : ∀ {ys : List Str}, (∀ y ∈ ys, FineS n y) → (ys.map (·.length)).sum ≤ ys.length * n
  | [], _ => by simp
  | y :: ys, h => by
    have a := sum_fine fun x hx => h x (.tail _ hx)
    have b := (h y (.head _)).l
    rw [List.map_cons, List.sum_cons, List.length_cons, Nat.add_mul, Nat.one_mul]
    omega
theorem gk_join {K : PySem.W.Frag} {s : Str} (h : GK p (te σ) B (RL n m)) (hb : m * n + m * s.length ≤ 16777216) : GK p (tM1 (rJoin K) (tC (.str s)) te σ) B (fun v _ => ∃ ys, v = .str (Txt.join s ys) ∧ ys.length ≤ m ∧ ∀ y ∈ ys, FineS n y) := fun B1 H1 e1 w1 Q q =>
  ⟨⟨s, rfl⟩, h B1 H1 e1 w1 _ fun v B2 H2 s2 w2 ⟨a, ys, ev, ha, hl, hy⟩ => ⟨s, a, ys, rfl, by rw [ev], .inl (sq_of (w2.e _ _ ha)), by
    have a1 := sum_fine hy
    have a2 := Nat.mul_le_mul_right n hl
    have a3 := Nat.mul_le_mul_right s.length hl
    omega, q _ B2 H2 s2 w2 ⟨ys, rfl, hl, hy⟩⟩⟩
theorem ev_slS {tl th : TO} {lo hi : Option Int} {H : Hp} {z : Str} (h : Ev te σ H (.str z)) (h1 : EvO tl σ H lo) (h2 : EvO th σ H hi) (hz : z.length ≤ 100000) : Ev (tSl rSlS te tl th) σ H (.str (cutS z lo hi)) := fun H1 e Q q =>
  h H1 e _ fun H2 e2 => h1 H2 (e.trans e2) _ fun H3 e3 => h2 H3 ((e.trans e2).trans e3) _ fun H4 e4 => ⟨z, rfl, Nat.le_trans hz (by decide), q H4 (e2.trans (e3.trans e4))⟩
theorem gk_sufS {ti : TE} {P : Nat → Prop} {z : Str} (h : Ev te σ B (.str z)) (hi : GK p (ti σ) B (fun v _ => ∃ a : Nat, v = .int (a : Nat) ∧ P a)) (hz : z.length ≤ 100000) : GK p (tSl rSlS te (tPart ti) tNoPart σ) B (fun v _ => ∃ a : Nat, v = .str (cutS z (some (a : Int)) none) ∧ P a) := fun B1 H1 e1 w1 Q q =>
  gk_val h B1 H1 e1 w1 _ fun v B2 H2 s2 w2 hv => hi B2 H2 (e1.trans s2.base) w2 _ fun u B3 H3 s3 w3 ⟨a, hu, ha⟩ => ⟨_, hu, z, hv, Nat.le_trans hz (by decide), q _ B3 H3 (s2.trans s3) w3 ⟨a, rfl, ha⟩⟩
theorem gk_joinP {K : PySem.W.Frag} {s : Str} {P : List Str → Prop} (h : GK p (te σ) B (RLP P)) (hb : ∀ ys, P ys → (ys.map (·.length)).sum + ys.length * s.length ≤ 16777216) : GK p (tM1 (rJoin K) (tC (.str s)) te σ) B (fun v _ => ∃ ys, v = .str (Txt.join s ys) ∧ P ys) := fun B1 H1 e1 w1 Q q =>
  ⟨⟨s, rfl⟩, h B1 H1 e1 w1 _ fun v B2 H2 s2 w2 ⟨a, ys, ev, ha, hp⟩ => ⟨s, a, ys, rfl, by rw [ev], .inl (sq_of (w2.e _ _ ha)), hb ys hp, q _ B2 H2 s2 w2 ⟨ys, rfl, hp⟩⟩⟩
abbrev rSplitS : V → List V → Hp → VK → Prop := fun x xs H Q => ∃ a b, x = .str a ∧ xs = [.str b] ∧ (b.length == 0) = false ∧ a.length + 2 ≤ sizeLine ∧ rNewStrs (Txt.split a b) H Q
theorem gk_splitP {s : Str} {P : Str → Prop} (hs : (s.length == 0) = false) (h : GK p (te σ) B (fun v _ => ∃ z, v = .str z ∧ P z)) (hb : ∀ z, P z → z.length ≤ 90000) : GK p (tM1 rSplitS te (tC (.str s)) σ) B (RLP fun ws => ∃ z, P z ∧ ws = Txt.split z s) := fun B1 H1 e1 w1 Q q =>
  h B1 H1 e1 w1 _ fun v B2 H2 s2 w2 ⟨z, ev, hz⟩ => ⟨⟨z, ev⟩, z, s, ev, rfl, hs, Nat.le_trans (by have := hb z hz; omega : _ ≤ 100000) (by decide), fun a na => by
    obtain ⟨s3, w3⟩ := w2.new (o := .lst ((Txt.split z s).map V.str)) na
    exact q _ _ _ (s2.trans s3) w3 ⟨a, _, rfl, upd_same, z, hz, rfl⟩⟩
/-- menu[draw(len(menu))] -/
theorem gk_pick {K : PySem.W.Frag} {E : XK} {a : Addr} {xs : List Str} {j : Nat} (hs : σ[i]? = some (some (.ref a))) (hp : σ[j]? = some (some (.ref p))) (ha : B a = some (.lst (xs.map V.str))) (h0 : xs ≠ []) (hl : xs.length ≤ 100000) (hx : ∀ x ∈ xs, FineS n x) :
    GK p (tOp (rIxL K) (tVar i) (fun σ H Q => tCons (tVar j) (tCons (tCB (rLenS K) (tCons (tVar i) tNil)) tNil) σ H fun vs H1 => spDraw vs H1 Q E) σ) B (RS n) := by
  have hpos : 0 < xs.length := List.length_pos_iff.mpr h0
  refine gk_op (gk_val (ev_var hs)) fun x B1 e1 ex => ?_
  subst ex
  refine (gk_draw (n := (xs.length : Nat)) hp (ev_is (ev_len (ev_var hs) (sq_of (e1 _ _ ha))) (by rw [List.length_map])) (by omega) (by omega)).imp fun y B2 e2 ⟨r, ey, r0, r1⟩ => ?_
  subst ey
  obtain ⟨k, rfl⟩ : ∃ k : Nat, r = k := ⟨r.toNat, by omega⟩
  obtain ⟨z, hz⟩ : ∃ z, xs[k]? = some z := ⟨_, List.getElem?_eq_getElem (by omega)⟩
  exact gk_rv (z := .str z) (rv_ixL (sq_of (e2 _ _ (e1 _ _ ha))) (atI_nat (by rw [List.getElem?_map, hz]; rfl))) fun _ _ => ⟨z, rfl, hx z (List.mem_of_getElem? hz)⟩
theorem gk_lstE {t : TA} {k : Nat} (h : GK p (t σ) B (RA n k)) (hk : k ≤ 1000) : GK p (tLst t σ) B (RLP fun xs => xs.length = k ∧ ∀ x ∈ xs, FineS n x) :=
  gk_lst h fun vs B1 e1 ⟨xs, ev, hl, hx⟩ => ⟨by rw [ev, List.length_map]; omega, fun B2 a e2 ha => ⟨a, xs, rfl, by rw [← ev]; exact ha, hl, hx⟩⟩
/-- a written list of texts -/
theorem gk_lstC {t : TA} {xs : List Str} {k : Nat} (h : EvA t σ B (xs.map V.str)) (hb : (xs.all (fineB n) && decide (xs.length ≤ k)) = true) (hk : k ≤ 1000) : GK p (tLst t σ) B (RL n k) := by
  rw [Bool.and_eq_true, List.all_eq_true] at hb
  have hl := of_decide_eq_true hb.2
  exact gk_evL (el_lst h (by rw [List.length_map]; omega)) fun B1 a e1 ha => ⟨a, xs, rfl, ha, hl, fun x hx => fine_b (hb.1 x hx)⟩
end
end LL
namespace LL
open PySem PySem.Spec PyProof.Rows L2 He Evl ND
section
variable {w : World} {K : PySem.W.Frag} {mg : Str → Option Value} {base : Heap}
def signsS : Str := "/-+.0123456789abcdefghijklmnopqrstuvwxyzR_"
def spNear : Sp := fun us H Q _ => ∃ (p : Addr) (B : Hp) (x : Str) (n : Nat), us = [.ref p, .str x] ∧ Wd p B H ∧ FineS n x ∧ 8 ≤ n ∧ n ≤ 1000 ∧ ∀ y B2 H2, Stp [p] B H B2 H2 → Wd p B2 H2 → FineS (n + 1) y → Q (.str y) H2
theorem ev_slen {te : TE} {σ : L2.St} {H : Hp} {x : Str} (h : Ev te σ H (.str x)) (hl : x.length ≤ 100000) : Ev (tCB (fun xs H Q => ∃ z, xs = [.str z] ∧ z.length ≤ sizeLine ∧ Q (.int z.length) H) (tCons te tNil)) σ H (.int (x.length : Nat)) :=
  fun H1 e Q q => h H1 e _ fun H2 e2 => ⟨x, rfl, Nat.le_trans hl (by decide), q H2 e2⟩
theorem fn_l_near (T : Txt K mg) : Fn P w K mg base 2 (ga K "_law_near") (spNear) := by
  refine fn_def T.d_l_near sc_l_near (fun _ _ _ _ _ _ us hl => match us, hl with | [_, _], _ => rfl) (fun vs H Q E h => ?_) (fun cdv A outer s H vs Q E hr h => ?_)
  · obtain ⟨_, _, _, _, rfl, _⟩ := h
    rfl
  obtain ⟨p, B, x, n, rfl, wd, hx, hn8, hn, k⟩ := h
  have nd := sc_l_near.nd
  refine ⟨_, pss_cons (ps_set (i := 2) nd rfl (by first | exact Or.inl rfl | exact Or.inr rfl) (pe_str))
      (pss_cons (ps_if (pt_cmpR op_eq (pe_fn T.d_l_draw (fn_l_draw T) (hr.mono (by decide)) T.g_l_draw pc (pa_cons (pv 0) (pa_cons (pe_int) pa_nil))) (pe_int) (nomark _)) (pss_one (ps_ret (pe_join (pe_str) (pe_lc (own := [("_law_k", 3)]) (g := gName 3) (tt := tYes) rfl nd (pi_range1 rfl T.f_range (pa_cons (pe_op op_add (pe_int) (pe_fn T.d_l_draw (fn_l_draw T) (hr.mono (by decide)) T.g_l_draw pc (pa_cons (pv 0) (pa_cons (pe_int) pa_nil)))) pa_nil)) (blkOk_by (N := n_l_near) (sc := defScope s_l_near) (by decide +kernel)) (fun _ _ _ _ _ => pg_name (i := 3) nd rfl (by first | exact Or.inl rfl | exact Or.inr rfl)) (fun _ _ _ _ _ => pts_nil) (fun _ _ _ _ _ => pe_ix ix_str (pv 2) (pe_op op_add (pe_int) (pe_fn T.d_l_draw (fn_l_draw T) (hr.mono (by decide)) T.g_l_draw pcN (pa_cons (pv 0) (pa_cons (pe_int) pa_nil)))) (fun _ _ => rfl)))))) (pss_nil))
      (pss_cons (ps_set (i := 4) nd rfl (by first | exact Or.inl rfl | exact Or.inr rfl) (pe_fn T.d_l_draw (fn_l_draw T) (hr.mono (by decide)) T.g_l_draw pc (pa_cons (pv 0) (pa_cons (pe_op op_add (pe_callB call_len_str (by rfl) T.f_len (by decide +kernel) (pa_cons (pv 1) pa_nil)) (pe_int)) pa_nil))))
      (pss_one (ps_ret (pe_op op_add_str (pe_op op_add_str (pe_slice sl_str (pv 1) po_none (po_some (pv 4))) (pe_ix ix_str (pv 2) (pe_fn T.d_l_draw (fn_l_draw T) (hr.mono (by decide)) T.g_l_draw pc (pa_cons (pv 0) (pa_cons (pe_callB call_len_str (by rfl) T.f_len (by decide +kernel) (pa_cons (pv 2) pa_nil)) pa_nil))) (fun _ _ => rfl))) (pe_slice sl_str (pv 1) (po_some (pe_op op_add (pv 4) (pe_fn T.d_l_draw (fn_l_draw T) (hr.mono (by decide)) T.g_l_draw pc (pa_cons (pv 0) (pa_cons (pe_int) pa_nil))))) po_none)))))), ?_⟩
  have hbig : (100000 : Nat) ≤ sizeLine := by decide
  have hS : signsS.length ≤ 1000 := by decide +kernel
  have hS2 : 32 ∉ signsS.cps.toList := by decide +kernel
  have hSl : signsS.length = 42 := by decide +kernel
  have hxl := hx.l
  refine gq_asg wd (gk_val (v := .str signsS) ev_c) fun v B1 H1 s1 w1 hv => ?_
  subst hv
  refine gq_when w1 (gk_eqT ((gk_draw rfl ev_c (by decide) (by decide)).imp fun v _ _ ⟨r, h, _⟩ => ⟨r, h⟩)) (fun B2 H2 s2 w2 _ => ?_) (fun B2 H2 s2 w2 _ => ?_)
  · refine gs_ret (R := RS 7) w2 ?_ fun v B3 H3 s3 w3 ⟨y, hv, hy⟩ => by rw [hv]; exact k y B3 H3 (s1.trans (s2.trans s3)) w3 (hy.mono (by omega))
    refine (gk_join (n := 1) (m := 7) (gk_lcR (Rn := fun n => 1 ≤ n ∧ n ≤ 7) (Re := fun _ => RS 1) ?_ (fun n h => ⟨by omega, by omega⟩) (fun _ => rfl) (fun _ _ _ _ _ h => h) (fun n i B4 _ _ e4 => ?_) (fun n B4 a vs e4 rn hl ha hre => ?_)) (by decide)).imp fun v B4 _ ⟨ys, hv, hl, hy⟩ => ⟨_, hv, FineS.join hl hy⟩
    · refine gk_cons (gk_addI (P := fun r => 0 ≤ r ∧ r < 7) (gk_draw rfl ev_c (by decide) (by decide))) fun x B5 e5 ⟨r, ex, r0, r1⟩ => gk_nil fun _ _ => ⟨1 + r, by rw [ex], by omega, by omega⟩
    · refine gk_ixS hS hS2 (ev_var rfl) ((gk_addI (P := fun r => 0 ≤ r ∧ r < 26) (gk_draw rfl ev_c (by decide) (by decide))).imp fun v _ _ ⟨r, hv, r0, r1⟩ => ⟨14 + r, hv, by omega, by omega⟩)
    · obtain ⟨xs, hxs, hfx⟩ : ∃ xs : List Str, vs = xs.map V.str ∧ ∀ x ∈ xs, FineS 1 x := by
        clear ha hl
        induction vs with
        | nil => exact ⟨[], rfl, fun _ h => nomatch h⟩
        | cons v vs ih =>
          obtain ⟨xs, h1, h2⟩ := ih fun i u hu => hre (i + 1) u hu
          obtain ⟨x, hx1, hx2⟩ := hre 0 v rfl
          exact ⟨x :: xs, by rw [hx1, h1, List.map_cons], fun y hy => by
            rcases List.mem_cons.mp hy with rfl | hy
            · exact hx2
            · exact h2 y hy⟩
      subst hxs
      exact ⟨a, xs, rfl, ha, by rw [List.length_map] at hl; omega, hfx⟩
  · refine gq_asg (R := RI (((x.length : Nat) : Int) + 1)) w2 ?_ fun v B3 H3 s3 w3 ⟨r, hv, r0, r1⟩ => ?_
    · exact gk_draw rfl (ev_op (ev_slen (x := x) (ev_var rfl) (by omega)) ev_c rv_I0) (by omega) (by omega)
    subst hv
    obtain ⟨a, rfl⟩ : ∃ a : Nat, r = a := ⟨r.toNat, by omega⟩
    have s13 := s1.trans (s2.trans s3)
    refine gs_ret (R := RS (n + 1)) w3 ?_ fun v B4 H4 s4 w4 ⟨y, hv, hy⟩ => by rw [hv]; exact k y B4 H4 (s13.trans s4) w4 hy
    refine (gk_addS (n := a + 1) (m := x.length - a) (gk_addS (n := a) (m := 1) ?_ ?_ (by omega)) ?_ (by omega)).imp fun v _ _ ⟨y, hv, hy⟩ => ⟨y, hv, hy.mono (by omega)⟩
    · exact gk_ev (R := RS a) (ev_slS (z := x) (lo := none) (hi := some (a : Int)) (ev_var rfl) eo_none (eo_some (ev_var rfl)) (by omega)) fun _ _ => ⟨_, rfl, hx.pre (by omega)⟩
    · exact gk_ixS hS hS2 (ev_var rfl) (gk_draw rfl (ev_slen (x := signsS) (ev_var rfl) (by omega)) (by omega) (by omega))
    · refine (gk_sufS (P := fun b => a ≤ b) (ev_var rfl) ((gk_addI2 (P := fun r => 0 ≤ r ∧ r < 2) (ev_var rfl) (gk_draw rfl ev_c (by decide) (by decide))).imp fun v _ _ ⟨r, hv, r0, r1⟩ => ⟨a + r.toNat, by rw [hv, Int.natCast_add, Int.toNat_of_nonneg r0], by omega⟩) (by omega)).imp fun v _ _ ⟨b, hv, hb⟩ => ⟨_, hv, hx.suf.mono (by omega)⟩
end
end LL
namespace LL
open PySem PySem.Spec PyProof.Rows L2 He Evl ND
section
variable {w : World} {K : PySem.W.Frag} {mg : Str → Option Value} {base : Heap}
def spWord : Sp := fun us H Q _ => ∃ (p : Addr) (B : Hp) (a : Addr) (ws : List Str) (n : Nat), us = [.ref p, .ref a] ∧ Wd p B H ∧ B a = some (.lst (ws.map V.str)) ∧ ws.length ≤ 40 ∧ (∀ x ∈ ws, FineS n x) ∧ 130 ≤ n ∧ n ≤ 999 ∧ ∀ y B2 H2, Stp [p] B H B2 H2 → Wd p B2 H2 → FineS (n + 1) y → Q (.str y) H2
theorem sv_near {p : Addr} {B : Hp} {x : Str} {n : Nat} {E : XK} (h : FineS n x) (h8 : 8 ≤ n) (h1 : n ≤ 1000) : GK p (fun H Q => spNear [.ref p, .str x] H Q E) B (RS (n + 1)) := fun B1 H1 e1 w1 Q q =>
  ⟨p, B1, x, n, rfl, w1, h, h8, h1, fun y B2 H2 s2 w2 hy => q _ B2 H2 s2 w2 ⟨y, rfl, hy⟩⟩
theorem fn_l_word (T : Txt K mg) : Fn P w K mg base 3 (ga K "_law_word") (spWord) := by
  refine fn_def T.d_l_word sc_l_word (fun _ _ _ _ _ _ us hl => match us, hl with | [_, _], _ => rfl) (fun vs H Q E h => ?_) (fun cdv A outer s H vs Q E hr h => ?_)
  · obtain ⟨_, _, _, _, _, rfl, _⟩ := h
    rfl
  obtain ⟨p, B, a, ws, n, rfl, wd, ha, hwl, hws, hn1, hn2, k⟩ := h
  have nd := sc_l_word.nd
  refine ⟨_, pss_cons (ps_set (i := 2) nd rfl (by first | exact Or.inl rfl | exact Or.inr rfl) (pe_op op_add (pe_int) (pe_fn T.d_l_draw (fn_l_draw T) (hr.mono (by decide)) T.g_l_draw pc (pa_cons (pv 0) (pa_cons (pe_int) pa_nil)))))
      (pss_cons (ps_set (i := 3) nd rfl (by first | exact Or.inl rfl | exact Or.inr rfl) (pe_lst (pa_cons (pe_str) (pa_cons (pe_str) (pa_cons (pe_str) (pa_cons (pe_str) (pa_cons (pe_str) (pa_cons (pe_str) (pa_cons (pe_str) (pa_cons (pe_str) (pa_cons (pe_str) (pa_cons (pe_str) (pa_cons (pe_str) (pa_cons (pe_str) (pa_cons (pe_str) (pa_cons (pe_str) (pa_cons (pe_str) (pa_cons (pe_str) (pa_cons (pe_str) (pa_cons (pe_str) pa_nil))))))))))))))))))))
      (pss_cons (ps_set (i := 3) nd rfl (by first | exact Or.inl rfl | exact Or.inr rfl) (pe_op op_cat (pv 3) (pe_lst (pa_cons (pe_str) (pa_cons (pe_str) (pa_cons (pe_op op_repS (pe_str) (pe_int)) (pa_cons (pe_op op_repS (pe_str) (pe_int)) (pa_cons (pe_op op_add_str (pe_str) (pe_op op_repS (pe_str) (pe_int))) (pa_cons (pe_str) (pa_cons (pe_str) (pa_cons (pe_op op_add_str (pe_op op_add_str (pe_callTy call_str_int (by rfl) T.f_str (by decide +kernel) (pa_cons (pv 2) pa_nil)) (pe_str)) (pe_callTy call_str_int (by rfl) T.f_str (by decide +kernel) (pa_cons (pe_op op_mul (pe_int) (pv 2)) pa_nil))) (pa_cons (pe_str) (pa_cons (pe_str) pa_nil)))))))))))))
      (pss_cons (ps_set (i := 4) nd rfl (by first | exact Or.inl rfl | exact Or.inr rfl) (pe_op op_add (pe_int) (pe_ix ix_tup (pe_tup (pa_cons (pe_fn T.d_l_draw (fn_l_draw T) (hr.mono (by decide)) T.g_l_draw pc (pa_cons (pv 0) (pa_cons (pe_int) pa_nil))) (pa_cons (pe_fn T.d_l_draw (fn_l_draw T) (hr.mono (by decide)) T.g_l_draw pc (pa_cons (pv 0) (pa_cons (pe_op op_pow (pe_int) (pe_int)) pa_nil))) (pa_cons (pe_op op_add (pe_op op_pow (pe_int) (pe_int)) (pe_fn T.d_l_draw (fn_l_draw T) (hr.mono (by decide)) T.g_l_draw pc (pa_cons (pv 0) (pa_cons (pe_int) pa_nil)))) pa_nil)))) (pe_fn T.d_l_draw (fn_l_draw T) (hr.mono (by decide)) T.g_l_draw pc (pa_cons (pv 0) (pa_cons (pe_int) pa_nil))) (fun _ _ => rfl))))
      (pss_cons (ps_set (i := 3) nd rfl (by first | exact Or.inl rfl | exact Or.inr rfl) (pe_op op_cat (pv 3) (pe_lst (pa_cons (pe_op op_add_str (pe_str) (pe_callTy call_str_int (by rfl) T.f_str (by decide +kernel) (pa_cons (pv 4) pa_nil))) (pa_cons (pe_op op_add_str (pe_op op_add_str (pe_callTy call_str_int (by rfl) T.f_str (by decide +kernel) (pa_cons (pe_op op_sub (pv 4) (pe_int)) pa_nil)) (pe_str)) (pe_callTy call_str_int (by rfl) T.f_str (by decide +kernel) (pa_cons (pv 4) pa_nil))) (pa_cons (pe_str) (pa_cons (pe_str) (pa_cons (pe_str) (pa_cons (pe_str) (pa_cons (pe_str) (pa_cons (pe_str) (pa_cons (pe_str) (pa_cons (pe_str) pa_nil)))))))))))))
      (pss_cons (ps_set (i := 3) nd rfl (by first | exact Or.inl rfl | exact Or.inr rfl) (pe_op op_cat (pv 3) (pe_lst (pa_cons (pe_str) (pa_cons (pe_str) (pa_cons (pe_str) (pa_cons (pe_str) (pa_cons (pe_str) (pa_cons (pe_str) (pa_cons (pe_str) (pa_cons (pe_str) (pa_cons (pe_str) (pa_cons (pe_str) (pa_cons (pe_str) (pa_cons (pe_str) (pa_cons (pe_str) (pa_cons (pe_str) (pa_cons (pe_str) pa_nil))))))))))))))))))
      (pss_cons (ps_set (i := 3) nd rfl (by first | exact Or.inl rfl | exact Or.inr rfl) (pe_op op_cat (pv 3) (pe_lst (pa_cons (pe_str) (pa_cons (pe_str) (pa_cons (pe_str) (pa_cons (pe_str) (pa_cons (pe_str) (pa_cons (pe_str) pa_nil)))))))))
      (pss_cons (ps_set (i := 3) nd rfl (by first | exact Or.inl rfl | exact Or.inr rfl) (pe_op op_cat (pv 3) (pv 1)))
      (pss_cons (ps_set (i := 3) nd rfl (by first | exact Or.inl rfl | exact Or.inr rfl) (pe_op op_cat (pv 3) (pe_lst (pa_cons (pe_str) (pa_cons (pe_str) (pa_cons (pe_str) (pa_cons (pe_str) (pa_cons (pe_str) (pa_cons (pe_str) (pa_cons (pe_str) (pa_cons (pe_str) (pa_cons (pe_str) (pa_cons (pe_str) (pa_cons (pe_str) pa_nil))))))))))))))
      (pss_cons (ps_if (pt_cmpR op_eq (pe_fn T.d_l_draw (fn_l_draw T) (hr.mono (by decide)) T.g_l_draw pc (pa_cons (pv 0) (pa_cons (pe_int) pa_nil))) (pe_int) (nomark _)) (pss_one (ps_ret (pe_fn T.d_l_near (fn_l_near T) (hr.mono (by decide)) T.g_l_near pc (pa_cons (pv 0) (pa_cons (pe_ix ix_list (pv 3) (pe_fn T.d_l_draw (fn_l_draw T) (hr.mono (by decide)) T.g_l_draw pc (pa_cons (pv 0) (pa_cons (pe_callB call_len_seq (by rfl) T.f_len PySem.boot_len (pa_cons (pv 3) pa_nil)) pa_nil))) (fun _ _ => rfl)) pa_nil))))) (pss_nil))
      (pss_one (ps_ret (pe_ix ix_list (pv 3) (pe_fn T.d_l_draw (fn_l_draw T) (hr.mono (by decide)) T.g_l_draw pc (pa_cons (pv 0) (pa_cons (pe_callB call_len_seq (by rfl) T.f_len PySem.boot_len (pa_cons (pv 3) pa_nil)) pa_nil))) (fun _ _ => rfl))))))))))))), ?_⟩
  refine gq_asg (R := fun v _ => ∃ r : Int, v = .int (2 + r) ∧ 0 ≤ r ∧ r < 9) wd ?_ fun v B1 H1 s1 w1 ⟨r, hv, r0, r1⟩ => ?_
  · exact gk_addI (gk_draw rfl ev_c (by decide) (by decide))
  subst hv
  refine gq_asg (R := RL n 18) w1 ?_ fun v B2 H2 s2 w2 m2 => ?_
  · exact gk_lstS (by repeat (first | exact gk_aN | refine gk_aC (gk_cS (n := 64) (by decide +kernel)) ?_ (by omega))) (by decide)
  refine gq_asg (R := RL n 28) w2 ?_ fun v B3 H3 s3 w3 m3 => ?_
  · refine gk_cat (k := 18) (l := 10) (gk_var rfl fun B1 e => m2.mono e) (gk_lstS ?_ (by decide)) (by decide)
    have hfac : ∀ B', GK p ((fun σ => tOp rAddS (tOp rAddS (tCB (fun xs H Q => ∃ i, xs = [V.int i] ∧ i.natAbs.log2 < 1920 ∧ Q (V.str (Str.ofString (toString i))) H) (tCons (tVar 2) tNil)) (tC (.str "/"))) (tCB (fun xs H Q => ∃ i, xs = [V.int i] ∧ i.natAbs.log2 < 1920 ∧ Q (V.str (Str.ofString (toString i))) H) (tCons (tOp (rI CMul fun i j => V.int (i * j)) (tC (.int 2)) (tVar 2)) tNil)) σ) [some (V.ref p), some (.ref a), some (.int (2 + r)), some v, none]) B' (RS 121) := fun B' => by
      refine gk_addS (n := 61) (m := 60) (gk_addS (n := 60) (m := 1) (gk_strI (ev_var rfl) (by omega) (by omega)) (gk_cS (by decide +kernel)) (by decide)) (gk_strI (k := 2 * (2 + r)) (ev_op ev_c (ev_var rfl) (rv_I (.inl ⟨by decide, by decide⟩))) (by omega) (by omega)) (by decide)
    repeat (first | exact gk_aN | refine gk_aC (gk_cS (n := 64) (by decide +kernel)) ?_ (by omega) | refine gk_aC (gk_repS (n := 64) (by unfold MulOk; decide +kernel) (by decide +kernel)) ?_ (by omega) | refine gk_aC (gk_addS (n := 2) (m := 61) (gk_cS (by decide +kernel)) (gk_repS (by unfold MulOk; decide +kernel) (by decide +kernel)) (by decide)) ?_ (by omega) | refine gk_aC (hfac _) ?_ (by omega))
  refine gq_asg (R := fun v _ => ∃ r : Int, v = .int (2 + r) ∧ 0 ≤ r ∧ r < 10 ^ 59 + 9) w3 ?_ fun v B4 H4 s4 w4 ⟨z, hv, z0, z1⟩ => ?_
  · refine gk_addI (P := fun r => 0 ≤ r ∧ r < 10 ^ 59 + 9) ?_
    refine gk_op (R1 := fun v B => ∃ (t : Addr) (x y z : Int), v = .ref t ∧ B t = some (.tup [.int x, .int y, .int z]) ∧ (0 ≤ x ∧ x < 10 ^ 59 + 9) ∧ (0 ≤ y ∧ y < 10 ^ 59 + 9) ∧ (0 ≤ z ∧ z < 10 ^ 59 + 9)) ?_ fun v B5 e5 ⟨t, x, y, z, hv, ht, hx, hy, hz⟩ => ?_
    · refine gk_tup (S := fun vs _ => ∃ x y z : Int, vs = [.int x, .int y, .int z] ∧ (0 ≤ x ∧ x < 10 ^ 59 + 9) ∧ (0 ≤ y ∧ y < 10 ^ 59 + 9) ∧ (0 ≤ z ∧ z < 10 ^ 59 + 9)) ?_ fun vs B5 e5 ⟨x, y, z, hv, hx, hy, hz⟩ => ⟨by rw [hv]; show 3 ≤ 100000; decide, fun B6 t e6 ht => ⟨t, x, y, z, rfl, by rw [← hv]; exact ht, hx, hy, hz⟩⟩
      refine gk_cons (R1 := RI 9) (gk_draw rfl ev_c (by decide) (by decide)) fun v B5 e5 ⟨x, hx, x0, x1⟩ => ?_
      refine gk_cons (R1 := RI 1000000) (gk_draw rfl (ev_op ev_c ev_c (rv_I ⟨by decide, by decide, by decide⟩)) (by decide) (by decide)) fun v B6 e6 ⟨y, hy, y0, y1⟩ => ?_
      refine gk_cons (R1 := fun v _ => ∃ r : Int, v = .int (10 ^ 59 + r) ∧ 0 ≤ r ∧ r < 9) (gk_addI2 (ev_op ev_c ev_c (rv_I ⟨by decide, by decide, by decide⟩)) (gk_draw rfl ev_c (by decide) (by decide))) fun v B7 e7 ⟨z, hz, z0, z1⟩ => ?_
      exact gk_nil fun B8 e8 => ⟨x, y, 10 ^ 59 + z, by rw [hx, hy, hz], ⟨x0, by omega⟩, ⟨y0, by omega⟩, ⟨by omega, by omega⟩⟩
    · subst hv
      refine (gk_draw rfl ev_c (by decide) (by decide)).imp fun u B6 e6 ⟨i, hu, i0, i1⟩ => ?_
      subst hu
      obtain ⟨v, hv, hk⟩ := at3 (a := V.int x) (b := V.int y) (c := V.int z) i0 i1
      obtain ⟨r, rfl, hr⟩ : ∃ r : Int, v = .int r ∧ 0 ≤ r ∧ r < 10 ^ 59 + 9 := by
        rcases hk with rfl | rfl | rfl
        · exact ⟨x, rfl, hx⟩
        · exact ⟨y, rfl, hy⟩
        · exact ⟨z, rfl, hz⟩
      exact gk_rv (rv_ixT (st_of (e6 _ _ ht)) hv) fun _ _ => ⟨r, rfl, hr⟩
  subst hv
  have s14 := s1.trans (s2.trans (s3.trans s4))
  have m34 := m3.mono s4.base
  refine gq_asg (R := RL n 38) w4 ?_ fun v B5 H5 s5 w5 m5 => ?_
  · refine gk_cat (k := 28) (l := 10) (gk_var rfl fun B1 e => m34.mono e) (gk_lstS ?_ (by decide)) (by decide)
    refine gk_aC (gk_addS (n := 2) (m := 60) (gk_cS (by decide +kernel)) (gk_strI (ev_var rfl) (by omega) (by omega)) (by decide)) ?_ (by omega)
    refine gk_aC (gk_addS (n := 61) (m := 60) (gk_addS (n := 60) (m := 1) (gk_strI (k := 2 + z - 1) (ev_op (ev_var rfl) ev_c rv_I0) (by omega) (by omega)) (gk_cS (by decide +kernel)) (by decide)) (gk_strI (ev_var rfl) (by omega) (by omega)) (by decide)) ?_ (by omega)
    repeat (first | exact gk_aN | refine gk_aC (gk_cS (n := 64) (by decide +kernel)) ?_ (by omega))
  refine gq_asg (R := RL n 53) w5 ?_ fun v B6 H6 s6 w6 m6 => ?_
  · exact gk_cat (k := 38) (l := 15) (gk_var rfl fun B1 e => m5.mono e) (gk_lstS (by repeat (first | exact gk_aN | refine gk_aC (gk_cS (n := 64) (by decide +kernel)) ?_ (by omega))) (by decide)) (by decide)
  refine gq_asg (R := RL n 59) w6 ?_ fun v B7 H7 s7 w7 m7 => ?_
  · exact gk_cat (k := 53) (l := 6) (gk_var rfl fun B1 e => m6.mono e) (gk_lstS (by repeat (first | exact gk_aN | refine gk_aC (gk_cS (n := 64) (by decide +kernel)) ?_ (by omega))) (by decide)) (by decide)
  have s17 := s14.trans (s5.trans (s6.trans s7))
  have ha7 := s17.base _ _ ha
  refine gq_asg (R := RL n 99) w7 ?_ fun v B8 H8 s8 w8 m8 => ?_
  · exact gk_cat (k := 59) (l := 40) (gk_var rfl fun B1 e => m7.mono e) (gk_var rfl fun B1 e => ⟨a, ws, rfl, e _ _ ha7, hwl, hws⟩) (by decide)
  refine gq_asg (R := RLP fun xs => xs.length ≤ 110 ∧ xs ≠ [] ∧ ∀ x ∈ xs, FineS n x) w8 ?_ fun v B9 H9 s9 w9 ⟨b, xs, hv, hb, hxl, hx0, hxs⟩ => ?_
  · refine gk_catP (P1 := fun xs => xs.length ≤ 99 ∧ ∀ x ∈ xs, FineS n x) (P2 := fun xs => xs.length = 11 ∧ ∀ x ∈ xs, FineS n x) (gk_var rfl fun B1 e => m8.mono e) (gk_lstE (by repeat (first | exact gk_aN | refine gk_aC (gk_cS (n := 64) (by decide +kernel)) ?_ (by omega))) (by decide)) fun xs ys hx hy => ⟨by omega, by rw [List.length_append]; omega, fun z => ?_, fun z hz => ?_⟩
    · have := congrArg List.length z
      rw [List.length_append, hy.1] at this
      exact absurd this (by show ¬ xs.length + 11 = 0; omega)
    · rcases List.mem_append.mp hz with hz | hz
      · exact hx.2 z hz
      · exact hy.2 z hz
  subst hv
  have s19 := s17.trans (s8.trans s9)
  refine gq_when w9 (gk_eqT ((gk_draw rfl ev_c (by decide) (by decide)).imp fun v _ _ ⟨r, h, _⟩ => ⟨r, h⟩)) (fun B10 H10 s10 w10 _ => ?_) (fun B10 H10 s10 w10 _ => ?_)
  · refine gs_ret (R := RS (n + 1)) w10 ?_ fun v B11 H11 s11 w11 ⟨y, hv, hy⟩ => by rw [hv]; exact k y B11 H11 (s19.trans (s10.trans s11)) w11 hy
    refine gk_fn (S := fun vs _ => ∃ x, vs = [.ref p, .str x] ∧ FineS n x) (gk_c1 (ev_var rfl) (gk_cons (R1 := RS n) (gk_pick rfl rfl (s10.base _ _ hb) hx0 (by omega) hxs) fun v B11 e11 ⟨x, hv, hx⟩ => gk_nil fun _ _ => ⟨x, by rw [hv], hx⟩)) fun vs B11 e11 ⟨x, hv, hx⟩ => ?_
    subst hv
    exact sv_near hx (by omega) (by omega)
  · refine gs_ret (R := RS n) w10 ?_ fun v B11 H11 s11 w11 ⟨y, hv, hy⟩ => by rw [hv]; exact k y B11 H11 (s19.trans (s10.trans s11)) w11 (hy.mono (by omega))
    exact gk_pick rfl rfl (s10.base _ _ hb) hx0 (by omega) hxs
end
end LL
namespace LL
open PySem PySem.Spec PyProof.Rows L2 He Evl ND
section
variable {p : Addr} {B : Hp} {σ : L2.St} {te ta tb : TE} {K : PySem.W.Frag}
theorem gk_slAB {c : Addr} {ls : List Str} {a b : Nat} (he : Ev te σ B (.ref c)) (hc : B c = some (.lst (ls.map V.str))) (h1 : Ev ta σ B (.int (a : Nat))) (h2 : Ev tb σ B (.int (b : Nat))) (hab : a ≤ b) : GK p (tSl (rSlL K) te (tPart ta) (tPart tb) σ) B (RLP (· = (ls.drop a).take (b - a))) :=
  gk_evL (el_sl he (eo_some h1) (eo_some h2) (sq_of hc)) fun B1 x e1 hx => ⟨x, _, rfl, by rw [hx, cut_nat hab, ← List.map_drop, ← List.map_take], rfl⟩
theorem gk_slA {c : Addr} {ls : List Str} {a : Nat} (he : Ev te σ B (.ref c)) (hc : B c = some (.lst (ls.map V.str))) (h1 : Ev ta σ B (.int (a : Nat))) : GK p (tSl (rSlL K) te (tPart ta) tNoPart σ) B (RLP (· = ls.drop a)) :=
  gk_evL (el_sl he (eo_some h1) eo_none (sq_of hc)) fun B1 x e1 hx => ⟨x, _, rfl, by rw [hx, cut_from, ← List.map_drop], rfl⟩
theorem gk_slB {c : Addr} {ls : List Str} {b : Nat} (he : Ev te σ B (.ref c)) (hc : B c = some (.lst (ls.map V.str))) (h2 : Ev tb σ B (.int (b : Nat))) : GK p (tSl (rSlL K) te tNoPart (tPart tb) σ) B (RLP (· = ls.take b)) :=
  gk_evL (el_sl he eo_none (eo_some h2) (sq_of hc)) fun B1 x e1 hx => ⟨x, _, rfl, by
    have := cut_nat (xs := ls.map V.str) (a := 0) (b := b) (Nat.zero_le _)
    rw [List.drop_zero, Nat.sub_zero, ← List.map_take] at this
    rw [hx, ← this]
    rfl, rfl⟩
theorem gk_catE {xs ys : List Str} (h1 : GK p (ta σ) B (RLP (· = xs))) (h2 : GK p (tb σ) B (RLP (· = ys))) (hz : xs.length + ys.length ≤ 100000) : GK p (tOp rCat ta tb σ) B (RLP (· = xs ++ ys)) :=
  gk_catP h1 h2 fun a b ha hb => by subst ha; subst hb; exact ⟨hz, rfl⟩
theorem et_eqI {H : Hp} {r c : Int} (h : Ev te σ H (.int r)) : EvT (tTest (tOp rEq te (tC (.int c)))) σ H (decide (r = c)) :=
  et_test (ev_is (ev_op h ev_c (rv_eq rfl)) (congrArg V.bl (decide_eq_decide.mpr ⟨fun h => V.int.inj h, fun h => by rw [h]⟩)))
end
def LnOk (k : Nat) (l : Str) : Prop := (Txt.split l " ").length ≤ 34 + k ∧ ∀ x ∈ Txt.split l " ", x.length ≤ 200 + k
theorem LnOk.mono {k m : Nat} {l : Str} (h : LnOk k l) (hk : k ≤ m) : LnOk m l := ⟨by have := h.1; omega, fun x hx => by have := h.2 x hx; omega⟩
theorem ln_empty (k : Nat) : LnOk k "" := by
  have e : Txt.split ("" : Str) " " = [("" : Str)] := by decide +kernel
  refine ⟨by rw [e]; show 1 ≤ _; omega, fun x hx => ?_⟩
  rw [e] at hx
  rcases List.mem_singleton.mp hx with rfl
  exact Nat.zero_le _
theorem ln_join {k : Nat} {ys : List Str} (hl : ys.length ≤ 34 + k) (hx : ∀ x ∈ ys, FineS (200 + k) x) : LnOk k (Txt.join " " ys) := by
  by_cases z : ys = []
  · subst z
    exact ln_empty k
  · have e := spl_words (W := ys) (s := (" " : Str)) (c := 32) rfl (by decide) z fun x h => (hx x h).s
    unfold LnOk
    rw [e]
    exact ⟨hl, fun x h => (hx x h).l⟩
theorem LnOk.fine {k : Nat} {l : Str} (h : LnOk k l) : ∀ x ∈ Txt.split l " ", FineS (200 + k) x := fun x hx => ⟨h.2 x hx, split_free (c := 32) rfl (by decide) hx⟩
theorem LnOk.len {k : Nat} {l : Str} (h : LnOk k l) (hk : k ≤ 3) : l.length ≤ 9000 := by
  obtain ⟨_, hj⟩ := split_back (x := l) (s := (" " : Str)) (c := 32) rfl (by decide)
  have h1 := join_len " " (Txt.split l " ")
  rw [hj] at h1
  have h2 := sum_fine h.fine
  have h3 := h.1
  have e : (" " : Str).length = 1 := rfl
  rw [e] at h1
  have h4 : (Txt.split l " ").length * (200 + k) ≤ 37 * 203 := Nat.mul_le_mul (by omega) (by omega)
  omega
theorem LnOk.ok {l : Str} (h : LnOk 3 l) : LineOk l := ⟨Nat.le_trans (h.len (Nat.le_refl _)) (by decide), by have := h.1; omega, fun x hx => by have := h.2 x hx; omega⟩
section
variable {w : World} {K : PySem.W.Frag} {mg : Str → Option Value} {base : Heap}
theorem sv_word {p a : Addr} {B : Hp} {ws : List Str} {n : Nat} {E : XK} (ha : B a = some (.lst (ws.map V.str))) (hl : ws.length ≤ 40) (h : ∀ x ∈ ws, FineS n x) (h1 : 130 ≤ n) (h2 : n ≤ 999) : GK p (fun H Q => spWord [.ref p, .ref a] H Q E) B (RS (n + 1)) := fun B1 H1 e1 w1 Q q =>
  ⟨p, B1, a, ws, n, rfl, w1, e1 _ _ ha, hl, h, h1, h2, fun y B2 H2 s2 w2 hy => q _ B2 H2 s2 w2 ⟨y, rfl, hy⟩⟩
def spChanged : Sp := fun us H Q _ => ∃ (p : Addr) (B : Hp) (a : Addr) (ls : List Str), us = [.ref p, .ref a] ∧ Wd p B H ∧ B a = some (.lst (ls.map V.str)) ∧ ls.length ≤ 10 ∧ (∀ l ∈ ls, LnOk 0 l) ∧ ∀ (c : Addr) (zs : List Str) (B2 H2 : Hp), Stp [p] B H B2 H2 → Wd p B2 H2 → B2 c = some (.lst (zs.map V.str)) → zs.length ≤ 20 → (∀ l ∈ zs, LnOk 3 l) → Q (.ref c) H2
theorem fn_l_changed (T : Txt K mg) : Fn P w K mg base 4 (ga K "_law_changed") (spChanged) := by
  refine fn_def T.d_l_changed sc_l_changed (fun _ _ _ _ _ _ us hl => match us, hl with | [_, _], _ => rfl) (fun vs H Q E h => ?_) (fun cdv A outer s H vs Q E hr h => ?_)
  · obtain ⟨_, _, _, _, rfl, _⟩ := h
    rfl
  obtain ⟨p, B, a, ls, rfl, wd, ha, hll, hls, k⟩ := h
  have nd := sc_l_changed.nd
  refine ⟨_, pss_cons (ps_for (passes_of rfl) rfl (pi_range1 rfl T.f_range (pa_cons (pe_fn T.d_l_draw (fn_l_draw T) (hr.mono (by decide)) T.g_l_draw pc (pa_cons (pv 0) (pa_cons (pe_int) pa_nil))) pa_nil)) (pg_name (i := 2) nd rfl (by first | exact Or.inl rfl | exact Or.inr rfl)) (pss_cons (ps_set (i := 3) nd rfl (by first | exact Or.inl rfl | exact Or.inr rfl) (pe_fn T.d_l_draw (fn_l_draw T) (hr.mono (by decide)) T.g_l_draw pc (pa_cons (pv 0) (pa_cons (pe_op op_add (pe_callB call_len_seq (by rfl) T.f_len PySem.boot_len (pa_cons (pv 1) pa_nil)) (pe_int)) pa_nil))))
      (pss_cons (ps_set (i := 4) nd rfl (by first | exact Or.inl rfl | exact Or.inr rfl) (pe_fn T.d_l_draw (fn_l_draw T) (hr.mono (by decide)) T.g_l_draw pc (pa_cons (pv 0) (pa_cons (pe_op op_add (pe_callB call_len_seq (by rfl) T.f_len PySem.boot_len (pa_cons (pv 1) pa_nil)) (pe_int)) pa_nil))))
      (pss_cons (ps_set (i := 5) nd rfl (by first | exact Or.inl rfl | exact Or.inr rfl) (pe_split (pe_join (pe_str) (pe_slice sl_list (pv 1) (po_some (pv 3)) (po_some (pe_op op_add (pv 3) (pe_int))))) (pe_str)))
      (pss_cons (ps_set (i := 6) nd rfl (by first | exact Or.inl rfl | exact Or.inr rfl) (pe_fn T.d_l_draw (fn_l_draw T) (hr.mono (by decide)) T.g_l_draw pc (pa_cons (pv 0) (pa_cons (pe_callB call_len_seq (by rfl) T.f_len PySem.boot_len (pa_cons (pv 5) pa_nil)) pa_nil))))
      (pss_cons (ps_set (i := 7) nd rfl (by first | exact Or.inl rfl | exact Or.inr rfl) (pe_fn T.d_l_draw (fn_l_draw T) (hr.mono (by decide)) T.g_l_draw pc (pa_cons (pv 0) (pa_cons (pe_int) pa_nil))))
      (Evl.pss_cut (ps_if (pt_cmpR op_eq (pv 7) (pe_int) (nomark _)) (pss_one (ps_set (i := 1) nd rfl (by first | exact Or.inl rfl | exact Or.inr rfl) (pe_op op_cat (pe_slice sl_list (pv 1) po_none (po_some (pv 3))) (pe_slice sl_list (pv 1) (po_some (pe_op op_add (pv 3) (pe_int))) po_none)))) (pss_one (ps_if (pt_cmpR op_eq (pv 7) (pe_int) (nomark _)) (pss_one (ps_set (i := 1) nd rfl (by first | exact Or.inl rfl | exact Or.inr rfl) (pe_op op_cat (pe_op op_cat (pe_slice sl_list (pv 1) po_none (po_some (pv 3))) (pe_slice sl_list (pv 1) (po_some (pv 4)) (po_some (pe_op op_add (pv 4) (pe_int))))) (pe_slice sl_list (pv 1) (po_some (pv 3)) po_none)))) (pss_one (ps_if (pt_cmpR op_eq (pv 7) (pe_int) (nomark _)) (pss_one (ps_set (i := 1) nd rfl (by first | exact Or.inl rfl | exact Or.inr rfl) (pe_op op_cat (pe_op op_cat (pe_slice sl_list (pv 1) po_none (po_some (pv 3))) (pe_lst (pa_cons (pe_str) pa_nil))) (pe_slice sl_list (pv 1) (po_some (pv 3)) po_none)))) (pss_one (ps_if (pt_cmpR op_eq (pv 7) (pe_int) (nomark _)) (pss_one (ps_set (i := 1) nd rfl (by first | exact Or.inl rfl | exact Or.inr rfl) (pe_op op_cat (pe_op op_cat (pe_op op_cat (pe_slice sl_list (pv 1) po_none (po_some (pv 3))) (pe_slice sl_list (pv 1) (po_some (pe_op op_add (pv 3) (pe_int))) (po_some (pe_op op_add (pv 3) (pe_int))))) (pe_slice sl_list (pv 1) (po_some (pv 3)) (po_some (pe_op op_add (pv 3) (pe_int))))) (pe_slice sl_list (pv 1) (po_some (pe_op op_add (pv 3) (pe_int))) po_none)))) (pss_one (ps_if (pt_cmpR op_eq (pv 7) (pe_int) (nomark _)) (pss_one (ps_set (i := 5) nd rfl (by first | exact Or.inl rfl | exact Or.inr rfl) (pe_op op_cat (pe_slice sl_list (pv 5) po_none (po_some (pv 6))) (pe_slice sl_list (pv 5) (po_some (pe_op op_add (pv 6) (pe_int))) po_none)))) (pss_one (ps_if (pt_cmpR op_eq (pv 7) (pe_int) (nomark _)) (pss_one (ps_set (i := 5) nd rfl (by first | exact Or.inl rfl | exact Or.inr rfl) (pe_op op_cat (pe_op op_cat (pe_slice sl_list (pv 5) po_none (po_some (pv 6))) (pe_lst (pa_cons (pe_fn T.d_l_word (fn_l_word T) (hr.mono (by decide)) T.g_l_word pc (pa_cons (pv 0) (pa_cons (pv 5) pa_nil))) pa_nil))) (pe_slice sl_list (pv 5) (po_some (pv 6)) po_none)))) (pss_one (ps_set (i := 5) nd rfl (by first | exact Or.inl rfl | exact Or.inr rfl) (pe_op op_cat (pe_op op_cat (pe_slice sl_list (pv 5) po_none (po_some (pv 6))) (pe_lst (pa_cons (pe_fn T.d_l_word (fn_l_word T) (hr.mono (by decide)) T.g_l_word pc (pa_cons (pv 0) (pa_cons (pv 5) pa_nil))) pa_nil))) (pe_slice sl_list (pv 5) (po_some (pe_op op_add (pv 6) (pe_int))) po_none)))))))))))))))
      (pss_one (ps_if (PW.pt (pw_and (pt_cmpR op_gt (pv 7) (pe_int) (nomark _)) (pw_and1 (pt_cmpR op_lt (pv 3) (pe_callB call_len_seq (by rfl) T.f_len PySem.boot_len (pa_cons (pv 1) pa_nil)) (nomark _))))) (pss_one (ps_set (i := 1) nd rfl (by first | exact Or.inl rfl | exact Or.inr rfl) (pe_op op_cat (pe_op op_cat (pe_slice sl_list (pv 1) po_none (po_some (pv 3))) (pe_lst (pa_cons (pe_join (pe_str) (pv 5)) pa_nil))) (pe_slice sl_list (pv 1) (po_some (pe_op op_add (pv 3) (pe_int))) po_none)))) (pss_nil))))))))))
      (pss_one (ps_ret (pv 1))), ?_⟩
  refine gq_forR (Rn := fun n => 0 ≤ n ∧ n ≤ 3) wd ?_ (fun n h => ⟨by omega, by omega⟩) (fun n i σ H' => ∃ (B' : Hp) (c : Addr) (zs : List Str) (u2 u3 u4 u5 u6 u7 : Option V), Stp [p] B H B' H' ∧ Wd p B' H' ∧ B' c = some (.lst (zs.map V.str)) ∧ zs.length ≤ 10 + i ∧ (∀ l ∈ zs, LnOk i l) ∧ σ = [some (.ref p), some (.ref c), u2, u3, u4, u5, u6, u7]) ?_ ?_ ?_
  · exact gk_cons (gk_draw (n := 4) rfl ev_c (by decide) (by decide)) fun x B1 e1 ⟨r, hr, r0, r1⟩ => gk_nil fun _ _ => ⟨r, by rw [hr], r0, by omega⟩
  · intro n B2 H2 s2 w2 rn
    exact ⟨B2, a, ls, _, _, _, _, _, _, s2, w2, s2.base _ _ ha, by omega, hls, rfl⟩
  · rintro n i σ H1 ⟨n0, n3⟩ hi ⟨B1, c, zs, u2, u3, u4, u5, u6, u7, s1, w1, hc, hzl, hzs, rfl⟩
    have hi3 : i ≤ 2 := by omega
    dsimp only [List.set]
    have lenz : ∀ {σ' : L2.St} {B' : Hp}, σ'[1]? = some (some (.ref c)) → Ex B1 B' → Ev (tOp (rI0 fun i j => .int (i + j)) (tCB (rLenS K) (tCons (tVar 1) tNil)) (tC (.int 1))) σ' B' (.int ((zs.length : Nat) + 1)) := fun hs e => by
      have := ev_op (ev_len (K := K) (ev_var hs) (sq_of (e _ _ hc))) (ev_c (v := .int 1)) (rv_I0 (g := fun i j => .int (i + j)))
      rw [List.length_map] at this
      exact this
    refine gq_asg (R := RI ((zs.length : Nat) + 1)) w1 ?_ fun v B2 H2 s2 w2 ⟨r, hv, r0, r1⟩ => ?_
    · exact gk_draw rfl (lenz rfl (Ex.refl _)) (by omega) (by omega)
    subst hv
    obtain ⟨pl, rfl⟩ : ∃ pl : Nat, r = pl := ⟨r.toNat, by omega⟩
    refine gq_asg (R := RI ((zs.length : Nat) + 1)) w2 ?_ fun v B3 H3 s3 w3 ⟨r, hv, q0, q1⟩ => ?_
    · exact gk_draw rfl (lenz rfl s2.base) (by omega) (by omega)
    subst hv
    obtain ⟨ot, rfl⟩ : ∃ ot : Nat, r = ot := ⟨r.toNat, by omega⟩
    have s13 := s2.trans s3
    have hc3 := s13.base _ _ hc
    dsimp only [List.set]
    refine gq_asg (R := RLP fun ws => ws ≠ [] ∧ ws.length ≤ 34 + i ∧ ∀ x ∈ ws, FineS (200 + i) x) w3 ?_ fun v B4 H4 s4 w4 ⟨d, ws, hv, hd, wne, hwl, hws⟩ => ?_
    · refine (gk_splitP (P := fun z => LnOk i z) rfl ((gk_joinP (gk_slAB (a := pl) (b := pl + 1) (ev_var rfl) hc3 (ev_var rfl) (ev_op (ev_var rfl) ev_c rv_I0) (by omega)) ?g1).imp fun v _ _ ⟨ys, hv, hy⟩ => ⟨_, hv, ?g2⟩) ?g3).imp fun v B' _ ⟨d, ws, hv, hd, z, hz, hw⟩ => ⟨d, ws, hv, hd, ?g4, ?g5, ?g6⟩
      case g1 =>
        intro ys hy
        subst hy
        have hm : ∀ l ∈ (zs.drop pl).take (pl + 1 - pl), l.length ≤ 9000 := fun l hl => (hzs l (List.mem_of_mem_drop (List.mem_of_mem_take hl))).len (by omega)
        have hn : ((zs.drop pl).take (pl + 1 - pl)).length ≤ 1 := by rw [List.length_take]; omega
        generalize (zs.drop pl).take (pl + 1 - pl) = ys at hm hn
        have e : (" " : Str).length = 1 := rfl
        rw [e]
        match ys, hn, hm with
        | [], _, _ => decide
        | [y], _, hm =>
          have := hm y (.head _)
          show y.length + 0 + 1 * 1 ≤ _
          omega
      case g2 =>
        subst hy
        have hm : ∀ l ∈ (zs.drop pl).take (pl + 1 - pl), LnOk i l := fun l hl => hzs l (List.mem_of_mem_drop (List.mem_of_mem_take hl))
        have hn : ((zs.drop pl).take (pl + 1 - pl)).length ≤ 1 := by rw [List.length_take]; omega
        generalize (zs.drop pl).take (pl + 1 - pl) = ys at hm hn
        match ys, hn, hm with
        | [], _, _ => exact ln_empty i
        | [y], _, hm => rw [join1]; exact hm y (.head _)
      case g3 =>
        intro z hz
        have := hz.len (by omega)
        omega
      case g4 => rw [hw]; exact (split_back (c := 32) rfl (by decide)).1
      case g5 => rw [hw]; exact hz.1
      case g6 => rw [hw]; exact hz.fine
    subst hv
    have s14 := s13.trans s4
    have hc4 := s14.base _ _ hc
    dsimp only [List.set]
    have wpos : 0 < ws.length := List.length_pos_iff.mpr wne
    refine gq_asg (R := RI (ws.length : Nat)) w4 ?_ fun v B5 H5 s5 w5 ⟨r, hv, r0, r1⟩ => ?_
    · exact gk_draw rfl (ev_is (ev_len (ev_var rfl) (sq_of hd)) (by rw [List.length_map])) (by omega) (by omega)
    subst hv
    obtain ⟨at_, rfl⟩ : ∃ at_ : Nat, r = at_ := ⟨r.toNat, by omega⟩
    refine gq_asg (R := RI 8) w5 ?_ fun v B6 H6 s6 w6 ⟨way, hv, _, _⟩ => ?_
    · exact gk_draw rfl ev_c (by decide) (by decide)
    subst hv
    have s16 := s14.trans (s5.trans s6)
    have hc6 := s16.base _ _ hc
    have hd6 := (s5.trans s6).base _ _ hd
    dsimp only [List.set]
    -- the changes
    have sub1 : ∀ {l}, l ∈ zs → LnOk (i + 1) l := fun h => (hzs _ h).mono (by omega)
    have subw : ∀ {x}, x ∈ ws → FineS (200 + (i + 1)) x := fun h => (hws _ h).mono (by omega)
    let Mid : L2.St → Hp → Prop := fun σ H' => ∃ (B' : Hp) (c d : Addr) (zs ws : List Str), Stp [p] B1 H1 B' H' ∧ Wd p B' H' ∧ B' c = some (.lst (zs.map V.str)) ∧ B' d = some (.lst (ws.map V.str)) ∧ zs.length ≤ 10 + (i + 1) ∧ (∀ l ∈ zs, LnOk (i + 1) l) ∧ ws.length ≤ 34 + (i + 1) ∧ (∀ x ∈ ws, FineS (200 + (i + 1)) x) ∧ σ = [some (.ref p), some (.ref c), some (.int (i : Nat)), some (.int (pl : Nat)), some (.int (ot : Nat)), some (.ref d), some (.int (at_ : Nat)), some (.int way)]
    have finL : ∀ {v B' H'}, Stp [p] B6 H6 B' H' → Wd p B' H' → RLP (fun ys => ys.length ≤ 10 + (i + 1) ∧ ∀ l ∈ ys, LnOk (i + 1) l) v B' → Mid [some (.ref p), some v, some (.int (i : Nat)), some (.int (pl : Nat)), some (.int (ot : Nat)), some (.ref d), some (.int (at_ : Nat)), some (.int way)] H' := by
      rintro v B' H' s' w' ⟨c', ys, rfl, hc', hy⟩
      exact ⟨B', c', d, ys, ws, s16.trans s', w', hc', s'.base _ _ hd6, hy.1, hy.2, by omega, fun x hx => subw hx, rfl⟩
    have finW : ∀ {v B' H'}, Stp [p] B6 H6 B' H' → Wd p B' H' → RLP (fun ys => ys.length ≤ 34 + (i + 1) ∧ ∀ x ∈ ys, FineS (200 + (i + 1)) x) v B' → Mid [some (.ref p), some (.ref c), some (.int (i : Nat)), some (.int (pl : Nat)), some (.int (ot : Nat)), some v, some (.int (at_ : Nat)), some (.int way)] H' := by
      rintro v B' H' s' w' ⟨d', ys, rfl, hd', hy⟩
      exact ⟨B', c, d', zs, ys, s16.trans s', w', s'.base _ _ hc6, hd', by omega, fun l hl => sub1 hl, hy.1, hy.2, rfl⟩
    have hplus : ∀ {σ' : L2.St} {B' : Hp}, σ'[3]? = some (some (.int (pl : Nat))) → Ev (tOp (rI0 fun i j => .int (i + j)) (tVar 3) (tC (.int 1))) σ' B' (.int ((pl + 1 : Nat) : Int)) := fun hs => ev_op (ev_var hs) ev_c rv_I0
    refine ⟨Mid, ?_, ?_⟩
    · refine gs_if (R := fun _ _ => True) w6 (gk_tv (et_eqI (ev_var rfl)) fun _ _ => True.intro) (fun B7 H7 s7 w7 _ => ?_) (fun B7 H7 s7 w7 _ => ?_)
      · refine gs_asg w7 ((gk_catE (gk_slB (ev_var rfl) (s7.base _ _ hc6) (ev_var rfl)) (gk_slA (ev_var rfl) (s7.base _ _ hc6) (hplus rfl)) ?_).imp ?_) fun v B8 H8 s8 w8 r => finL (s7.trans s8) w8 r
        · rw [List.length_take, List.length_drop]; omega
        · rintro v B' _ ⟨c', ys, hv, hc', rfl⟩
          refine ⟨c', _, hv, hc', by rw [List.length_append, List.length_take, List.length_drop]; omega, fun l hl => ?_⟩
          rcases List.mem_append.mp hl with hl | hl
          · exact sub1 (List.mem_of_mem_take hl)
          · exact sub1 (List.mem_of_mem_drop hl)
      refine gs_if (R := fun _ _ => True) w7 (gk_tv (et_eqI (ev_var rfl)) fun _ _ => True.intro) (fun B8 H8 s8 w8 _ => ?_) (fun B8 H8 s8 w8 _ => ?_)
      · have s78 := s7.trans s8
        have hc8 := s78.base _ _ hc6
        refine gs_asg w8 ((gk_catE (gk_catE (gk_slB (ev_var rfl) hc8 (ev_var rfl)) (gk_slAB (a := ot) (b := ot + 1) (ev_var rfl) hc8 (ev_var rfl) (ev_op (ev_var rfl) ev_c rv_I0) (by omega)) ?_) (gk_slA (ev_var rfl) hc8 (ev_var rfl)) ?_).imp ?_) fun v B8 H8 s8 w8 r => finL (s78.trans s8) w8 r
        · rw [List.length_take, List.length_take, List.length_drop]; omega
        · rw [List.length_append, List.length_take, List.length_take, List.length_drop, List.length_drop]; omega
        · rintro v B' _ ⟨c', ys, hv, hc', rfl⟩
          refine ⟨c', _, hv, hc', by rw [List.length_append, List.length_append, List.length_take, List.length_take, List.length_drop, List.length_drop]; omega, fun l hl => ?_⟩
          rcases List.mem_append.mp hl with hl | hl
          · rcases List.mem_append.mp hl with hl | hl
            · exact sub1 (List.mem_of_mem_take hl)
            · exact sub1 (List.mem_of_mem_drop (List.mem_of_mem_take hl))
          · exact sub1 (List.mem_of_mem_drop hl)
      refine gs_if (R := fun _ _ => True) w8 (gk_tv (et_eqI (ev_var rfl)) fun _ _ => True.intro) (fun B9 H9 s9 w9 _ => ?_) (fun B9 H9 s9 w9 _ => ?_)
      · have s79 := s7.trans (s8.trans s9)
        have hc9 := s79.base _ _ hc6
        refine gs_asg w9 ((gk_catE (ys := zs.drop pl) (gk_catE (ys := [("" : Str)]) (gk_slB (ev_var rfl) hc9 (ev_var rfl)) (gk_evL (el_lst (ea_cons ev_c ea_nil) (by decide)) fun B1 x e1 hx => ⟨x, [("" : Str)], rfl, hx, rfl⟩) ?_) (gk_slA (ev_var rfl) hc9 (ev_var rfl)) ?_).imp ?_) fun v B8 H8 s8 w8 r => finL (s79.trans s8) w8 r
        · rw [List.length_take, List.length_singleton]; omega
        · rw [List.length_append, List.length_take, List.length_singleton, List.length_drop]; omega
        · rintro v B' _ ⟨c', ys, hv, hc', rfl⟩
          refine ⟨c', _, hv, hc', by rw [List.length_append, List.length_append, List.length_take, List.length_singleton, List.length_drop]; omega, fun l hl => ?_⟩
          rcases List.mem_append.mp hl with hl | hl
          · rcases List.mem_append.mp hl with hl | hl
            · exact sub1 (List.mem_of_mem_take hl)
            · rcases List.mem_singleton.mp hl with rfl
              exact ln_empty _
          · exact sub1 (List.mem_of_mem_drop hl)
      refine gs_if (R := fun _ _ => True) w9 (gk_tv (et_eqI (ev_var rfl)) fun _ _ => True.intro) (fun B10 H10 s10 w10 _ => ?_) (fun B10 H10 s10 w10 _ => ?_)
      · have s710 := s7.trans (s8.trans (s9.trans s10))
        have hc10 := s710.base _ _ hc6
        refine gs_asg w10 ((gk_catE (gk_catE (gk_catE (gk_slB (ev_var rfl) hc10 (ev_var rfl)) (gk_slAB (a := pl + 1) (b := pl + 2) (ev_var rfl) hc10 (hplus rfl) (ev_op (ev_var rfl) ev_c rv_I0) (by omega)) ?_) (gk_slAB (a := pl) (b := pl + 1) (ev_var rfl) hc10 (ev_var rfl) (hplus rfl) (by omega)) ?_) (gk_slA (a := pl + 2) (ev_var rfl) hc10 (ev_op (ev_var rfl) ev_c rv_I0)) ?_).imp ?_) fun v B8 H8 s8 w8 r => finL (s710.trans s8) w8 r
        · rw [List.length_take, List.length_take, List.length_drop]; omega
        · rw [List.length_append, List.length_take, List.length_take, List.length_take, List.length_drop, List.length_drop]; omega
        · rw [List.length_append, List.length_append, List.length_take, List.length_take, List.length_take, List.length_drop, List.length_drop, List.length_drop]; omega
        · rintro v B' _ ⟨c', ys, hv, hc', rfl⟩
          refine ⟨c', _, hv, hc', by rw [List.length_append, List.length_append, List.length_append, List.length_take, List.length_take, List.length_take, List.length_drop, List.length_drop, List.length_drop]; omega, fun l hl => ?_⟩
          rcases List.mem_append.mp hl with hl | hl
          · rcases List.mem_append.mp hl with hl | hl
            · rcases List.mem_append.mp hl with hl | hl
              · exact sub1 (List.mem_of_mem_take hl)
              · exact sub1 (List.mem_of_mem_drop (List.mem_of_mem_take hl))
            · exact sub1 (List.mem_of_mem_drop (List.mem_of_mem_take hl))
          · exact sub1 (List.mem_of_mem_drop hl)
      have wplus : ∀ {σ' : L2.St} {B' : Hp}, σ'[6]? = some (some (.int (at_ : Nat))) → Ev (tOp (rI0 fun i j => .int (i + j)) (tVar 6) (tC (.int 1))) σ' B' (.int ((at_ + 1 : Nat) : Int)) := fun hs => ev_op (ev_var hs) ev_c rv_I0
      refine gs_if (R := fun _ _ => True) w10 (gk_tv (et_eqI (ev_var rfl)) fun _ _ => True.intro) (fun B11 H11 s11 w11 _ => ?_) (fun B11 H11 s11 w11 _ => ?_)
      · have s711 := s7.trans (s8.trans (s9.trans (s10.trans s11)))
        have hd11 := s711.base _ _ hd6
        refine gs_asg w11 ((gk_catE (gk_slB (ev_var rfl) hd11 (ev_var rfl)) (gk_slA (ev_var rfl) hd11 (wplus rfl)) ?_).imp ?_) fun v B8 H8 s8 w8 r => finW (s711.trans s8) w8 r
        · rw [List.length_take, List.length_drop]; omega
        · rintro v B' _ ⟨c', ys, hv, hc', rfl⟩
          refine ⟨c', _, hv, hc', by rw [List.length_append, List.length_take, List.length_drop]; omega, fun l hl => ?_⟩
          rcases List.mem_append.mp hl with hl | hl
          · exact subw (List.mem_of_mem_take hl)
          · exact subw (List.mem_of_mem_drop hl)
      have newW : ∀ {B' : Hp} {E : XK}, Ex B6 B' → GK p (tLst (tCons (fun σ H Q => tCons (tVar 0) (tCons (tVar 5) tNil) σ H fun vs H1 => spWord vs H1 Q E) tNil) [some (.ref p), some (.ref c), some (.int (i : Nat)), some (.int (pl : Nat)), some (.int (ot : Nat)), some (.ref d), some (.int (at_ : Nat)), some (.int way)]) B' (RLP fun ys => ys.length = 1 ∧ ∀ x ∈ ys, FineS (200 + (i + 1)) x) := fun e =>
        gk_lstE (k := 1) (gk_aC (m := 200 + i + 1) (gk_fn (S := fun vs _ => vs = [.ref p, .ref d]) (gk_c1 (ev_var rfl) (gk_c1 (ev_var rfl) (gk_nil fun _ _ => rfl))) fun vs B1 e1 hv => by subst hv; exact sv_word (e1 _ _ (e _ _ hd6)) (by omega) hws (by omega) (by omega)) gk_aN (by omega)) (by decide)
      have insW : ∀ {ta tb tc : TE} {B' : Hp} {k : Nat}, at_ ≤ k → GK p (ta [some (.ref p), some (.ref c), some (.int (i : Nat)), some (.int (pl : Nat)), some (.int (ot : Nat)), some (.ref d), some (.int (at_ : Nat)), some (.int way)]) B' (RLP (· = ws.take at_)) → GK p (tb [some (.ref p), some (.ref c), some (.int (i : Nat)), some (.int (pl : Nat)), some (.int (ot : Nat)), some (.ref d), some (.int (at_ : Nat)), some (.int way)]) B' (RLP fun ys => ys.length = 1 ∧ ∀ x ∈ ys, FineS (200 + (i + 1)) x) →
          GK p (tc [some (.ref p), some (.ref c), some (.int (i : Nat)), some (.int (pl : Nat)), some (.int (ot : Nat)), some (.ref d), some (.int (at_ : Nat)), some (.int way)]) B' (RLP (· = ws.drop k)) → GK p (tOp rCat (tOp rCat ta tb) tc [some (.ref p), some (.ref c), some (.int (i : Nat)), some (.int (pl : Nat)), some (.int (ot : Nat)), some (.ref d), some (.int (at_ : Nat)), some (.int way)]) B' (RLP fun ys => ys.length ≤ 34 + (i + 1) ∧ ∀ x ∈ ys, FineS (200 + (i + 1)) x) := fun {ta tb tc B' k} hk h1 h2 h3 =>
        gk_catP (P1 := fun ys => ys.length ≤ at_ + 1 ∧ ∀ x ∈ ys, FineS (200 + (i + 1)) x) (gk_catP h1 h2 fun xs ys hx hy => by
          subst hx
          refine ⟨by rw [List.length_take]; omega, by rw [List.length_append, List.length_take]; omega, fun x hx => ?_⟩
          rcases List.mem_append.mp hx with hx | hx
          · exact subw (List.mem_of_mem_take hx)
          · exact hy.2 x hx) h3 fun xs ys hx hy => by
            subst hy
            refine ⟨by rw [List.length_drop]; omega, by rw [List.length_append, List.length_drop]; omega, fun x hx' => ?_⟩
            rcases List.mem_append.mp hx' with hx' | hx'
            · exact hx.2 x hx'
            · exact subw (List.mem_of_mem_drop hx')
      refine gs_if (R := fun _ _ => True) w11 (gk_tv (et_eqI (ev_var rfl)) fun _ _ => True.intro) (fun B12 H12 s12 w12 _ => ?_) (fun B12 H12 s12 w12 _ => ?_)
      · have s712 := s7.trans (s8.trans (s9.trans (s10.trans (s11.trans s12))))
        have hd12 := s712.base _ _ hd6
        exact gs_asg w12 (insW (Nat.le_refl _) (gk_slB (ev_var rfl) hd12 (ev_var rfl)) (newW s712.base) (gk_slA (ev_var rfl) hd12 (ev_var rfl))) fun v B8 H8 s8 w8 r => finW (s712.trans s8) w8 r
      · have s712 := s7.trans (s8.trans (s9.trans (s10.trans (s11.trans s12))))
        have hd12 := s712.base _ _ hd6
        exact gs_asg w12 (insW (Nat.le_succ _) (gk_slB (ev_var rfl) hd12 (ev_var rfl)) (newW s712.base) (gk_slA (ev_var rfl) hd12 (wplus rfl))) fun v B8 H8 s8 w8 r => finW (s712.trans s8) w8 r
    · rintro σ' H7 ⟨B7, c7, d7, zs7, ws7, s7, w7, hc7, hd7, hzl7, hz7, hwl7, hw7, rfl⟩
      have fin : ∀ {v B' H'}, Stp [p] B7 H7 B' H' → Wd p B' H' → RLP (fun ys => ys.length ≤ 10 + (i + 1) ∧ ∀ l ∈ ys, LnOk (i + 1) l) v B' → ∃ (B' : Hp) (c : Addr) (zs : List Str) (u2 u3 u4 u5 u6 u7 : Option V), Stp [p] B H B' H' ∧ Wd p B' H' ∧ B' c = some (.lst (zs.map V.str)) ∧ zs.length ≤ 10 + (i + 1) ∧ (∀ l ∈ zs, LnOk (i + 1) l) ∧ [some (.ref p), some v, some (.int (i : Nat)), some (.int (pl : Nat)), some (.int (ot : Nat)), some (.ref d7), some (.int (at_ : Nat)), some (.int way)] = [some (.ref p), some (.ref c), u2, u3, u4, u5, u6, u7] := by
        rintro v B' H' s' w' ⟨c', ys, rfl, hc', hy⟩
        exact ⟨B', c', ys, _, _, _, _, _, _, s1.trans (s7.trans s'), w', hc', hy.1, hy.2, rfl⟩
      refine gs_when (R := fun b _ => b = true → pl < zs7.length) w7 (gk_tv (b := decide (3 < way) && decide (pl < zs7.length)) (et_and (et_test (ev_op (ev_var rfl) ev_c rv_I0)) fun _ => et_test (ev_is (ev_op (ev_var rfl) (ev_len (ev_var rfl) (sq_of hc7)) rv_I0) (congrArg V.bl (decide_eq_decide.mpr (by rw [List.length_map]; omega))))) fun _ _ h => ?_) (fun B8 H8 s8 w8 hlt => ?_) (fun B8 H8 s8 w8 _ => ?_)
      · rw [Bool.and_eq_true] at h
        exact of_decide_eq_true h.2
      · have hlt := hlt rfl
        have hc8 := s8.base _ _ hc7
        have hd8 := s8.base _ _ hd7
        refine gs_asg w8 (gk_catP (P1 := fun ys => ys.length ≤ pl + 1 ∧ ∀ l ∈ ys, LnOk (i + 1) l) (gk_catP (P2 := fun ys => ys.length = 1 ∧ ∀ l ∈ ys, LnOk (i + 1) l) (gk_slB (ev_var rfl) hc8 (ev_var rfl)) ?_ ?_) (gk_slA (a := pl + 1) (ev_var rfl) hc8 (ev_op (ev_var rfl) ev_c rv_I0)) ?_) fun v B9 H9 s9 w9 r => fin (s8.trans s9) w9 r
        · refine gk_lst (S := fun vs _ => ∃ l, vs = [.str l] ∧ LnOk (i + 1) l) (gk_cons (R1 := fun v _ => ∃ l, v = .str l ∧ LnOk (i + 1) l) ((gk_joinP (P := fun ys => ys.length ≤ 34 + (i + 1) ∧ ∀ x ∈ ys, FineS (200 + (i + 1)) x) (gk_var rfl fun B1 e => ⟨d7, ws7, rfl, e _ _ hd8, hwl7, hw7⟩) ?_).imp fun v _ _ ⟨ys, hv, hy⟩ => ⟨_, hv, ln_join hy.1 hy.2⟩) fun v B9 e9 ⟨l, hv, hl⟩ => gk_nil fun _ _ => ⟨l, by rw [hv], hl⟩) fun vs B9 e9 ⟨l, hv, hl⟩ => ?_
          · intro ys hy
            have a := sum_fine hy.2
            have b : ys.length * (200 + (i + 1)) ≤ 37 * 203 := Nat.mul_le_mul (by omega) (by omega)
            have e : (" " : Str).length = 1 := rfl
            rw [e]
            omega
          · subst hv
            exact ⟨by show 1 ≤ 100000; decide, fun B10 a e10 ha => ⟨a, [l], rfl, ha, rfl, fun x hx => by rcases List.mem_singleton.mp hx with rfl; exact hl⟩⟩
        · intro xs ys hx hy
          subst hx
          refine ⟨by rw [List.length_take]; omega, by rw [List.length_append, List.length_take]; omega, fun x hx => ?_⟩
          rcases List.mem_append.mp hx with hx | hx
          · exact hz7 x (List.mem_of_mem_take hx)
          · exact hy.2 x hx
        · intro xs ys hx hy
          subst hy
          refine ⟨by rw [List.length_drop]; omega, by rw [List.length_append, List.length_drop]; omega, fun x hx' => ?_⟩
          rcases List.mem_append.mp hx' with hx' | hx'
          · exact hx.2 x hx'
          · exact hz7 x (List.mem_of_mem_drop hx')
      · exact fin s8 w8 ⟨c7, zs7, rfl, s8.base _ _ hc7, hzl7, hz7⟩
  · rintro n σ H1 ⟨n0, n3⟩ ⟨B1, c, zs, u2, u3, u4, u5, u6, u7, s1, w1, hc, hzl, hzs, rfl⟩
    exact ⟨_, rfl, k c zs B1 H1 s1 w1 hc (by omega) fun l hl => (hzs l hl).mono (by omega)⟩
end
end LL
namespace LL
open PySem PySem.Spec PyProof.Rows L2 He Evl ND
section
variable {w : World} {K : PySem.W.Frag} {mg : Str → Option Value} {base : Heap}
theorem Stp.loc {ms : List Addr} {B H B2 H2 : Hp} {c : Addr} {o : HO} (a : Stp ms B H B2 H2) (h : H c = none) (hb : B2 c = none) : Stp ms B H B2 (upd H2 c o) :=
  ⟨a.base, Ex.mut a.in_ hb, a.nw, fun b u n z => by
    rw [upd_ne (fun y => by rw [y, h] at z; cases z)]
    exact a.fr b u n z, fun b z => by
    by_cases y : b = c
    · rw [y, h] at z; exact absurd rfl z
    · rw [upd_ne y]; exact a.al b z⟩
theorem sum_nn : ∀ {ws : List Int}, (∀ x ∈ ws, 0 ≤ x) → 0 ≤ ws.sum
  | [], _ => Int.le_refl _
  | x :: ws, h => by
    have h1 := h x (.head _)
    have h2 := sum_nn (ws := ws) fun y hy => h y (.tail _ hy)
    rw [List.sum_cons]
    omega
theorem sum_top {m : Int} (hm : 0 ≤ m) {ws : List Int} (h : ∀ x ∈ ws, x ≤ m) (hl : ws.length ≤ 8) : ws.sum ≤ 8 * m := by
  have : ∀ {ws : List Int}, (∀ x ∈ ws, x ≤ m) → ws.sum ≤ (ws.length : Int) * m := by
    intro ws
    induction ws with
    | nil => intro _; simp
    | cons x ws ih =>
      intro h
      have h1 := h x (.head _)
      have h2 := ih fun y hy => h y (.tail _ hy)
      rw [List.sum_cons, List.length_cons, Int.natCast_add, Int.add_mul]
      simp only [Int.natCast_one, Int.one_mul]
      omega
  exact Int.le_trans (this h) (Int.mul_le_mul_of_nonneg_right (by omega) hm)
theorem mem_sum : ∀ {ws : List Int}, (∀ x ∈ ws, 0 ≤ x) → ∀ {x : Int}, x ∈ ws → x ≤ ws.sum
  | x :: ws, h, y, hy => by
    have h2 := sum_nn (ws := ws) fun y hy => h y (.tail _ hy)
    rw [List.sum_cons]
    rcases List.mem_cons.mp hy with rfl | hy
    · omega
    · have := mem_sum (fun z hz => h z (.tail _ hz)) hy
      have := h x (.head _)
      omega
theorem dpa_views {B H : Hp} (e : Ex B H) : ∀ {ws : List V} {ps : List PE}, Paired (fun v (q : PE) => ∃ b, v = .ref b ∧ KeyAt K B b (viewK q.1)) ws ps → DpAll K H ws (ps.map fun q => viewD q.1)
  | [], [], _ => .nil
  | _ :: _, _ :: _, h => by
    cases h with
    | cons h1 h2 =>
      obtain ⟨b, rfl, hk⟩ := h1
      refine .cons ?_ (dpa_views e h2)
      show Dp K H (.ref b) (viewD _)
      rw [← view_data]
      exact (hk.mono e).2.2
theorem Stp.keepIn {ms : List Addr} {B H B2 H2 : Hp} {q : Addr} {o : HO} (a : Stp ms B H B2 H2) (hv : H2 q = some o) (hb : B2 q = none) (hq : H q = none) : Stp ms B H (upd B2 q o) H2 := by
  obtain ⟨k1, k2⟩ := Stp.keep a.in_ hv hb
  refine ⟨a.base.trans k1, k2, fun b h1 h2 => ?_, a.fr, a.al⟩
  rw [upd_ne (fun z => by rw [z] at h2; exact h2 hq)]
  exact a.nw b h1 h2
/-- what the law has drawn so far -/
structure EI (K : PySem.W.Frag) (p Ea Va : Addr) (B HV B' H' : Hp) (ps : List PE) : Prop where
  st : Stp [Va, Ea, p] B HV B' H'
  po : Pool p B' H'
  en : ∃ vs, H' Ea = some (.lst vs) ∧ Paired (DrawnAt B' K) vs ps
  vi : ∃ ws, H' Va = some (.lst ws) ∧ Paired (fun v (q : PE) => ∃ b, v = .ref b ∧ KeyAt K B' b (viewK q.1)) ws ps
  ok : ∀ q ∈ ps, LOk q
  nd : (ps.map (·.1)).Nodup
  aE : HV Ea ≠ none
  aV : HV Va ≠ none
  aP : HV p ≠ none
  bP : B p = none
  nE : Ea ≠ p
  nV : Va ≠ p
  nEV : Ea ≠ Va
  bE : B Ea = none
  bV : B Va = none
section
variable {p Ea Va c : Addr} {B HV B' H' B2 H2 : Hp} {ps : List PE} {o : HO}
theorem EI.bp (h : EI K p Ea Va B HV B' H' ps) : B' p = none := h.st.nw p h.bP h.aP
theorem EI.step (h : EI K p Ea Va B HV B' H' ps) (s : Stp [p] B' H' B2 H2) (P2 : Pool p B2 H2) : EI K p Ea Va B HV B2 H2 ps := by
  obtain ⟨vs, e1, e2⟩ := h.en
  obtain ⟨ws, v1, v2⟩ := h.vi
  exact ⟨h.st.trans (s.wk (by simp)), P2, ⟨vs, s.fr _ _ (by simp [h.nE]) e1, paired_mono e2 fun _ _ z => z.mono s.base⟩, ⟨ws, s.fr _ _ (by simp [h.nV]) v1, paired_mono v2 fun _ _ ⟨b, z1, z2⟩ => ⟨b, z1, z2.mono s.base⟩⟩, h.ok, h.nd, h.aE, h.aV, h.aP, h.bP, h.nE, h.nV, h.nEV, h.bE, h.bV⟩
theorem EI.loc (h : EI K p Ea Va B HV B' H' ps) (hc : HV c = none) (hb : B' c = none) : EI K p Ea Va B HV B' (upd H' c o) ps := by
  obtain ⟨vs, e1, e2⟩ := h.en
  obtain ⟨ws, v1, v2⟩ := h.vi
  have n1 : Ea ≠ c := fun z => h.aE (by rw [z]; exact hc)
  have n2 : Va ≠ c := fun z => h.aV (by rw [z]; exact hc)
  have n3 : p ≠ c := fun z => h.aP (by rw [z]; exact hc)
  exact ⟨h.st.loc hc hb, h.po.p1 (Ne.symm n3), ⟨vs, (upd_ne n1).trans e1, e2⟩, ⟨ws, (upd_ne n2).trans v1, v2⟩, h.ok, h.nd, h.aE, h.aV, h.aP, h.bP, h.nE, h.nV, h.nEV, h.bE, h.bV⟩
theorem EI.fresh (h : EI K p Ea Va B HV B' H' ps) (n : H' c = none) : HV c = none ∧ B' c = none ∧ c ≠ p := by
  refine ⟨?_, ex_none h.st.in_ n, fun z => ?_⟩
  · cases y : HV c with
    | none => rfl
    | some o => exact absurd n (h.st.al c (by rw [y]; exact fun q => nomatch q))
  · obtain ⟨o, ho⟩ := h.po.at
    rw [z, ho] at n; cases n
/-- a list of numbers beside it -/
structure WL (p : Addr) (HV B' H' : Hp) (c : Addr) (ws : List Int) : Prop where
  n : HV c = none
  b : B' c = none
  h : H' c = some (.lst (ws.map V.int))
  np : c ≠ p
theorem WL.step {ws : List Int} (h : WL p HV B' H' c ws) (s : Stp [p] B' H' B2 H2) : WL p HV B2 H2 c ws :=
  ⟨h.n, s.off h.b h.h, s.fr _ _ (by simp [h.np]) h.h, h.np⟩
end
def spEntries (K : PySem.W.Frag) : Sp := fun us H Q _ => ∃ (B : Hp) (p : Addr), us = [.ref p] ∧ Ex B H ∧ B p = none ∧ Pool p B H ∧
  ∀ (ps : List PE) (l : Addr) (vs : List V) (B2 H2 : Hp), (∀ p ∈ ps, LOk p) → (ps.map (·.1)).Nodup → ps.length ≤ 9 → Stp [p] B H B2 H2 → Pool p B2 H2 → B2 l = some (.lst vs) → Paired (DrawnAt B2 K) vs ps → Q (.ref l) H2
theorem fn_l_entries (T : Txt K mg) : Fn P w K mg base 3 (ga K "_law_entries") (spEntries K) := by
  refine fn_def T.d_l_entries sc_l_entries (fun _ _ _ _ _ _ us hl => match us, hl with | [_], _ => rfl) (fun vs H Q E h => ?_) (fun cdv A outer s H vs Q E hr h => ?_)
  · obtain ⟨_, _, rfl, _⟩ := h
    rfl
  obtain ⟨B, p, rfl, eb, hb, hP, k⟩ := h
  have nd := sc_l_entries.nd
  refine ⟨_, pss_cons (ps_set (i := 1) nd rfl (by first | exact Or.inl rfl | exact Or.inr rfl) (pe_lst pa_nil))
      (pss_cons (ps_set (i := 2) nd rfl (by first | exact Or.inl rfl | exact Or.inr rfl) (pe_lst pa_nil))
      (pss_cons (ps_for (passes_of rfl) rfl (pi_range1 rfl T.f_range (pa_cons (pe_fn T.d_l_draw (fn_l_draw T) (hr.mono (by decide)) T.g_l_draw pc (pa_cons (pv 0) (pa_cons (pe_ix ix_tup (pe_tup (pa_cons (pe_int) (pa_cons (pe_int) (pa_cons (pe_int) pa_nil)))) (pe_fn T.d_l_draw (fn_l_draw T) (hr.mono (by decide)) T.g_l_draw pc (pa_cons (pv 0) (pa_cons (pe_int) pa_nil))) (fun _ _ => rfl)) pa_nil))) pa_nil)) (pg_name (i := 3) nd rfl (by first | exact Or.inl rfl | exact Or.inr rfl)) (Evl.pss_cut (ps_set (i := 5) nd rfl (by first | exact Or.inl rfl | exact Or.inr rfl) (pe_callTy call_tuple_of (by rfl) T.f_tuple (by decide +kernel) (pa_cons (pe_lc (own := [("_law_turn", 4)]) (g := gName 4) (tt := tYes) rfl nd (pi_range1 rfl T.f_range (pa_cons (pe_fn T.d_l_draw (fn_l_draw T) (hr.mono (by decide)) T.g_l_draw pc (pa_cons (pv 0) (pa_cons (pe_ix ix_tup (pe_tup (pa_cons (pe_int) (pa_cons (pe_int) (pa_cons (pe_int) pa_nil)))) (pe_fn T.d_l_draw (fn_l_draw T) (hr.mono (by decide)) T.g_l_draw pc (pa_cons (pv 0) (pa_cons (pe_int) pa_nil))) (fun _ _ => rfl)) pa_nil))) pa_nil)) (blkOk_by (N := n_l_entries) (sc := defScope s_l_entries) (by decide +kernel)) (fun _ _ _ _ _ => pg_name (i := 4) nd rfl (by first | exact Or.inl rfl | exact Or.inr rfl)) (fun _ _ _ _ _ => pts_nil) (fun _ _ _ _ _ => pe_fn T.d_l_event (fn_l_event T) (hr.mono (by decide)) T.g_l_event pcN (pa_cons (pv 0) pa_nil))) pa_nil)))
      (Evl.pss_cut (ps_set (i := 6) nd rfl (by first | exact Or.inl rfl | exact Or.inr rfl) (pe_lc (own := [("_law_turn", 4)]) (g := gName 4) (tt := tYes) rfl nd (pi_range1 rfl T.f_range (pa_cons (pe_op op_add (pe_int) (pe_fn T.d_l_draw (fn_l_draw T) (hr.mono (by decide)) T.g_l_draw pc (pa_cons (pv 0) (pa_cons (pe_ix ix_tup (pe_tup (pa_cons (pe_int) (pa_cons (pe_int) pa_nil))) (pe_fn T.d_l_draw (fn_l_draw T) (hr.mono (by decide)) T.g_l_draw pc (pa_cons (pv 0) (pa_cons (pe_int) pa_nil))) (fun _ _ => rfl)) pa_nil)))) pa_nil)) (blkOk_by (N := n_l_entries) (sc := defScope s_l_entries) (by decide +kernel)) (fun _ _ _ _ _ => pg_name (i := 4) nd rfl (by first | exact Or.inl rfl | exact Or.inr rfl)) (fun _ _ _ _ _ => pts_nil) (fun _ _ _ _ _ => pe_fn T.d_l_draw (fn_l_draw T) (hr.mono (by decide)) T.g_l_draw pcN (pa_cons (pv 0) (pa_cons (pe_int) pa_nil)))))
      (Evl.pss_cut (ps_if (pt_cmpR op_eq (pe_fn T.d_l_draw (fn_l_draw T) (hr.mono (by decide)) T.g_l_draw pc (pa_cons (pv 0) (pa_cons (pe_int) pa_nil))) (pe_int) (nomark _)) (pss_cons (ps_set (i := 7) nd rfl (by first | exact Or.inl rfl | exact Or.inr rfl) (pe_ix ix_tup (pe_tup (pa_cons (pe_op op_pow (pe_int) (pe_int)) (pa_cons (pe_op op_pow (pe_int) (pe_int)) pa_nil))) (pe_fn T.d_l_draw (fn_l_draw T) (hr.mono (by decide)) T.g_l_draw pc (pa_cons (pv 0) (pa_cons (pe_int) pa_nil))) (fun _ _ => rfl)))
      (pss_one (ps_set (i := 6) nd rfl (by first | exact Or.inl rfl | exact Or.inr rfl) (pe_lc (own := [("_law_weight", 8)]) (g := gName 8) (tt := tYes) rfl nd (pi_list (pv 6)) (blkOk_by (N := n_l_entries) (sc := defScope s_l_entries) (by decide +kernel)) (fun _ _ _ _ _ => pg_name (i := 8) nd rfl (by first | exact Or.inl rfl | exact Or.inr rfl)) (fun _ _ _ _ _ => pts_nil) (fun _ _ _ _ _ => pe_op op_add (pe_op op_mul (pv 7) (pe_callTy call_int1 (by rfl) T.f_int (by decide +kernel) (pa_cons (pe_cmpR op_gt (pv 8) (pe_int) (nomark _)) pa_nil))) (pe_fn T.d_l_draw (fn_l_draw T) (hr.mono (by decide)) T.g_l_draw pcN (pa_cons (pv 0) (pa_cons (pe_op op_pow (pe_int) (pe_int)) pa_nil)))))))) (pss_nil))
      (Evl.pss_cut (ps_asg (pe_op op_add (pe_ix ix_list (pv 6) (pe_int) (fun _ _ => rfl)) (pe_callTy call_int1 (by rfl) T.f_int (by decide +kernel) (pa_cons (pe_cmpR op_eq (pe_callB (cr_sum rfl) (by rfl) T.f_sum (by decide +kernel) (pa_cons (pv 6) pa_nil)) (pe_int) (nomark _)) pa_nil))) (pg_sub (pv 6) (pe_int) set_list))
      (pss_one (ps_if (pt_cmpR (op_notInD (units65 (hr.mono (by decide)))) (pv 5) (pv 2) rfl) (pss_cons (ps_expr (pe_bm PySem.F.plainAttrs_list PySem.F.slot_list_append PySem.F.type_list_append mt_append (pv 2) (pa_cons (pv 5) pa_nil)))
      (pss_one (ps_expr (pe_bm PySem.F.plainAttrs_list PySem.F.slot_list_append PySem.F.type_list_append mt_append (pv 1) (pa_cons (pe_tup (pa_cons (pv 5) (pa_cons (pe_lc (own := [("_law_weight", 8)]) (g := gName 8) (tt := tYes) rfl nd (pi_list (pv 6)) (blkOk_by (N := n_l_entries) (sc := defScope s_l_entries) (by decide +kernel)) (fun _ _ _ _ _ => pg_name (i := 8) nd rfl (by first | exact Or.inl rfl | exact Or.inr rfl)) (fun _ _ _ _ _ => pts_nil) (fun _ _ _ _ _ => pe_fn T.d_l_less (fn_l_less T) (hr.mono (by decide)) T.g_l_less pcN (pa_cons (pv 8) (pa_cons (pe_callB (crk_sum K rfl) (by rfl) T.f_sum (by decide +kernel) (pa_cons (pv 6) pa_nil)) pa_nil)))) pa_nil))) pa_nil))))) (pss_nil))))))))
      (pss_one (ps_ret (pv 1))))), ?_⟩
  have hbig : (100000 : Nat) ≤ sizeLine := by decide
  refine ⟨by show 0 ≤ sizeLine; omega, fun Ea nE => ⟨by show 0 ≤ sizeLine; omega, fun Va nV => ?_⟩⟩
  have nVH : H Va = none := by
    by_cases z : Va = Ea
    · rw [z, upd_same] at nV; cases nV
    · rw [upd_ne z] at nV; exact nV
  have nVE : Va ≠ Ea := fun z => by rw [z, upd_same] at nV; cases nV
  obtain ⟨HV, hHV⟩ : ∃ HV, HV = upd (upd H Ea (.lst [])) Va (.lst []) := ⟨_, rfl⟩
  rw [← hHV]
  have hE : HV Ea = some (.lst []) := by rw [hHV]; exact (upd_ne (Ne.symm nVE)).trans upd_same
  have hV : HV Va = some (.lst []) := by rw [hHV]; exact upd_same
  have pE : Pool p B (upd H Ea (.lst [])) := hP.n1 nE
  have pV : Pool p B HV := by rw [hHV]; exact pE.n1 nV
  have eE : Ex B (upd H Ea (.lst [])) := Ex.mut eb (ex_none eb nE)
  have eV : Ex B HV := by rw [hHV]; exact Ex.mut eE (ex_none eE nV)
  refine draw3 (m := 10) rfl eV hb pV (by decide) (by decide) (by decide) (by decide) fun r H3 r0 r1 s3 P3 => ⟨r, rfl, by omega, by omega, for_range (lo := 0) (n := r.toNat) (fun i σ H' => ∃ (B' : Hp) (ps : List PE) (u3 u4 u5 u6 u7 u8 : Option V), EI K p Ea Va B HV B' H' ps ∧ ps.length ≤ i ∧ σ = [some (.ref p), some (.ref Ea), some (.ref Va), u3, u4, u5, u6, u7, u8]) ?_ ?_ ?_⟩
  · have nEp : Ea ≠ p := hP.ne nE
    have nVp : Va ≠ p := hP.ne nVH
    obtain ⟨o, ho⟩ := pV.at
    exact ⟨B, [], _, _, _, _, _, _, ⟨s3.wk (by simp), P3, ⟨[], s3.fr _ _ (by simp [nEp]) hE, .nil⟩, ⟨[], s3.fr _ _ (by simp [nVp]) hV, .nil⟩, (fun _ h => nomatch h), .nil, (by rw [hE]; exact fun q => nomatch q), (by rw [hV]; exact fun q => nomatch q), (by rw [ho]; exact fun q => nomatch q), hb, nEp, nVp, Ne.symm nVE, ex_none eb nE, ex_none eb nVH⟩, Nat.le_refl _, rfl⟩
  · rintro i σ H' hi ⟨B', ps, u3, u4, u5, u6, u7, u8, ei, hl, rfl⟩
    refine ⟨fun σ H' => ∃ (B' : Hp) (v : List Evt) (b : Addr) (u3 u4 u6 u7 u8 : Option V), EI K p Ea Va B HV B' H' ps ∧ KeyAt K B' b (viewK v) ∧ v.length ≤ 8 ∧ (∀ e ∈ v, EvOk e) ∧ σ = [some (.ref p), some (.ref Ea), some (.ref Va), u3, u4, some (.ref b), u6, u7, u8], ?_, ?_⟩
    · refine draw3 (m := 9) rfl ei.st.in_ ei.bp ei.po (by decide) (by decide) (by decide) (by decide) fun r H4 r0 r1 s4 P4 => ⟨r, rfl, by omega, by omega, fun D nD => ?_⟩
      have ei4 := ei.step s4 P4
      obtain ⟨d1, d2, d3⟩ := ei4.fresh nD
      refine lc_range (te := fun σ H Q => tCons (tVar 0) tNil σ H fun vs H1 => spEvent K vs H1 Q (fun _ _ _ => False)) (lo := 0) (n := r.toNat) (fun j H5 => ∃ (B5 : Hp) (vs : List V) (v : List Evt), EI K p Ea Va B HV B5 H5 ps ∧ B5 D = none ∧ H5 D = some (.lst vs) ∧ Paired (EvAt K B5) vs v ∧ v.length = j ∧ ∀ e ∈ v, EvOk e) ⟨B', [], [], ei4.loc d1 d2, d2, upd_same, .nil, rfl, fun _ h => nomatch h⟩ ?_ ?_
      · rintro j H5 hj ⟨B5, vs, v, ei5, hb5, hD, hp, hl5, hok⟩
        refine ⟨rfl, yes_if ?_⟩
        refine ⟨_, rfl, B5, p, rfl, ei5.st.in_, ei5.bp, ei5.po, fun e b B6 H6 hek s6 P6 hb6 => ⟨vs, s6.fr _ _ (by simp [d3]) hD, ?_, B6, vs ++ [.ref b], v ++ [e], ?_, ?_, upd_same, ?_, ?_, ?_⟩⟩
        · have := Paired.length hp
          omega
        · exact (ei5.step s6 P6).loc d1 (s6.off hb5 hD)
        · exact s6.off hb5 hD
        · exact paired_snoc (paired_mono hp fun _ _ z => z.mono s6.base) ⟨b, rfl, st_of hb6⟩
        · rw [List.length_append, hl5]; rfl
        · intro q hq
          rcases List.mem_append.mp hq with hq | hq
          · exact hok q hq
          · rcases List.mem_singleton.mp hq with rfl
            exact hek
      · rintro H5 ⟨B5, vs, v, ei5, hb5, hD, hp, hl5, hok⟩
        refine ⟨D, vs, rfl, .inl ⟨sq_of hD, fun b nb => ?_⟩⟩
        exact ⟨upd B5 b (.tup vs), v, b, _, _, _, _, _, ei5.step (Stp.new ei5.st.in_ nb) (ei5.po.n2 ei5.st.in_ nb), view_key (st_of upd_same) (paired_mono hp fun _ _ z => z.mono (Ex.new (ex_none ei5.st.in_ nb))), by omega, hok, rfl⟩
    · rintro σ H1 ⟨B1, v, b, _, _, _, _, _, ei1, hkey, hv8, hvok, rfl⟩
      refine ⟨fun σ H' => ∃ (B' : Hp) (W : Addr) (ws : List Int) (u3 u4 u7 u8 : Option V), EI K p Ea Va B HV B' H' ps ∧ KeyAt K B' b (viewK v) ∧ WL p HV B' H' W ws ∧ 1 ≤ ws.length ∧ ws.length ≤ 8 ∧ (∀ x ∈ ws, 0 ≤ x ∧ x < 4) ∧ σ = [some (.ref p), some (.ref Ea), some (.ref Va), u3, u4, some (.ref b), some (.ref W), u7, u8], ?_, ?_⟩
      · refine draw2 (m := 8) rfl ei1.st.in_ ei1.bp ei1.po (by decide) (by decide) (by decide) fun r H4 r0 r1 s4 P4 => ⟨1, r, rfl, rfl, 1 + r, rfl, by omega, by omega, fun D nD => ?_⟩
        have ei4 := ei1.step s4 P4
        obtain ⟨d1, d2, d3⟩ := ei4.fresh nD
        refine lc_range (te := fun σ H Q => tCons (tVar 0) (tCons (tC (.int 4)) tNil) σ H fun vs H1 => spDraw vs H1 Q (fun _ _ _ => False)) (lo := 0) (n := (1 + r).toNat) (fun j H5 => ∃ (ws : List Int), EI K p Ea Va B HV B1 H5 ps ∧ WL p HV B1 H5 D ws ∧ ws.length = j ∧ ∀ x ∈ ws, 0 ≤ x ∧ x < 4) ⟨[], ei4.loc d1 d2, ⟨d1, d2, upd_same, d3⟩, rfl, fun _ h => nomatch h⟩ ?_ ?_
        · rintro j H5 hj ⟨ws, ei5, wl, hl5, hok⟩
          refine ⟨rfl, yes_if ?_⟩
          refine ⟨_, rfl, ?_⟩
          dsimp only [tCons, tNil, tC]
          refine draw_s (n := 4) ei5.st.in_ ei5.bp ei5.po (by decide) (by decide) fun r5 H6 g0 g1 s6 P6 b6 => ?_
          have wl6 := wl.step s6
          refine ⟨_, wl6.h, by rw [List.length_map]; omega, ws ++ [r5], (ei5.step s6 P6).loc d1 d2, ⟨d1, d2, by rw [upd_same, List.map_append]; rfl, d3⟩, by rw [List.length_append, hl5]; rfl, fun x hx => ?_⟩
          rcases List.mem_append.mp hx with hx | hx
          · exact hok x hx
          · rcases List.mem_singleton.mp hx with rfl
            exact ⟨g0, g1⟩
        · rintro H5 ⟨ws, ei5, wl, hl5, hok⟩
          exact ⟨B1, D, ws, _, _, _, _, ei5, hkey, wl, by omega, by omega, hok, rfl⟩
      · rintro σ H2 ⟨B2, W, ws, _, _, _, _, ei2, hkey2, wl2, hw1, hw8, hwb, rfl⟩
        refine ⟨fun σ H' => ∃ (B' : Hp) (W : Addr) (ws : List Int) (u3 u4 u7 u8 : Option V), EI K p Ea Va B HV B' H' ps ∧ KeyAt K B' b (viewK v) ∧ WL p HV B' H' W ws ∧ 1 ≤ ws.length ∧ ws.length ≤ 8 ∧ (∀ x ∈ ws, 0 ≤ x ∧ x < 10 ^ 58 + 10 ^ 6) ∧ σ = [some (.ref p), some (.ref Ea), some (.ref Va), u3, u4, some (.ref b), some (.ref W), u7, u8], ?_, ?_⟩
        · refine ⟨_, rfl, ?_⟩
          dsimp only [tCons, tNil, tC]
          refine draw_s (n := 3) ei2.st.in_ ei2.bp ei2.po (by decide) (by decide) fun r H3 g0 g1 s3 P3 _ => ?_
          have ei3 := ei2.step s3 P3
          have wl3 := wl2.step s3
          refine ⟨rfl, _, rfl, ite2 (fun c => ?_) (fun c => ?_)⟩
          · refine ⟨10, 6, rfl, rfl, by unfold CPow; decide, 10, 58, rfl, rfl, by unfold CPow; decide, by show 2 ≤ sizeLine; omega, fun t nt => ?_⟩
            refine ⟨_, rfl, ?_⟩
            dsimp only [tCons, tNil, tC]
            have sT := Stp.cell (ms := [p]) (o := .tup [.int (10 ^ (6 : Int).toNat), .int (10 ^ (58 : Int).toNat)]) ei3.st.in_ nt
            have eiT := ei3.step sT (ei3.po.n1 nt)
            have wlT := wl3.step sT
            refine draw_s (n := 2) eiT.st.in_ eiT.bp eiT.po (by decide) (by decide) fun r4 H4 f0 f1 s4 P4 b4 => ?_
            have ei4 := eiT.step s4 P4
            have wl4 := wlT.step s4
            have ht4 : H4 t = some (.tup [.int (10 ^ (6 : Int).toNat), .int (10 ^ (58 : Int).toNat)]) := (b4 t (ei3.po.ne nt)).trans upd_same
            obtain ⟨y, hy, hyy⟩ := at2 (a := V.int (10 ^ (6 : Int).toNat)) (b := V.int (10 ^ (58 : Int).toNat)) f0 f1
            obtain ⟨n, rfl, n0, n1⟩ : ∃ n : Int, y = .int n ∧ 0 ≤ n ∧ n ≤ 10 ^ 58 := by
              rcases hyy with rfl | rfl
              · exact ⟨_, rfl, by decide +kernel, by decide +kernel⟩
              · exact ⟨_, rfl, by decide +kernel, by decide +kernel⟩
            refine ⟨t, _, r4, _, rfl, rfl, st_of ht4, hy, ?_⟩
            refine ⟨_, rfl, W, rfl, ⟨_, sq_of wl4.h⟩, fun D nD => ?_⟩
            obtain ⟨d1, d2, d3⟩ := ei4.fresh nD
            refine lc_it (n := (ws.map V.int).length) (walk_list (K := K) (a := W) (xs := ws.map V.int)) (fun j H5 => ∃ (zs : List Int), EI K p Ea Va B HV B2 H5 ps ∧ WL p HV B2 H5 W ws ∧ WL p HV B2 H5 D zs ∧ zs.length = j ∧ (∀ x ∈ zs, 0 ≤ x ∧ x < 10 ^ 58 + 10 ^ 6)) ⟨[], ei4.loc d1 d2, ⟨wl4.n, wl4.b, ?_, wl4.np⟩, ⟨d1, d2, upd_same, d3⟩, rfl, fun _ h => nomatch h⟩ ?_ ?_ ?_
            · exact (upd_ne (fun z => by rw [← z, wl4.h] at nD; cases nD)).trans wl4.h
            · rintro j H5 _ ⟨zs, _, wl5, _⟩
              exact sq_of wl5.h
            · rintro j y H5' H5 hj ⟨zs, ei5, wl5, wd5, hl5, hzb⟩ ⟨rfl, hy5⟩
              rw [List.length_map] at hj
              rw [List.getElem?_map] at hy5
              obtain ⟨x, hx, rfl⟩ := Option.map_eq_some_iff.mp hy5
              refine ⟨rfl, yes_if ?_⟩
              refine ⟨_, rfl, _, rfl, x, 0, rfl, rfl, .inr ⟨_, rfl, n, _, rfl, rfl, .inr ?_, _, rfl, 10, 6, rfl, rfl, by unfold CPow; decide, ?_⟩⟩
              · split <;> decide
              · dsimp only [tCons, tNil, tC]
                refine draw_s (n := 10 ^ (6 : Int).toNat) ei5.st.in_ ei5.bp ei5.po (by decide +kernel) (by decide +kernel) fun r6 H6 g0 g1 s6 P6 b6 => ?_
                have wd6 := wd5.step s6
                have wl6 := wl5.step s6
                have hWD : W ≠ D := fun z => by
                  have h1 := wl4.h
                  rw [z, nD] at h1; cases h1
                have g1 : r6 < 10 ^ 6 := g1
                have hlen5 : zs.length < sizeLine := by omega
                refine ⟨_, _, rfl, rfl, _, wd6.h, by rw [List.length_map]; exact hlen5, zs ++ [n * (if decide (0 < x) = true then 1 else 0) + r6], (ei5.step s6 P6).loc d1 wd6.b, ⟨wl6.n, wl6.b, (upd_ne hWD).trans wl6.h, wl6.np⟩, ⟨d1, wd6.b, by rw [upd_same, List.map_append]; rfl, d3⟩, by rw [List.length_append, hl5]; rfl, fun q hq => ?_⟩
                rcases List.mem_append.mp hq with hq | hq
                · exact hzb q hq
                · rcases List.mem_singleton.mp hq with rfl
                  by_cases z : 0 < x
                  · rw [decide_eq_true z, if_pos rfl, Int.mul_one]
                    constructor
                    · omega
                    · exact Int.add_lt_add_of_le_of_lt n1 g1
                  · rw [decide_eq_false z, if_neg (by decide), Int.mul_zero, Int.zero_add]
                    exact ⟨g0, Int.lt_trans g1 (by decide +kernel)⟩
            · rintro H5 ⟨zs, ei5, wl5, wd5, hl5, hzb⟩
              rw [List.length_map] at hl5
              exact ⟨B2, D, zs, _, _, _, _, ei5, hkey2, wd5, by omega, by omega, hzb, rfl⟩
          · exact ⟨B2, W, ws, _, _, _, _, ei3, hkey2, wl3, hw1, hw8, fun x hx => ⟨(hwb x hx).1, Int.lt_trans (hwb x hx).2 (by decide +kernel)⟩, rfl⟩
        · rintro σ H3 ⟨B3, W, ws, _, _, _, _, ei3, hkey3, wl3, hw1, hw8, hwb, rfl⟩
          refine ⟨fun σ H' => ∃ (B' : Hp) (W : Addr) (ws : List Int) (u3 u4 u7 u8 : Option V), EI K p Ea Va B HV B' H' ps ∧ KeyAt K B' b (viewK v) ∧ WL p HV B' H' W ws ∧ 1 ≤ ws.length ∧ ws.length ≤ 8 ∧ (∀ x ∈ ws, 0 ≤ x ∧ x < 10 ^ 58 + 10 ^ 6 + 1) ∧ 0 < ws.sum ∧ σ = [some (.ref p), some (.ref Ea), some (.ref Va), u3, u4, some (.ref b), some (.ref W), u7, u8], ?_, ?_⟩
          · cases ws with
            | nil => exact absurd hw1 (by decide)
            | cons x0 rest =>
              refine ⟨_, rfl, W, _, ((0 : Nat) : Int), .int x0, rfl, rfl, sq_of wl3.h, atI_nat (j := 0) rfl, _, rfl, W, x0 :: rest, rfl, sq_of wl3.h, rfl, .inr ⟨_, rfl, _, _, rfl, rfl, _, rfl, W, _, ((0 : Nat) : Int), 0, rfl, rfl, wl3.h, ixN_nat (by rw [List.length_map, List.length_cons]; omega), ?_⟩⟩
              have ei4 := ei3.loc (o := .lst ((((x0 :: rest).map V.int)).set 0 (.int (x0 + if decide (V.int (x0 :: rest).sum = V.int 0) = true then 1 else 0)))) wl3.n wl3.b
              have h0 := hwb x0 (.head _)
              have hs0 : 0 ≤ rest.sum := sum_nn fun x hx => (hwb x (.tail _ hx)).1
              refine ⟨B3, W, (x0 + if decide (V.int (x0 :: rest).sum = V.int 0) = true then 1 else 0) :: rest, _, _, _, _, ei4, hkey3, ⟨wl3.n, wl3.b, upd_same, wl3.np⟩, by rw [List.length_cons]; omega, hw8, fun x hx => ?_, ?_, rfl⟩
              · rcases List.mem_cons.mp hx with rfl | hx
                · split
                  · omega
                  · omega
                · have := hwb x (.tail _ hx)
                  omega
              · rw [List.sum_cons]
                by_cases z : (x0 :: rest).sum = 0
                · rw [z, decide_eq_true rfl, if_pos rfl]
                  omega
                · rw [decide_eq_false (fun y => z (V.int.inj y)), if_neg (by decide)]
                  rw [List.sum_cons] at z
                  omega
          · rintro σ H4 ⟨B4, W, ws, _, _, _, _, ei4, hkey4, wl4, hw1, hw8, hwb, hsum, rfl⟩
            obtain ⟨vs, hEa, hvs⟩ := ei4.en
            obtain ⟨wv, hVa, hwv⟩ := ei4.vi
            have hbE : B4 Ea = none := ei4.st.nw Ea ei4.bE ei4.aE
            have hbV : B4 Va = none := ei4.st.nw Va ei4.bV ei4.aV
            have hd1 : Dp K H4 (.ref b) (viewD v) := by rw [← view_data]; exact (hkey4.mono ei4.st.in_).2.2
            have hd2 : Dp K H4 (.ref Va) (.list (ps.map fun q => viewD q.1)) := Dp.lst (sq_of hVa) (dpa_views (ei4.st.in_) hwv)
            have hsh := list_shaped (k := 2) (ds := ps.map fun q => viewD q.1) (fun d hd => by
              obtain ⟨q, hq, rfl⟩ := List.mem_map.mp hd
              exact view_lay (ei4.ok q hq).ev) (by decide)
            have hsv := view_lay hvok
            refine ⟨_, rfl, _, rfl, viewD v, ps.map (fun q : PE => viewD q.1), hd1, hd2, shaped_of ⟨hsv.1, by omega⟩, hsh, _, rfl, ?_⟩
            rw [in_views]
            have hvl : vs.length = ps.length := Paired.length hvs
            have hwl : wv.length = ps.length := Paired.length hwv
            refine ite2 (fun c => ?_) (fun c => ⟨B4, ps, _, _, _, _, _, _, ei4, by omega, rfl⟩)
            have hnew : v ∉ ps.map (·.1) := by simpa using c
            have hWE : W ≠ Ea := fun z => ei4.aE (by rw [← z]; exact wl4.n)
            have hWV : W ≠ Va := fun z => ei4.aV (by rw [← z]; exact wl4.n)
            refine ⟨_, rfl, .inl ⟨rfl, _, sq_of hVa⟩, _, rfl, Va, wv, .ref b, rfl, rfl, hVa, by omega, ?_⟩
            have st5 := ei4.st.trans (Stp.put (ms := [Va, Ea, p]) (o := .lst (wv ++ [.ref b])) ei4.st.in_ hbV (.head _))
            have po5 : Pool p B4 (upd H4 Va (.lst (wv ++ [.ref b]))) := ei4.po.p1 ei4.nV
            have hE5 : (upd H4 Va (.lst (wv ++ [.ref b]))) Ea = some (.lst vs) := (upd_ne ei4.nEV).trans hEa
            have hW5 : (upd H4 Va (.lst (wv ++ [.ref b]))) W = some (.lst (ws.map V.int)) := (upd_ne hWV).trans wl4.h
            refine ⟨_, rfl, .inl ⟨rfl, _, sq_of hE5⟩, _, rfl, _, rfl, W, rfl, ⟨_, sq_of hW5⟩, fun D nD => ?_⟩
            have hdV : HV D = none := by
              cases y : HV D with
              | none => rfl
              | some o => exact absurd nD (st5.al D (by rw [y]; exact fun q => nomatch q))
            have hbD : B4 D = none := ex_none st5.in_ nD
            have hDE : Ea ≠ D := fun z => by rw [← z, hE5] at nD; cases nD
            have hDV : Va ≠ D := fun z => by rw [← z, upd_same] at nD; cases nD
            have hDW : W ≠ D := fun z => by rw [← z, hW5] at nD; cases nD
            have hDp : p ≠ D := fun z => by
              obtain ⟨o, ho⟩ := po5.at
              rw [← z, ho] at nD; cases nD
            have hS : ws.sum < 10 ^ 60 := Int.lt_of_le_of_lt (sum_top (m := 10 ^ 58 + 10 ^ 6 + 1) (by decide +kernel) (fun x hx => by have := (hwb x hx).2; omega) hw8) (by decide +kernel)
            refine lc_it (te := fun σ H Q => tCons (tVar 8) (tCons (tCB (rSum K) (tCons (tVar 6) tNil)) tNil) σ H fun vs H1 => spLow K vs H1 Q (fun _ _ _ => False)) (n := (ws.map V.int).length) (walk_list (K := K) (a := W) (xs := ws.map V.int))
              (fun j H6 => ∃ (B6 : Hp) (ls : List V), Stp [Va, Ea, p] B HV B6 H6 ∧ Ex B4 B6 ∧ Pool p B6 H6 ∧ H6 Ea = some (.lst vs) ∧ H6 Va = some (.lst (wv ++ [.ref b])) ∧ H6 W = some (.lst (ws.map V.int)) ∧ B6 D = none ∧ H6 D = some (.lst ls) ∧ Paired (fun x (q : Rat) => PairAt B6 x q.num q.den) ls ((ws.map fun w => mkRat w ws.sum.toNat).take j))
              ⟨B4, [], st5.loc hdV hbD, Ex.refl _, po5.p1 (Ne.symm hDp), (upd_ne hDE).trans hE5, (upd_ne hDV).trans upd_same, (upd_ne hDW).trans hW5, hbD, upd_same, .nil⟩ ?_ ?_ ?_
            · rintro j H6 _ ⟨B6, ls, _, _, _, _, _, hW6, _⟩
              exact sq_of hW6
            · rintro j y H6' H6 hj ⟨B6, ls, st6, e46, po6, hE6, hV6, hW6, hbD6, hD6, hls⟩ ⟨rfl, hy⟩
              rw [List.length_map] at hj
              rw [List.getElem?_map] at hy
              obtain ⟨x, hx, rfl⟩ := Option.map_eq_some_iff.mp hy
              refine ⟨rfl, yes_if ?_⟩
              refine ⟨_, rfl, _, rfl, W, ws, rfl, sq_of hW6, x, ws.sum, rfl, hsum, ?_, fun a na => ?_⟩
              · have h1 : ws.sum.natAbs < 10 ^ 60 := by omega
                exact Nat.lt_trans h1 (by decide +kernel)
              · have naD : D ≠ a := fun z => by rw [← z, hD6] at na; cases na
                have hlen : ls.length ≤ 8 := by rw [Paired.length hls, List.length_take, List.length_map]; omega
                have ba : B6 a = none := ex_none st6.in_ na
                have st7 := st6.trans (Stp.new (ms := [Va, Ea, p]) (o := .tup [.int (mkRat x ws.sum.toNat).num, .int ((mkRat x ws.sum.toNat).den : Int)]) st6.in_ na)
                have hbD7 : (upd B6 a (.tup [.int (mkRat x ws.sum.toNat).num, .int ((mkRat x ws.sum.toNat).den : Int)])) D = none := (upd_ne naD).trans hbD6
                have xa := Ex.new (o := .tup [.int (mkRat x ws.sum.toNat).num, .int ((mkRat x ws.sum.toNat).den : Int)]) na
                refine ⟨ls, xa _ _ hD6, by omega, _, ls ++ [.ref a], st7.loc hdV hbD7, e46.trans (Ex.new ba), (po6.n2 st6.in_ na).p1 (Ne.symm hDp), (upd_ne hDE).trans (xa _ _ hE6), (upd_ne hDV).trans (xa _ _ hV6), (upd_ne hDW).trans (xa _ _ hW6), hbD7, upd_same, ?_⟩
                rw [List.take_add_one, List.getElem?_map, hx]
                exact paired_snoc (paired_mono hls fun _ _ z => z.mono (Ex.new ba)) ⟨a, rfl, upd_same⟩
            · rintro H6 ⟨B6, ls, st6, e46, po6, hE6, hV6, hW6, hbD6, hD6, hls⟩
              rw [List.length_map, List.take_of_length_le (by rw [List.length_map]; omega)] at hls
              refine ⟨by show 2 ≤ sizeLine; omega, fun t nt => ?_⟩
              have xt := Ex.new (o := .tup [.ref b, .ref D]) nt
              have st7 := st6.keepIn hD6 hbD6 hdV
              have st8 := st7.trans (Stp.new (ms := [Va, Ea, p]) (o := .tup [.ref b, .ref D]) st7.in_ nt)
              have bt7 : (upd B6 D (.lst ls)) t = none := ex_none st7.in_ nt
              have e48 : Ex B4 (upd (upd B6 D (.lst ls)) t (.tup [.ref b, .ref D])) := e46.trans ((Ex.new hbD6).trans (Ex.new bt7))
              have hbE8 := st8.nw Ea ei4.bE ei4.aE
              have st9 := st8.trans (Stp.put (ms := [Va, Ea, p]) (o := .lst (vs ++ [.ref t])) st8.in_ hbE8 (by simp))
              refine ⟨Ea, vs, .ref t, rfl, rfl, xt _ _ hE6, by omega, _, ps ++ [(v, ws.map fun w => mkRat w ws.sum.toNat)], _, _, _, _, _, _, ⟨st9, ?_, ⟨vs ++ [.ref t], upd_same, ?_⟩, ⟨wv ++ [.ref b], (upd_ne (Ne.symm ei4.nEV)).trans (xt _ _ hV6), ?_⟩, ?_, ?_, ei4.aE, ei4.aV, ei4.aP, ei4.bP, ei4.nE, ei4.nV, ei4.nEV, ei4.bE, ei4.bV⟩, ?_, rfl⟩
              · exact (Pool.n2 (po6.of (Ex.new hbD6) rfl) st7.in_ nt).p1 ei4.nE
              · refine paired_snoc (paired_mono hvs fun _ _ z => z.mono e48) ⟨t, b, D, ls, rfl, upd_same, hkey4.mono e48, Ex.new bt7 _ _ upd_same, ?_⟩
                exact paired_mono hls fun _ _ z => z.mono ((Ex.new hbD6).trans (Ex.new bt7))
              · exact paired_snoc (paired_mono hwv fun _ _ ⟨b, z1, z2⟩ => ⟨b, z1, z2.mono e48⟩) ⟨b, rfl, hkey4.mono e48⟩
              · intro q hq
                rcases List.mem_append.mp hq with hq | hq
                · exact ei4.ok q hq
                · rcases List.mem_singleton.mp hq with rfl
                  refine ⟨hv8, hvok, by rw [List.length_map]; exact hw8, fun z => ?_, fun q hq => ?_, sum_one hsum⟩
                  · have := congrArg List.length z
                    rw [List.length_map] at this
                    have : ws.length = 0 := this
                    omega
                  · obtain ⟨x, hx, rfl⟩ := List.mem_map.mp hq
                    have h1 := mem_sum (fun y hy => (hwb y hy).1) hx
                    exact qok_mk (hwb x hx).1 (by omega) (by omega) (by omega)
              · rw [List.map_append, List.nodup_append]
                refine ⟨ei4.nd, by simp, fun y hy z hz => ?_⟩
                have hz : z ∈ [v] := hz
                rcases List.mem_singleton.mp hz with rfl
                exact fun e => hnew (e ▸ hy)
              · rw [List.length_append, List.length_singleton]
                omega
  · rintro σ H' ⟨B', ps, u3, u4, u5, u6, u7, u8, ei, hl, rfl⟩
    obtain ⟨vs, hEa, hvs⟩ := ei.en
    have hbE : B' Ea = none := ei.st.nw Ea ei.bE ei.aE
    have st := ei.st
    rw [hHV] at st
    have s1 := Stp.close eb nE (Stp.with nV st) hEa
    exact ⟨_, rfl, k ps Ea vs _ H' ei.ok ei.nd (by omega) s1 (ei.po.of (Ex.new hbE) rfl) upd_same (paired_mono hvs fun _ _ z => z.mono (Ex.new hbE))⟩
end
end LL
namespace LL
open PySem PySem.Spec PyProof.Rows L2 He Evl ND
section
variable {w : World} {K : PySem.W.Frag} {mg : Str → Option Value} {base : Heap}
theorem LOk.pok {p : PE} (h : LOk p) : POk p := ⟨Nat.le_trans h.v8 (by decide), h.ev, Nat.le_trans h.l8 (by decide), h.qs⟩
theorem ev_strI {te : TE} {σ : L2.St} {H : Hp} {i : Int} (h : Ev te σ H (.int i)) (hl : i.natAbs.log2 < 1920) : Ev (tCB (fun xs H Q => ∃ i, xs = [V.int i] ∧ i.natAbs.log2 < 1920 ∧ Q (V.str (Str.ofString (toString i))) H) (tCons te tNil)) σ H (.str (istr i)) :=
  fun H1 e Q q => h H1 e _ fun H2 e2 => ⟨i, rfl, hl, q H2 e2⟩
theorem rv_catS {x y : Str} {H : Hp} (h : x.length + y.length ≤ 100000) : RV (fun x y H Q => ∃ i j, x = V.str i ∧ y = V.str j ∧ i.length + j.length ≤ sizeLine ∧ Q (V.str (i ++ j)) H) (.str x) (.str y) H (.str (x ++ y)) :=
  fun H1 _ Q q => ⟨x, y, rfl, rfl, Nat.le_trans h (by decide), q H1 (Ex.refl _)⟩
def spText : Sp := fun us H Q _ => ∃ (v : V) (q : Rat), us = [v] ∧ PairAt H v q.num q.den ∧ QOk q ∧ ∀ H2, Ex H H2 → Q (.str (ratStr q)) H2
theorem fn_l_text (T : Txt K mg) : Fn P w K mg base 1 (ga K "_law_text") (spText) := by
  refine fn_def T.d_l_text sc_l_text (fun _ _ _ _ _ _ us hl => match us, hl with | [_], _ => rfl) (fun vs H Q E h => ?_) (fun cdv A outer s H vs Q E hr h => ?_)
  · obtain ⟨_, _, rfl, _⟩ := h
    rfl
  obtain ⟨v, q, rfl, ⟨a, rfl, ha⟩, hq, k⟩ := h
  have nd := sc_l_text.nd
  refine ⟨_, pss_cons (ps_if (pt_cmpR op_eq (pe_ix ix_tup (pv 0) (pe_int) (fun _ _ => rfl)) (pe_int) (nomark _)) (pss_one (ps_ret (pe_callTy call_str_int (by rfl) T.f_str (by decide +kernel) (pa_cons (pe_ix ix_tup (pv 0) (pe_int) (fun _ _ => rfl)) pa_nil)))) (pss_nil))
      (pss_one (ps_ret (pe_op op_add_str (pe_op op_add_str (pe_callTy call_str_int (by rfl) T.f_str (by decide +kernel) (pa_cons (pe_ix ix_tup (pv 0) (pe_int) (fun _ _ => rfl)) pa_nil)) (pe_str)) (pe_callTy call_str_int (by rfl) T.f_str (by decide +kernel) (pa_cons (pe_ix ix_tup (pv 0) (pe_int) (fun _ _ => rfl)) pa_nil))))), ?_⟩
  have hn : Num (istr q.num) q.num.toNat := ⟨by rw [Int.toNat_of_nonneg hq.1], by have := hq.1; have := hq.2.1; omega⟩
  have hd : Num (istr (q.den : Int)) q.den := ⟨rfl, hq.2.2⟩
  have l1 := hn.len
  have l2 := hd.len
  have g1 : q.num.natAbs.log2 < 1920 := by
    have := log_60 hn.2
    rw [Int.toNat_of_nonneg hq.1] at this
    exact this
  have g2 : ((q.den : Nat) : Int).natAbs.log2 < 1920 := log_60 hd.2
  have e0 : ∀ σ H1, σ[0]? = some (some (.ref a)) → Ex H H1 → Ev (tOp (rIxT K) (tVar 0) (tC (.int 0))) σ H1 (.int q.num) := fun σ H1 hs e1 => ev_op (ev_var hs) ev_c (rv_ixT (st_of (e1 _ _ ha)) (atI_nat (j := 0) rfl))
  have e1 : ∀ σ H1, σ[0]? = some (some (.ref a)) → Ex H H1 → Ev (tOp (rIxT K) (tVar 0) (tC (.int 1))) σ H1 (.int (q.den : Int)) := fun σ H1 hs e1 => ev_op (ev_var hs) ev_c (rv_ixT (st_of (e1 _ _ ha)) (atI_nat (j := 1) rfl))
  refine q_when (b := decide (q.den = 1)) (et_test (ev_is (ev_op (e1 _ _ rfl (Ex.refl _)) ev_c (rv_eq rfl)) (congrArg V.bl (decide_eq_decide.mpr ⟨fun h => ?_, fun h => ?_⟩)))) (fun c H1 x1 => ?_) (fun c H1 x1 => ?_)
  · have := V.int.inj h
    omega
  · rw [h]; rfl
  · refine s_ret (ev_strI (e0 _ _ rfl x1) g1) fun H2 x2 => ?_
    have := k H2 (x1.trans x2)
    unfold ratStr at this
    rw [if_pos (of_decide_eq_true c)] at this
    exact this
  · refine s_ret (ev_op (ev_op (ev_strI (e0 _ _ rfl x1) g1) ev_c (rv_catS (y := "/") ?_)) (ev_strI (e1 _ _ rfl x1) g2) (rv_catS ?_)) fun H2 x2 => ?_
    · have : ("/" : Str).length = 1 := rfl
      omega
    · rw [app_len]
      have : ("/" : Str).length = 1 := rfl
      omega
    · have := k H2 (x1.trans x2)
      unfold ratStr at this
      rw [if_neg (of_decide_eq_false c)] at this
      exact this
def spLine (K : PySem.W.Frag) : Sp := fun us H Q _ => ∃ (v : V) (p : PE), us = [v] ∧ DrawnAt H K v p ∧ LOk p ∧ ∀ H2, Ex H H2 → Q (.str (lineT p)) H2
theorem fn_l_line (T : Txt K mg) : Fn P w K mg base 2 (ga K "_law_line") (spLine K) := by
  refine fn_def T.d_l_line sc_l_line (fun _ _ _ _ _ _ us hl => match us, hl with | [_], _ => rfl) (fun vs H Q E h => ?_) (fun cdv A outer s H vs Q E hr h => ?_)
  · obtain ⟨_, _, rfl, _⟩ := h
    rfl
  obtain ⟨v, p, rfl, ⟨t, b, l, ls, rfl, ht, hkey, hl, hls⟩, hp, k⟩ := h
  have nd := sc_l_line.nd
  refine ⟨_, pss_cons (ps_set (i := 1) nd rfl (by first | exact Or.inl rfl | exact Or.inr rfl) (pe_lst (pa_cons (pe_str) pa_nil)))
      (pss_cons (ps_for (passes_of rfl) rfl (pi_tup (pe_ix ix_tup (pv 0) (pe_int) (fun _ _ => rfl))) (pg_name (i := 2) nd rfl (by first | exact Or.inl rfl | exact Or.inr rfl)) (pss_one (ps_set (i := 1) nd rfl (by first | exact Or.inl rfl | exact Or.inr rfl) (pe_op op_cat (pv 1) (pe_lc (own := [("_law_part", 3)]) (g := gName 3) (tt := tYes) rfl nd (pi_tup (pv 2)) (blkOk_by (N := n_l_line) (sc := defScope s_l_line) (by decide +kernel)) (fun _ _ _ _ _ => pg_name (i := 3) nd rfl (by first | exact Or.inl rfl | exact Or.inr rfl)) (fun _ _ _ _ _ => pts_nil) (fun _ _ _ _ _ => pe_callTy call_strIS (by rfl) T.f_str (by decide +kernel) (pa_cons (pv 3) pa_nil)))))))
      (pss_one (ps_ret (pe_join (pe_str) (pe_op op_cat (pe_op op_cat (pv 1) (pe_lst (pa_cons (pe_str) pa_nil))) (pe_lc (own := [("_law_lot", 4)]) (g := gName 4) (tt := tYes) rfl nd (pi_list (pe_ix ix_tup (pv 0) (pe_int) (fun _ _ => rfl))) (blkOk_by (N := n_l_line) (sc := defScope s_l_line) (by decide +kernel)) (fun _ _ _ _ _ => pg_name (i := 4) nd rfl (by first | exact Or.inl rfl | exact Or.inr rfl)) (fun _ _ _ _ _ => pts_nil) (fun _ _ _ _ _ => pe_fn T.d_l_text (fn_l_text T) (hr.mono (by decide)) T.g_l_text pcN (pa_cons (pv 4) pa_nil)))))))), ?_⟩
  have hbig : (100000 : Nat) ≤ sizeLine := by decide
  have hpok := hp.pok
  have hwl := lineW_len hpok
  have hlw : (viewW p.1).length + 2 + p.2.length = (lineW p).length := by
    unfold lineW
    rw [List.length_append, List.length_append, List.length_cons, List.length_map, List.length_singleton]
  obtain ⟨xs, hxs, hevs⟩ := key_view hkey
  refine ⟨by show 1 ≤ sizeLine; omega, fun W nW => ?_⟩
  have eW : Ex H (upd H W (.lst [.str "at"])) := Ex.new nW
  refine ⟨_, rfl, t, _, ((0 : Nat) : Int), .ref b, rfl, rfl, st_of (eW _ _ ht), atI_nat (j := 0) rfl, b, rfl, ⟨xs, ex_t eW hxs⟩, for_it (walk_tup (xs := xs)) (fun j σ H' => ∃ (W : Addr) (u2 u3 u4 : Option V), Ex H H' ∧ H' W = some (.lst ((("at" : Str) :: viewW (p.1.take j)).map V.str)) ∧ σ = [some (.ref t), some (.ref W), u2, u3, u4]) ?_ ?_ ?_ ?_⟩
  · exact ⟨W, _, _, _, eW, upd_same, rfl⟩
  · rintro j σ H' _ ⟨_, _, _, _, e, _⟩
    exact ex_t e hxs
  · rintro j z σ H4' H4 hj ⟨W, _, _, _, e4, hW4, rfl⟩ ⟨rfl, hz⟩
    obtain ⟨ev, hev, ea, rfl, hea⟩ := paired_get hevs hz
    have hevok := hp.ev ev (List.mem_of_getElem? hev)
    have hel : ((evW ev).map V.str).length = (evV ev).length := by simp [evW, evV]
    have hsmall : (evV ev).length ≤ 3 := by
      have := hevok.len
      simp [evV]
      omega
    have hlen4 : ((("at" : Str) :: viewW (p.1.take j)).map V.str).length ≤ 1000 := by
      have h1 := viewW_len (v := p.1.take j) fun x hx => hp.ev x (List.mem_of_mem_take hx)
      have := hp.v8
      rw [List.length_take] at h1
      rw [List.length_map, List.length_cons]
      omega
    refine ⟨_, rfl, ?_⟩
    refine lcT (ys := (evW ev).map V.str) (ev_var rfl) (ex_t e4 hea) hel (by omega) (fun _ => rfl) (fun j2 x2 y2 hx2 hy2 => ev_part hevok hx2 hy2 rfl) H4 (Ex.refl _) _ fun P2 H5 n5 e5 hP2 => ?_
    refine ⟨W, P2, _, _, rfl, rfl, e5 _ _ hW4, hP2, by omega, fun C nC => ?_⟩
    refine ⟨C, _, _, _, (e4.trans e5).trans (Ex.new nC), ?_, rfl⟩
    rw [upd_same, List.take_add_one, hev]
    show some (HO.lst _) = _
    unfold viewW
    rw [List.flatMap_append, ← List.map_append, List.cons_append]
    simp
  · rintro σ H4 ⟨W, _, _, _, e4, hW4, rfl⟩
    have hxl : xs.length = p.1.length := Paired.length hevs
    rw [hxl, List.take_length] at hW4
    refine ⟨⟨_, rfl⟩, _, rfl, by show 1 ≤ sizeLine; omega, fun D nD => ?_⟩
    have x5 : Ex H4 (upd H4 D (.lst [.str "do"])) := Ex.new nD
    refine ⟨W, D, _, _, rfl, rfl, x5 _ _ hW4, upd_same, by rw [List.length_map, List.length_cons]; show _ + 1 ≤ _; omega, fun C nC => ?_⟩
    have x6 : Ex (upd H4 D (.lst [.str "do"])) (upd (upd H4 D (.lst [.str "do"])) C (.lst (((("at" : Str) :: viewW p.1).map V.str) ++ [.str "do"]))) := Ex.new nC
    have e6 : Ex H (upd (upd H4 D (.lst [.str "do"])) C (.lst (((("at" : Str) :: viewW p.1).map V.str) ++ [.str "do"]))) := e4.trans (x5.trans x6)
    have hll : ls.length = p.2.length := Paired.length hls
    have hl8 := hp.l8
    refine lcL (ys := p.2.map fun q => V.str (ratStr q)) (ev_op (ev_var rfl) ev_c (rv_ixT (st_of (e6 _ _ ht)) (atI_nat (j := 1) rfl))) (sq_of (e6 _ _ hl)) (by rw [List.length_map, hll]) (by omega) (fun _ => rfl) (fun j2 x2 y2 hx2 hy2 => ?_) _ (Ex.refl _) _ fun P2 H7 n7 e7 hP2 => ?_
    · intro H8 x8 Q8 q8
      obtain ⟨q, hq, hr2⟩ := paired_get hls hx2
      rw [List.getElem?_map, hq] at hy2
      cases hy2
      exact ⟨_, rfl, _, q, rfl, hr2.mono (e6.trans x8), hp.qs q (List.mem_of_getElem? hq), q8⟩
    · refine ⟨C, P2, _, _, rfl, rfl, e7 _ _ upd_same, hP2, by rw [List.length_append, List.length_map, List.length_map, List.length_cons, List.length_singleton]; omega, fun F nF => ?_⟩
      have x8 := Ex.new (o := .lst ((((("at" : Str) :: viewW p.1).map V.str) ++ [.str "do"]) ++ p.2.map fun q => V.str (ratStr q))) nF
      refine ⟨" ", F, lineW p, rfl, rfl, .inl (sq_of ?_), lineW_join hpok, ?_⟩
      · rw [upd_same]
        unfold lineW
        simp [Function.comp_def]
      · exact k _ (e6.trans (e7.trans x8))
end
end LL
/-! defs called within an except suite that raise nothing; isinstance of a caught error that has a dict of its own -/
namespace LL
open PySem PySem.Spec PyProof.Rows L2 He Evl
/-- what a def promises wherever it is called: nothing leaves it but its value -/
def FnRC (P : Program) (w : World) (K : PySem.W.Frag) (mg : Str → Option Value) (base : Heap) (k : Nat) (f : Addr) (sp : Sp) : Prop :=
  ∀ (A : Around) (outer : List Env) (s : Shared) (H : Hp) (us : List Value) (vs : List V) (Q : VK) (E : XK), L2H.RoomH k A → Env0 P w K mg base A outer s H → Vals vs us → sp vs H Q E →
    codeAny (model P w) A (.call (.ref f) ⟨us, []⟩) (CR CX0 outer P w H s Q E) s
def cxC (P : Program) (w : World) (K : PySem.W.Frag) (mg : Str → Option Value) (base : Heap) (N : List Str) (qual : Str) (scope : Scope) (f : Addr) (cd : Value) (A : Around) (outer : List Env) (s : Shared) (H : Hp) (E : XK) : Cx :=
  { cxOf CX0 P w K mg base N qual scope f cd A outer s H E with calm := false }
theorem inv_startC {P : Program} {w : World} {K : PySem.W.Frag} {mg : Str → Option Value} {base : Heap} {N ps : List Str} {qual : Str} {scope : Scope} {f : Addr} {cd : Value} {A : Around} {outer : List Env} {s s1 : Shared} {H : Hp} {E : XK} {us : List Value} {vs : List V}
    (S : FnScope N ps scope) (e0 : Env0 P w K mg base A outer s H) (hl : vs.length = ps.length) (r : Vals vs us)
    (x : InCallC s s.heap.objs.size (bindL (envOfC qual scope s.heap.objs.size f cd).kindOf (ps.zip us) fun _ => none) (cellsFrom (s.heap.objs.size + 1) scope.names []) (bindC (envOfC qual scope s.heap.objs.size f cd).kindOf (ps.zip us) fun _ => none) s1) :
    Inv (cxC P w K mg base N qual scope f cd A outer s H E) [] (L2.start N vs) H s1 := by
  have hpl : ps.length ≤ N.length := by have := congrArg List.length S.pre; rw [List.length_take] at this; omega
  obtain ⟨h1, tk, rfl, hk⟩ := x.done
  have noA : ∀ b : Addr, b ∉ (cxC P w K mg base N qual scope f cd A outer s H E).ex := fun b z => absurd (show b ∈ ([] : List Addr) from z) (by simp)
  refine ⟨⟨e0.mod, S.kind, rfl, rfl, Nat.le_refl _, fun y z c h1 h2 => ?_, fun y hy => ?_, fun y c _ h => ?_, (fun z => Bool.noConfusion (show false = true from z)), Around.frames_deeper e0.frames, .inr ⟨rfl, rfl⟩, fun b z => absurd z (noA b), e0.bs, e0.bsz, fun b _ _ => noA b, fun b z => absurd z (noA b), e0.funs, e0.frf⟩,
    rfl, e0.bare, Un.kept hk, ⟨_, x.toInCall.ns, fun i y v h1 h2 h3 => ?_⟩, fun y c h => ⟨_, x.cell y c h⟩, e0.hok.fresh (Nat.le_refl _), fun y c h => ?_, fun q hq => ?_, e0.hok.kept hk, ?_⟩
  · exact name_of_addr x.apart (PySem.mem_of_lookup h1) (PySem.mem_of_lookup h2)
  · have hy : scope.names.lookup y = some .cell ∨ scope.names.lookup y = some .free := hy
    rcases hy with hy | hy
    · exact cell_has hy
    · exact absurd rfl (S.nofree _ (PySem.mem_of_lookup hy))
  · exact Nat.le_of_lt (x.above y c (PySem.mem_of_lookup h))
  · have hi : i < vs.length := by
      unfold L2.start at h2
      by_cases hi : i < vs.length
      · exact hi
      · rw [List.getElem?_append_right (by simpa using hi)] at h2
        rw [List.getElem?_replicate] at h2
        split at h2 <;> cases h2
    have ha : vs[i]? = some v := by
      unfold L2.start at h2
      rw [List.getElem?_append_left (by simpa using hi), List.getElem?_map] at h2
      cases e : vs[i]? with
      | none => rw [e] at h2; cases h2
      | some a => rw [e] at h2; cases h2; rfl
    obtain ⟨u, hu, rv⟩ := r.get ha
    have hp : ps[i]? = some y := by
      rw [← S.pre, List.getElem?_take_of_lt (by omega)]; exact h1
    have ndP : ps.Nodup := by rw [← S.pre]; exact S.nd.sublist (List.take_sublist _ _)
    refine ⟨u, rv, ?_⟩
    rcases S.par y (List.mem_of_getElem? hp) with k | k
    · exact .inl ⟨k, bindL_get ndP hp hu k⟩
    · obtain ⟨c, e⟩ := cell_has (n := s.heap.objs.size + 1) k
      refine .inr ⟨.inl k, c, e, ?_⟩
      have q := x.cell y c e
      rw [bindC_get ndP hp hu (by show scope.names.lookup y ≠ _; rw [k]; decide)] at q
      exact q
  · exact e0.hok.fresh (Nat.le_of_lt (x.above y c (PySem.mem_of_lookup h)))
  · exact absurd (show q ∈ ([] ++ [] : List (Addr × Obj)) from hq) (by simp)
  · unfold L2.start
    show _ = N.length
    rw [List.length_append, List.length_map, List.length_replicate]
    omega
theorem fn_defC {P : Program} {w : World} {K : PySem.W.Frag} {mg : Str → Option Value} {base : Heap} {x qual : Str} {st : Stmt} {f : Addr} {N ps : List Str} {k : Nat} {sp : Sp} (D : ∃ fd, FunD K x qual (defArgs st) (defBody st) (defScope st) [] [] f fd) (S : FnScope N ps (defScope st))
    (hb : ∀ (kV doc pm : Value) (an : Option Addr) (cdv ct : Value) (us : List Value), us.length = ps.length → bindArgs (PySem.W.fnOf x qual (defArgs st) (defBody st) (defScope st) .none kV doc pm an cdv ct) ⟨us, []⟩ = pure (ps.zip us))
    (len : ∀ vs H Q E, sp vs H Q E → vs.length = ps.length)
    (hbody : ∀ (cdv : Value) (A : Around) (outer : List Env) (s : Shared) (H : Hp) (vs : List V) (Q : VK) (E : XK), L2H.RoomH k (A.deeper (envOfC qual (defScope st) s.heap.objs.size f cdv)) → sp vs H Q E →
      ∃ t, PSs (cxC P w K mg base N qual (defScope st) f cdv A outer s H E) (defBody st) t ∧ t { nx := fun _ H' => Q .non H', rt := Q } (start N vs) H) : FnRC P w K mg base (k + 1) f sp := by
  obtain ⟨fd, F⟩ := D
  have bn := F.bindsN hb
  obtain ⟨oc, od, dV, kV, doc, pm, an, cdv, ct, osl, rfl, lk, hcd, _, _⟩ := F.ex
  intro A outer s H us vs Q E hr e0 r hsp
  have hl := len _ _ _ _ hsp
  have KX : K.In s.heap := e0.mod.kin.keeps fun b o e => (e0.bs b o e).1
  have lim : s.heap.NoLimit := e0.mod.nolimit.keeps fun b o e => (e0.bs b o e).1
  have hkind : ∀ y ∈ ps.zip us, (defScope st).names.lookup y.1 = some .local ∨ ((defScope st).names.lookup y.1 = some .cell ∧ ((cellsFrom (s.heap.objs.size + 1) (defScope st).names []).lookup y.1).isSome = true) := fun ⟨n, v⟩ hy => by
    rcases S.par n (List.of_mem_zip hy).1 with q | q
    · exact .inl q
    · exact .inr ⟨q, PySem.W.cellsFrom_some _ _ _ (.inl q)⟩
  have hb2 := bn s us KX (by rw [List.append_nil, ← r.length, hl])
  rw [List.append_nil] at hb2
  refine codeAny_call_function hr.depth (KX _ _ lk) rfl S.co S.gen rfl (PySem.W.codeRec_of KX hcd) (hb2 _ _ _ _ ?_)
  refine wpAny_newFunctionEnv_cells S.kind hkind fun env he s1 x => ?_
  subst he
  refine ⟨lim.keeps x.toInCall.keep, codeAny_func ?_⟩
  obtain ⟨t, ht, hq⟩ := hbody cdv A outer s H vs Q E (hr.deeper _) hsp
  have I : Inv (cxC P w K mg base N qual (defScope st) f cdv A outer s H E) [] (L2.start N vs) H s1 := inv_startC S e0 hl r x
  refine wpAny_mono (ht.run [] s1 (L2.start N vs) H _ I hq) (fun fl s' hs => ?_) fun e s' hs => hs
  have fin : ∀ {σ' : L2.St} {H' : Hp} {v : V} {u : Value}, Inv (cxC P w K mg base N qual (defScope st) f cdv A outer s H E) [] σ' H' s' → RelV v u → Q v H' → CE outer P w H s Q u s' :=
    fun {σ' H' v u} J rv q => ⟨v, H', J.os, J.bare, J.base, J.hok, rv, q⟩
  cases fl with
  | ret u =>
    obtain ⟨v, σ', H', J, rv, q⟩ := hs
    exact fin J rv q
  | next =>
    obtain ⟨σ', H', J, q⟩ := hs
    exact fin (v := V.non) (u := Value.none) J rfl q
  | brk =>
    obtain ⟨_, _, _, q⟩ := hs
    exact False.elim q
  | cont =>
    obtain ⟨_, _, _, q⟩ := hs
    exact False.elim q
theorem pe_fnC {X : Cx} {k : Nat} {f : Addr} {sp : Sp} {x x' qual : Str} {st : Stmt} {dvs : List V} {e : Expr} {es : List Expr} {t : TA} {p pos : Pos} (D : ∃ fd, FunD X.K x' qual (defArgs st) (defBody st) (defScope st) dvs [] f fd)
    (F : FnRC X.prog X.w X.K X.mg X.base k f sp) (hr : L2H.RoomH k X.A) (hm : X.mg x = some (.ref f)) (ha : PA X (e :: es) t) (hg : Gl X x := by rfl) (hdb : (x == ("__debug__" : Str)) = false := by decide)
    (he : starEach (e :: es) X.env = (false, eval e X.env) :: starEach es X.env := by rfl) (hpl : (backTo pos (starEach es X.env)).any (·.1) = false := by rfl) :
    L2.PE X (.Call (.Name x p) (e :: es) [] pos) (fun σ H Q => t σ H fun vs H1 => sp vs H1 Q fun _ _ _ => False) := by
  refine ⟨fun pins s σ H Q I h => ?_⟩
  refine wpAny_Call_Name_kw (ld_glob I hg hm ?_ hdb)
  refine PySem.W.callWith_K (h₀ := X.base) I.ok.mod.kin (kp_of D) (thn (ha.run pos pins s σ H _ I h) fun us s1 ⟨vs, H1, I1, r, q⟩ => ⟨I1.kIn, ?_⟩) he hpl
  refine wpAny_call (codeAny_mono (F X.A X.stack s1 H1 us vs Q _ hr I1.env0 r q) fun r s' hq => ?_)
  cases r with
  | error e => exact False.elim hq
  | ok fl =>
    cases fl with
    | ret u => exact I1.after hq
    | next => exact False.elim hq
    | brk => exact False.elim hq
    | cont => exact False.elim hq
/-- a call in a try's body -/
theorem pe_fnS {X : Cx} {CX : CXT} {k : Nat} {f : Addr} {sp : Sp} {E : L2.St → XK} {x x' qual : Str} {st : Stmt} {dvs : List V} {e : Expr} {es : List Expr} {t : TA} {p pos : Pos} (D : ∃ fd, FunD X.K x' qual (defArgs st) (defBody st) (defScope st) dvs [] f fd)
    (F : FnR X.prog X.w X.K X.mg X.base CX k f sp) (hr : Room k X.A) (hm : X.mg x = some (.ref f)) (hx : ∀ σ, PassesAt CX X σ (E σ)) (ha : PA X (e :: es) t) (hg : Gl X x := by rfl) (hdb : (x == ("__debug__" : Str)) = false := by decide)
    (he : starEach (e :: es) X.env = (false, eval e X.env) :: starEach es X.env := by rfl) (hpl : (backTo pos (starEach es X.env)).any (·.1) = false := by rfl) :
    L2.PE X (.Call (.Name x p) (e :: es) [] pos) (fun σ H Q => t σ H fun vs H1 => sp vs H1 Q (E σ)) := by
  refine ⟨fun pins s σ H Q I h => ?_⟩
  refine wpAny_Call_Name_kw (ld_glob I hg hm ?_ hdb)
  refine PySem.W.callWith_K (h₀ := X.base) I.ok.mod.kin (kp_of D) (thn (ha.run pos pins s σ H _ I h) fun us s1 ⟨vs, H1, I1, r, q⟩ => ⟨I1.kIn, ?_⟩) he hpl
  exact wpAny_call (run_fnRS F hr (hx σ) I1 r q)
/-! ### isinstance of an error with a dict -/
def rIsEd (K : PySem.W.Frag) (D a dd : Addr) : List V → Hp → VK → Prop := fun xs H Q => ∃ (c : V) (cv : Value) (b : Bool) (fs : List (Str × V)), xs = [.ref a, c] ∧ H dd = some (.xd fs) ∧ (∀ u, RelV c u → u = cv) ∧ PySem.W.kitOne K (.ref D) cv = some b ∧ Q (.bl b) H
def rIsEdT (K : PySem.W.Frag) (D a dd : Addr) : List V → Hp → VK → Prop := fun xs H Q => ∃ (tp : Addr) (cs : List V) (us : List Value) (b : Bool) (fs : List (Str × V)), xs = [.ref a, .ref tp] ∧ H dd = some (.xd fs) ∧ H tp = some (.tup cs) ∧ Paired ClsV cs us ∧ PySem.W.kitAny K (.ref D) us = some b ∧ Q (.bl b) H
theorem exc_inst {X : Cx} {pins : List (Addr × Obj)} {σ : L2.St} {H : Hp} {s : Shared} {a D dd : Addr} {oe : Obj} {pn : List (Addr × Obj)} {fs : List (Str × V)} (I : Inv (X.suite a ((a, oe) :: pn)) pins σ H s) (hz : Zc (.ref D) (some dd) oe) (hf : ∃ vs, oe.data = .fields vs) (ea : H dd = some (.xd fs)) :
    ∃ od, PySem.W.InstAt s.heap a oe D (some od) := by
  obtain ⟨ha, _⟩ := I.pin (a, oe) (List.mem_append_left _ List.mem_cons_self)
  obtain ⟨vs, hd⟩ := hf
  have hx : ObjOk X.prog X.w H s.heap dd (.xd fs) := I.hok dd _ ea
  obtain ⟨mA, hns, hr⟩ := hx
  obtain ⟨od, ho, hl⟩ := lookIn_ns hns
  exact ⟨od, ha, hz.1, by unfold PySem.W.notCls; rw [hd] <;> rfl, by rw [hz.2]; exact ho⟩
theorem cls_some {K : PySem.W.Frag} {D : Addr} (h : PySem.W.hasDictIn K D = true) : (PySem.W.clsIn K D).isSome = true := by
  obtain ⟨cd, hc, _⟩ := PySem.W.any_some h
  rw [hc]
  rfl
theorem call_isEd {X : Cx} {a D dd : Addr} {oe : Obj} {pn : List (Addr × Obj)} (C : ExcC X.K D) (hz : Zc (.ref D) (some dd) oe) (hf : ∃ vs, oe.data = .fields vs) : CallR (X.suite a ((a, oe) :: pn)) (.builtin "isinstance") (rIsEd X.K D a dd) := by
  intro pins s σ H xs us Q I r h
  obtain ⟨c, cv, b, fs, rfl, hdd, hcv, e, q⟩ := h
  obtain ⟨u1, u2, rfl, r1, r2⟩ := vals2 r
  cases (show u1 = Value.ref a from r1)
  have ec := hcv _ r2
  subst ec
  obtain ⟨od, J⟩ := exc_inst I hz hf hdd
  exact PySem.W.kia_one (PySem.W.kitx_exc (cls_some C.hd) C.hg C.hk C.hs C.ha C.hn C.ht C.hm) I.kIn J e (fun z => nomatch z) fun tk => ⟨.bl b, H, I.kept (t' := tk) fun _ _ z => z, rfl, q⟩
theorem call_isEdT {X : Cx} {a D dd : Addr} {oe : Obj} {pn : List (Addr × Obj)} (C : ExcC X.K D) (hz : Zc (.ref D) (some dd) oe) (hf : ∃ vs, oe.data = .fields vs) : CallR (X.suite a ((a, oe) :: pn)) (.builtin "isinstance") (rIsEdT X.K D a dd) := by
  intro pins s σ H xs us Q I r h
  obtain ⟨tp, cs, ws, b, fs, rfl, hdd, hT, k, e, q⟩ := h
  obtain ⟨u1, u2, rfl, r1, r2⟩ := vals2 r
  cases (show u1 = Value.ref a from r1)
  cases (show u2 = Value.ref tp from r2)
  obtain ⟨_, its, rv, o, h1, h2, n, h3⟩ := (show ObjOk X.prog X.w H s.heap tp (.tup cs) from I.hok tp _ hT)
  have e3 := ClsV.all k rv
  subst e3
  obtain ⟨oc, od', dt, sl⟩ := o
  simp only at h2 h3
  subst h2 h3
  obtain ⟨od, J⟩ := exc_inst I hz hf hdd
  exact PySem.W.kia_tup (PySem.W.kitx_exc (cls_some C.hd) C.hg C.hk C.hs C.ha C.hn C.ht C.hm) I.kIn J h1 e (fun z => nomatch z) fun tk => ⟨.bl b, H, I.kept (t' := tk) fun _ _ z => z, rfl, q⟩
theorem callk_isEd (K : PySem.W.Frag) {X : Cx} {a D dd : Addr} {oe : Obj} {pn : List (Addr × Obj)} (C : ExcC K D) (hz : Zc (.ref D) (some dd) oe) (hf : ∃ vs, oe.data = .fields vs) (h : X.K = K := by rfl) : CallR (X.suite a ((a, oe) :: pn)) (.builtin "isinstance") (rIsEd K D a dd) := by subst h; exact call_isEd C hz hf
theorem callk_isEdT (K : PySem.W.Frag) {X : Cx} {a D dd : Addr} {oe : Obj} {pn : List (Addr × Obj)} (C : ExcC K D) (hz : Zc (.ref D) (some dd) oe) (hf : ∃ vs, oe.data = .fields vs) (h : X.K = K := by rfl) : CallR (X.suite a ((a, oe) :: pn)) (.builtin "isinstance") (rIsEdT K D a dd) := by subst h; exact call_isEdT C hz hf
theorem pek_xf (K : PySem.W.Frag) {X : Cx} {a C : Addr} {oe : Obj} {cls : Value} {d : Option Addr} {pn : List (Addr × Obj)} {e : Expr} {te : TE} {pos : Pos} {n : Str} (T : XfC K C) (hno : PySem.W.findIn K (.ref C) n = some none)
    (hz : Zc cls d oe) (hf : ∃ vs, oe.data = .fields vs) (he : L2.PE (X.suite a ((a, oe) :: pn)) e te) (hb : attributeBase e n X.env (eval e X.env) = eval e X.env := by rfl) (h : X.K = K := by rfl) :
    L2.PE (X.suite a ((a, oe) :: pn)) (.Attribute e n pos) (tXf a cls d C n te) := by subst h; exact pe_xf T hno hz hf he hb
theorem callk_list_of (K : PySem.W.Frag) {X : Cx} (h : X.K = K := by rfl) : CallR X (.type "list") (fun xs H Q => ∃ p ys, xs = [.ref p] ∧ (SqL K H p ys ∨ SqT K H p ys) ∧ ∀ l, H l = none → Q (.ref l) (upd H l (.lst ys))) := by subst h; exact call_list_of
end LL
namespace LL
open PySem PySem.Spec PyProof.Rows L2 He Evl
section
variable {P : Program} {w : World} {K : PySem.W.Frag} {mg : Str → Option Value} {base : Heap}
/-- _law_same of two ints, wherever it is called -/
def spSameI : Sp := fun us H Q _ => ∃ m n : Int, us = [.int m, .int n] ∧ ∀ H2, Ex H H2 → Q (.bl (decide (m = n))) H2
theorem fn_l_sameC (T : Txt K mg) : FnRC P w K mg base 1 (ga K "_law_same") spSameI := by
  refine fn_defC T.d_l_same sc_l_same (fun _ _ _ _ _ _ us hl => match us, hl with | [_, _], _ => rfl) (fun vs H Q E h => ?_) (fun cdv A outer s H vs Q E hr h => ?_)
  · obtain ⟨_, _, rfl, _⟩ := h
    rfl
  obtain ⟨m, n_, rfl, k⟩ := h
  have nd := sc_l_same.nd
  refine ⟨_, pss_cons (ps_if (PW.pt (pw_or (pt_val (pe_callB call_isi (by rfl) T.f_isinstance (by decide +kernel) (pa_cons (pv 1) (pa_cons (pe_bltn (v := .ty "tuple") rfl T.f_tuple (by decide +kernel) rfl) pa_nil)))) (pw_or1 (pt_val (pe_callB call_isi (by rfl) T.f_isinstance (by decide +kernel) (pa_cons (pv 1) (pa_cons (pe_bltn (v := .ty "list") rfl T.f_list (by decide +kernel) rfl) pa_nil))))))) (pss_given (p := False) (t := tNext) (fun h => h.elim)) (pss_nil))
      (pss_cons (ps_if (PW.pt (pw_or (pt_cmpR op_isN (pv 1) (pe_non) (nomark _)) (pw_or1 (pt_val (pe_callB call_isi (by rfl) T.f_isinstance (by decide +kernel) (pa_cons (pv 1) (pa_cons (pe_bltn (v := .ty "bool") rfl T.f_bool (by decide +kernel) rfl) pa_nil))))))) (pss_one (ps_ret (pe_and (pe_cmpR op_eq (pe_cmpR op_isN (pv 0) (pe_non) (nomark _)) (pe_cmpR op_isN (pv 1) (pe_non) (nomark _)) (nomark _)) (pe_and (pe_or (pe_cmpR op_isN (pv 1) (pe_non) (nomark _)) (pe_one (pe_callB call_isi (by rfl) T.f_isinstance (by decide +kernel) (pa_cons (pv 0) (pa_cons (pe_bltn (v := .ty "bool") rfl T.f_bool (by decide +kernel) rfl) pa_nil))))) (pe_one (pe_cmpR op_eq (pv 0) (pv 1) (nomark _))))))) (pss_nil))
      (pss_cons (ps_if (pt_val (pe_callB call_isi (by rfl) T.f_isinstance (by decide +kernel) (pa_cons (pv 1) (pa_cons (pe_bltn (v := .ty "int") rfl T.f_int (by decide +kernel) rfl) pa_nil)))) (pss_one (ps_ret (pe_and (pe_callB call_isi (by rfl) T.f_isinstance (by decide +kernel) (pa_cons (pv 0) (pa_cons (pe_bltn (v := .ty "int") rfl T.f_int (by decide +kernel) rfl) pa_nil))) (pe_and (pe_not (pe_callB call_isi (by rfl) T.f_isinstance (by decide +kernel) (pa_cons (pv 0) (pa_cons (pe_bltn (v := .ty "bool") rfl T.f_bool (by decide +kernel) rfl) pa_nil)))) (pe_one (pe_cmpR op_eq (pv 0) (pv 1) (nomark _))))))) (pss_nil))
      (pss_one (ps_ret (pe_and (pe_callB call_isi (by rfl) T.f_isinstance (by decide +kernel) (pa_cons (pv 0) (pa_cons (pe_bltn (v := .ty "str") rfl T.f_str (by decide +kernel) rfl) pa_nil))) (pe_one (pe_cmpR op_eq (pv 0) (pv 1) (nomark _)))))))), ?_⟩
  have isi : ∀ (i : Nat) (j : Int) (b : Bool) {H' : Hp} {n : String}, ([some (V.int m), some (.int n_)])[i]? = some (some (.int j)) → PySem.W.kitOne K (.type (tyN (.int j))) (.type n) = some b → Ev (tCB (rIsi K) (tCons (tVar i) (tCons (tC (.ty n)) tNil))) [some (V.int m), some (.int n_)] H' (.bl b) := fun _ _ _ _ _ hs hk => ev_isi (ev_var hs) (.int _) hk
  refine q_when (b := false) (et_or (a := false) (et_B (isi 1 n_ false rfl (kit_tup (.int n_)))) fun _ => et_B (isi 1 n_ false rfl (kit_lst (.int n_)))) (fun c => nomatch c) (fun _ H1 e1 => ?_)
  refine q_when (b := false) (et_or (a := false) (et_test (ev_isN (K := K) (ev_var rfl) (.int n_))) fun _ => et_B (isi 1 n_ false rfl (kit_boo (.int n_)))) (fun c => nomatch c) (fun _ H2 e2 => ?_)
  refine q_when (b := true) (et_B (isi 1 n_ true rfl (kit_int (.int n_)))) (fun _ H3 e3 => ?_) (fun c => nomatch c)
  refine s_ret (v := .bl (decide (m = n_))) (ev_is (ev_andV (a := true) (isi 0 m true rfl (kit_int (.int m))) fun _ => ev_andV (a := true) (ev_notV (a := false) (isi 0 m false rfl (kit_boo (.int m)))) fun _ => ev_is (ev_op (ev_var rfl) (ev_var rfl) (rv_eq rfl)) (congrArg V.bl (decide_eq_decide.mpr ⟨fun h => V.int.inj h, fun h => by rw [h]⟩))) (by rw [Bool.true_and, Bool.true_and])) fun H4 e4 => k H4 (e1.trans (e2.trans (e3.trans e4)))
end
end LL
namespace LL
open PySem PySem.Spec PyProof.Rows L2 He Evl ND
/-! ### good lines, a bad line: told in one way only -/
def GoodLs (ls : List Str) (ps : List PE) : Prop := ls.map (Txt.split · " ") = ps.map lineW ∧ (∀ p ∈ ps, POk p) ∧ planBad [] 0 (ps.map entE) = none
def BadLs (ls : List Str) (i : Nat) (l : Str) (ps : List PE) : Prop := ls[i]? = some l ∧ (ls.take i).map (Txt.split · " ") = ps.map lineW ∧ (∀ p ∈ ps, POk p) ∧ planBad [] 0 (ps.map entE) = none ∧
  ((∀ p, POk p → Txt.split l " " ≠ lineW p) ∨ ∃ p, POk p ∧ Txt.split l " " = lineW p ∧ planBad [] 0 ((ps ++ [p]).map entE) ≠ none)
theorem lines_uniq : ∀ {ps qs : List PE}, (∀ p ∈ ps, POk p) → (∀ p ∈ qs, POk p) → ps.map lineW = qs.map lineW → ps = qs
  | [], [], _, _, _ => rfl
  | [], _ :: _, _, _, h => by cases h
  | _ :: _, [], _, _, h => by cases h
  | p :: ps, q :: qs, hp, hq, h => by
    rw [List.map_cons, List.map_cons] at h
    obtain ⟨h1, h2⟩ := List.cons.inj h
    rw [line_uniq (hp p (.head _)) (hq q (.head _)) h1, lines_uniq (fun x hx => hp x (.tail _ hx)) (fun x hx => hq x (.tail _ hx)) h2]
theorem planBad_preL : ∀ {a b : List Ent} {seen : List NestedKey} {i : Nat}, planBad seen i (a ++ b) = none → planBad seen i a = none
  | [], _, _, _, _ => by unfold planBad; rfl
  | e :: a, b, seen, i, h => by
    rw [List.cons_append] at h
    unfold planBad at h ⊢
    by_cases z : okE seen e = true
    · rw [if_pos z] at h ⊢
      exact planBad_preL h
    · rw [if_neg z] at h
      cases h
theorem good_bad {ls : List Str} {qs ps : List PE} {i : Nat} {l : Str} (g : GoodLs ls qs) (b : BadLs ls i l ps) : False := by
  obtain ⟨g1, g2, g3⟩ := g
  obtain ⟨b1, b2, b3, b4, b5⟩ := b
  have hq : (qs.map lineW)[i]? = some (Txt.split l " ") := by rw [← g1, List.getElem?_map, b1]; rfl
  rw [List.getElem?_map] at hq
  obtain ⟨q, hq1, hq2⟩ := Option.map_eq_some_iff.mp hq
  have hqk := g2 q (List.mem_of_getElem? hq1)
  rcases b5 with b5 | ⟨p, hp, hpl, hpb⟩
  · exact b5 q hqk hq2.symm
  · have e1 : p = q := line_uniq hp hqk (hpl.symm.trans hq2.symm)
    subst e1
    have e2 : ps = qs.take i := lines_uniq b3 (fun x hx => g2 x (List.mem_of_mem_take hx)) (by rw [← b2, List.map_take, List.map_take, g1])
    refine hpb ?_
    have e3 : ps ++ [p] = qs.take (i + 1) := by rw [e2, List.take_add_one, hq1]; rfl
    rw [e3]
    rw [← List.take_append_drop (i + 1) qs, List.map_append] at g3
    exact planBad_preL g3
theorem bad_lt {ls : List Str} {ps qs : List PE} {i k : Nat} {l m : Str} (a : BadLs ls i l ps) (b : BadLs ls k m qs) (h : i < k) : False := by
  obtain ⟨b1, b2, b3, b4, _⟩ := b
  refine good_bad (ls := ls.take k) (qs := qs) (i := i) (l := l) (ps := ps) ⟨b2, b3, b4⟩ ?_
  obtain ⟨a1, a2, a3⟩ := a
  exact ⟨by rw [List.getElem?_take_of_lt h]; exact a1, by rw [List.take_take, Nat.min_eq_left (by omega)]; exact a2, a3⟩
theorem bad_uniq {ls : List Str} {ps qs : List PE} {i k : Nat} {l m : Str} (a : BadLs ls i l ps) (b : BadLs ls k m qs) : i = k := by
  rcases Nat.lt_trichotomy i k with h | h | h
  · exact (bad_lt a b h).elim
  · exact h
  · exact (bad_lt b a h).elim
theorem first_good {ls : List Str} (h : firstBad [] 0 ls = none) : ∃ qs, GoodLs ls qs := by
  obtain ⟨qs, h1, h2, h3⟩ := first_none (ps := []) h (by unfold planBad; rfl)
  exact ⟨qs, h1, h2, h3⟩
theorem first_bad {ls : List Str} {k : Nat} (h : firstBad [] 0 ls = some k) : ∃ l qs, BadLs ls k l qs := by
  obtain ⟨j, l, qs, e, hj, h1, h2, h3, h4⟩ := first_some (ps := []) h (by unfold planBad; rfl)
  rw [Nat.zero_add] at e
  subst e
  exact ⟨l, qs, hj, h1, h2, h3, h4⟩
end LL
namespace LL
open PySem PySem.Spec PyProof.Rows L2 He Evl ND
section
variable {w : World} {K : PySem.W.Frag} {mg : Str → Option Value} {base : Heap}
theorem dpa_linesL {H : Hp} : ∀ ps : List PE, DpAll K H (ps.map fun p => V.str (lineT p)) (ps.map fun p => PyData.str (lineT p))
  | [] => .nil
  | p :: ps => .cons (.str _) (dpa_linesL ps)
theorem dep_linesL {ps : List PE} (h : ps.length ≤ 1000) : Dep 40 (.list (ps.map fun p => PyData.str (lineT p))) := by
  refine ⟨by rw [List.length_map]; omega, fun d hd => ?_⟩
  obtain ⟨q, _, rfl⟩ := List.mem_map.mp hd
  exact True.intro
variable (W : TabW w K)
include W
def spLaw (K : PySem.W.Frag) : Sp := fun us H Q _ => ∃ (a : Addr) (ns : List Int), us = [.ref a] ∧ SqL K H a (ns.map V.int) ∧ ns.length ≤ 63 ∧ ∀ H2, Q (.bl true) H2
theorem ok_law (T : Txt K mg) {fd : FuncData} (F : FunD K "law" "law" (defArgs s_law) (defBody s_law) (defScope s_law) (List.map (He.Dv.v K) []) [] (ga K "law") fd) : FnOk P w K mg base (L2.CX P w) 42 (ga K "law") fd ["_law_script"] (spLaw K) := by
  refine F.ok sc_law (fun vs H Q E h => ?_) (fun cdv A outer s H vs Q E hr h => ?_)
  · obtain ⟨_, _, rfl, _⟩ := h
    rfl
  obtain ⟨a, ns, rfl, ha, hl, k⟩ := h
  have nd := sc_law.nd
  refine ⟨_, pss_cons (ps_set (i := 1) nd rfl (by first | exact Or.inl rfl | exact Or.inr rfl) (pe_fn T.d_l_pool (fn_l_pool T) (hr.mono (by decide)) T.g_l_pool pc (pa_cons (pv 0) (pa_cons (pe_int) pa_nil))))
      (pss_cons (ps_set (i := 3) nd rfl (by first | exact Or.inl rfl | exact Or.inr rfl) (pe_fn T.d_l_changed (fn_l_changed T) (hr.mono (by decide)) T.g_l_changed pc (pa_cons (pv 1) (pa_cons (pe_lc (own := [("_law_entry", 2)]) (g := gName 2) (tt := tYes) rfl nd (pi_list (pe_fn T.d_l_entries (fn_l_entries T) (hr.mono (by decide)) T.g_l_entries pc (pa_cons (pv 1) pa_nil))) (blkOk_by (N := n_law) (sc := defScope s_law) (by decide +kernel)) (fun _ _ _ _ _ => pg_name (i := 2) nd rfl (by first | exact Or.inl rfl | exact Or.inr rfl)) (fun _ _ _ _ _ => pts_nil) (fun _ _ _ _ _ => pe_fn T.d_l_line (fn_l_line T) (hr.mono (by decide)) T.g_l_line pcN (pa_cons (pv 2) pa_nil))) pa_nil))))
      (pss_cons (ps_set (i := 4) nd rfl (by first | exact Or.inl rfl | exact Or.inr rfl) (pe_fn T.d_l_bad (fn_l_bad T) (hr.mono (by decide)) T.g_l_bad pc (pa_cons (pv 3) pa_nil)))
      (pss_cons (ps_try_as (i := 6) (Wout := fun cls d _ H => E cls d H) rfl rfl nd rfl rfl ⟨rfl, by decide, Or.inl T.g_LossError⟩ (takes_of rfl rfl rfl rfl) (fun Wt pn xe tk _ => pss_one (ps_set (i := 5) nd rfl (by first | exact Or.inl rfl | exact Or.inr rfl) (pe_fnS T.d_plan_lines (fn_plan_lines (w := w) (base := base) T) (hr.mono (by decide)) T.g_plan_lines (fun σ => passAt tk σ) (pa_cons (pe_fnS T.d_read_plan (fn_read_planG (w := w) (base := base) W T) (hr.mono (by decide)) T.g_read_plan (fun σ => passAt tk σ) (pa_cons (pe_callTy (callk_list_of K) (by rfl) T.f_list (by decide +kernel) (pa_cons (pv 3) pa_nil)) pa_nil)) pa_nil)))) (fun a oe cls d pn hz hf => pss_given (p := cls = .ref (ga K "BadPaper") ∧ d = some (d.getD 0)) (fun hp => have hz2 : Zc (.ref (ga K "BadPaper")) (some (d.getD 0)) oe := by rw [← hp.2, ← hp.1]; exact hz
        pss_cons (ps_if (PW.pt (pw_or (pt_not (pt_val (pe_callB (callk_isEd K T.xc_BadPaper hz2 hf) (by rfl) T.f_isinstance (by decide +kernel) (pa_cons (pv 6) (pa_cons (pe_gr T.g_BadPaper) pa_nil))))) (pw_or1 (pt_val (pe_callB (callk_isEdT K T.xc_BadPaper hz2 hf) (by rfl) T.f_isinstance (by decide +kernel) (pa_cons (pv 6) (pa_cons (pe_tup (pa_cons (pe_gr T.g_BadPlan) (pa_cons (pe_gr T.g_BadRatio) (pa_cons (pe_gr T.g_BadText) (pa_cons (pe_gr T.g_NoPlan) (pa_cons (pe_gr T.g_NoShare) (pa_cons (pe_gr T.g_TooLarge) pa_nil))))))) pa_nil))))))) (pss_one (ps_ret (pe_bl))) (pss_nil))
      (pss_one (ps_ret (pe_and (pe_cmpR op_notN (pv 4) (pe_non) (nomark _)) (pe_one (pe_fnC T.d_l_same (fn_l_sameC T) (L2H.roomH_mark (hr.mono (by decide)) _) T.g_l_same (pa_cons (pek_xf K T.xf_BadPaper T.xn_BadPaper hz2 hf (pv 6)) (pa_cons (pv 4) pa_nil))))))))))
      (pss_one (ps_ret (pe_and (pe_cmpR op_isN (pv 4) (pe_non) (nomark _)) (pe_one (pe_fn T.d_l_same (fn_l_same T 40) (hr.mono (by decide)) T.g_l_same pc (pa_cons (pv 5) (pa_cons (pv 3) pa_nil)))))))))), ?_⟩
  have hbig : (100000 : Nat) ≤ sizeLine := by decide
  refine ⟨_, rfl, a, ns, 0, rfl, ha, hl, fun p H1 P1 s1 np _ hP1 _ => ?_⟩
  obtain ⟨B1, e1, hb1, hP1⟩ := base_pool hP1
  have w1 : Wd p B1 H1 := ⟨e1, hb1, hP1⟩
  dsimp only [gName]
  refine ⟨_, rfl, _, rfl, B1, p, rfl, e1, hb1, hP1, fun ps Ea vs B2 H2 hok hnd hlen st2 po2 hEa hvs => ?_⟩
  have w2 := w1.stp st2 po2
  have hEa2 := w2.e _ _ hEa
  have hvs2 : Paired (DrawnAt H2 K) vs ps := paired_mono hvs fun _ _ z => z.mono w2.e
  have hvl : vs.length = ps.length := Paired.length hvs
  refine ⟨Ea, rfl, ⟨_, sq_of hEa2⟩, fun D nD => lc_it (te := fun σ H Q => tCons (tVar 2) tNil σ H fun vs H1 => spLine K vs H1 Q (fun _ _ _ => False)) (n := vs.length) (walk_list (K := K) (a := Ea) (xs := vs)) (fun j H' => Ex H2 H' ∧ H' D = some (.lst ((ps.map fun p => V.str (lineT p)).take j))) ⟨Ex.new nD, upd_same⟩ (fun j H' _ z => sq_of (z.1 _ _ hEa2)) ?_ ?_⟩
  · rintro j y H4' H4 hj ⟨e4, hD⟩ ⟨rfl, hy⟩
    obtain ⟨q, hq, hd⟩ := paired_get hvs2 hy
    refine lc_turn (σ := L2.start n_law [V.ref a] |>.set 1 (some (.ref p))) (te := fun σ H Q => tCons (tVar 2) tNil σ H fun vs H1 => spLine K vs H1 Q (fun _ _ _ => False)) (vs := [2]) (j := 2) (Ex.refl H2) nD e4 hD (by rw [List.length_map]; omega) (by rw [List.length_map]; omega) (fun _ => rfl) fun z hz => ?_
    rw [List.getElem?_map, hq] at hz
    cases hz
    exact fun H5 x5 Q5 q5 => ⟨_, rfl, _, q, rfl, hd.mono x5, hok q (List.mem_of_getElem? hq), q5⟩
  rintro H3 ⟨e3, hD⟩
  rw [List.take_of_length_le (by rw [List.length_map, hvl]; exact Nat.le_refl _)] at hD
  obtain ⟨s3, w3⟩ := w2.adopt e3 nD hD
  refine ⟨p, _, D, ps.map lineT, rfl, w3, by rw [upd_same, List.map_map]; rfl, by rw [List.length_map]; omega, fun l hl => ?_, fun c zs B4 H4 s4 w4 hc hzl hz => ?_⟩
  · obtain ⟨q, hq, rfl⟩ := List.mem_map.mp hl
    have hqk := hok q hq
    unfold LnOk
    rw [lineT_split hqk.pok]
    refine ⟨?_, fun x hx => ?_⟩
    · have h1 := viewW_len hqk.ev
      have h2 := hqk.v8
      have h3 := hqk.l8
      unfold lineW
      rw [List.length_append, List.length_append, List.length_cons, List.length_singleton, List.length_map]
      omega
    · have := (lineW_short hqk.pok x hx).2.1
      omega
  have hc4 := w4.e _ _ hc
  dsimp only [gName]
  refine ⟨_, rfl, c, zs, rfl, sq_of hc4, by omega, fun l hl => (hz l hl).ok, fun H5 e5 => ?_⟩
  dsimp only [gName]
  have hc5 := e5 _ _ hc4
  refine ⟨_, rfl, c, _, rfl, .inl (sq_of hc5), fun l7 n7 => ?_⟩
  have x7 := Ex.new (o := .lst (zs.map V.str)) n7
  have hc7 := x7 _ _ hc5
  refine ⟨l7, zs, rfl, sq_of upd_same, by omega, fun l hl => (hz l hl).ok, fun qs hq1 hq2 hq3 x H8 x8 hpl => ?_, fun i l qs hb1 hb2 hb3 hb4 hb5 H8 d x8 nd8 hd8 => ?_⟩
  · have hg : GoodLs zs qs := ⟨hq1, hq2, hq3⟩
    have hfb : firstBad [] 0 zs = none := by
      cases hf : firstBad [] 0 zs with
      | none => rfl
      | some j =>
        obtain ⟨l, rs, hb⟩ := first_bad hf
        exact (good_bad hg hb).elim
    have hzq : zs = qs.map lineT := by
      have h1 : zs.map (fun l => Txt.join " " (Txt.split l " ")) = qs.map (fun q => Txt.join " " (lineW q)) := by
        have := congrArg (List.map (Txt.join " ")) hq1
        rw [List.map_map, List.map_map] at this
        exact this
      have h2 : zs.map (fun l => Txt.join " " (Txt.split l " ")) = zs := by
        conv => rhs; rw [← List.map_id zs]
        exact List.map_congr_left fun l _ => (split_back (x := l) (s := (" " : Str)) (c := 32) rfl (by decide)).2
      rw [h2] at h1
      exact h1
    have hql : qs.length ≤ 20 := by have := congrArg List.length hzq; rw [List.length_map] at this; omega
    have hqz : (qs.map fun q => V.str (lineT q)) = zs.map V.str := by rw [hzq, List.map_map]; rfl
    refine ⟨H8, .ref x, qs, rfl, Ex.refl _, hpl, hq2, by omega, fun l9 H9 n9 e9 hl9 => ?_⟩
    dsimp only [gName]
    have hc9 : H9 c = some (.lst (qs.map fun q => V.str (lineT q))) := by rw [hqz]; exact e9 _ _ (x8 _ _ hc7)
    rw [hfb]
    have hld : ∀ {H' : Hp} {l : Addr}, H' l = some (.lst (qs.map fun q => V.str (lineT q))) → Dp K H' (.ref l) (.list (qs.map fun q => .str (lineT q))) := fun {H' l} h => Dp.lst (sq_of h) (dpa_linesL qs)
    refine s_ret (v := .bl true) (ev_is (ev_andV (a := true) (b := true) (fun H1 e Q q => ⟨_, rfl, rfl, q H1 (Ex.refl _)⟩) fun _ => ev_is (ev_fn (ea_cons (ev_var rfl) (ea_cons (ev_var rfl) ea_nil)) (sv_same (hld hl9) (hld hc9) (dep_linesL (by omega)))) (congrArg V.bl (same_t rfl))) rfl) fun H10 x10 => k H10
  · have hb : BadLs zs i l qs := ⟨hb1, hb2, hb3, hb4, hb5⟩
    have hfb : firstBad [] 0 zs = some i := by
      cases hf : firstBad [] 0 zs with
      | none =>
        obtain ⟨rs, hg⟩ := first_good hf
        exact (good_bad hg hb).elim
      | some j =>
        obtain ⟨l', rs, hb'⟩ := first_bad hf
        rw [bad_uniq hb hb']
    refine ⟨true, T.em_BadPaper_LossError, fun _ a' na => ⟨⟨rfl, rfl⟩, ?_⟩, fun h => Bool.noConfusion h⟩
    refine q_when (b := false) (et_or (a := false) (b := false) (et_not (a := true) (et_B fun H9 x9 Q9 q9 => ⟨_, rfl, _, _, _, _, rfl, x9 _ _ hd8, (fun u r => r), T.ki_BadPaper_BadPaper, q9 H9 (Ex.refl _)⟩)) fun _ => et_B ?_) (fun c => Bool.noConfusion c) (fun _ H9 x9 => ?_)
    · intro H9 x9 Q9 q9
      refine ⟨_, rfl, by show 6 ≤ sizeLine; decide, fun t nt => ?_⟩
      have x10 := Ex.new (o := .tup [.ref (ga K "BadPlan"), .ref (ga K "BadRatio"), .ref (ga K "BadText"), .ref (ga K "NoPlan"), .ref (ga K "NoShare"), .ref (ga K "TooLarge")]) nt
      refine ⟨t, _, _, false, _, rfl, x10 _ _ (x9 _ _ hd8), upd_same, .cons (.own _) (.cons (.own _) (.cons (.own _) (.cons (.own _) (.cons (.own _) (.cons (.own _) .nil))))), ?_, q9 _ x10⟩
      simp only [PySem.W.kitAny, T.ki_BadPaper_BadPlan, T.ki_BadPaper_BadRatio, T.ki_BadPaper_BadText, T.ki_BadPaper_NoPlan, T.ki_BadPaper_NoShare, T.ki_BadPaper_TooLarge]
    · rw [hfb]
      refine s_ret (v := .bl true) (ev_is (ev_andV (a := true) (b := true) (fun H1 e Q q => ⟨_, rfl, rfl, q H1 (Ex.refl _)⟩) fun _ => fun H1 e1 Q1 q1 => ?_) rfl) fun H10 x10 => k H10
      refine ⟨_, rfl, rfl, rfl, d, _, .int (i : Nat), rfl, e1 _ _ (x9 _ _ hd8), rfl, _, rfl, (i : Nat), (i : Nat), rfl, fun H2 e2 => ?_⟩
      rw [decide_eq_true rfl]
      exact q1 H2 e2
end
end LL
namespace LL
open PySem PySem.Spec PyProof.Rows L2 He Evl
/-- the end of a law whose defs may let errors out -/
theorem walk_ofX {l : PySem.W.OpenLaw} {n k : Nat} {q : Program} {loose : List Str} {XP : (Str → Option Value) → Heap → Prop} {YP : World → Heap → Prop} {d : DefRec} {CX : World → CXT} {x : Str}
    (hn : l.most = some n) (hn2 : n ≤ sizeLine) (hdf : d.params.defaults = []) (hr : Room k callerA)
    (F : ∀ (w : World) (mg : Str → Option Value) (fa : Addr) (h : Heap), YP w h → h.Ns mainGlobals mg → mg d.name = some (.ref fa) →
      ∃ (K : PySem.W.Frag) (fd : FuncData) (sp : Sp), K.In h ∧ (∀ (s : Shared) (u : Value), BindsTo s fd ⟨[u], []⟩ [(x, u)]) ∧
        (∀ (H : Hp) (a : Addr) (ns : List Int), ns.length ≤ n → Only H → SqL K H a (ns.map V.int) → sp [.ref a] H (fun v _ => v = .bl true) fun _ _ _ => False) ∧
        ∀ base : Heap, K.In base → base.Ns mainGlobals mg → FnOk l.prog w K mg base (CX w) k fa fd [x] sp)
    (hCX : ∀ (w : World) (H : Hp) (s : Shared) (e : Value) (s' : Shared), CX w [] H s (fun _ _ _ => False) e s' → False) :
    PySem.W.WalkO q loose XP YP l.row.toRowW d [] (fun f vs => PySem.call f vs) := by
  refine Att.attach_call hn hdf fun w s₀ s₁ mg mb fa o pm cd doc a vs ns G Y ho hd hcd hmg hobj hints hlen hg => ?_
  obtain ⟨K, fd, sp, KX, hb, hsp, hF⟩ := F w mg fa _ Y G.T.g hmg
  exact law_call KX G.T.g G.T.b G.T.builtins G.T.nolimit hg hobj hints (Nat.le_trans hlen hn2) hr hF hb (fun H hO hS => hsp H a ns hlen hO hS) fun H e s' => hCX w H s₁ e s'
theorem cx_end {P : Program} {w : World} {H : Hp} {s : Shared} {e : Value} {s' : Shared} (h : L2.CX P w [] H s (fun _ _ _ => False) e s') : False := by
  obtain ⟨a, B, H', cls, d, _, _, _, _, _, _, _, q⟩ := h
  exact q
theorem law_facts {w : World} {K : PySem.W.Frag} {h : Heap} {mg : Str → Option Value} {f : Addr} (X : K.In h) (G : h.Ns mainGlobals mg) (hfa : mg ("law" : Str) = some (.ref f)) (T : Txt K mg) (W : TabW w K) :
    ∃ fd : FuncData, (∀ (s : Shared) (v : Value), BindsTo s fd ⟨[v], []⟩ [("_law_script", v)]) ∧ ∀ base : Heap, K.In base → base.Ns mainGlobals mg → FnOk P w K mg base (L2.CX P w) 42 f fd ["_law_script"] (spLaw K) := by
  obtain ⟨fd, F⟩ := T.d_law
  have e := hfa.symm.trans T.g_law
  cases e
  have b := FunD.bindsA (ps := ["_law_script"]) F fun _ _ _ _ _ _ us hl => match us, hl with | [_], _ => rfl
  exact ⟨fd, fun s v => b s [v] rfl, fun base _ _ => ok_law W T F⟩
end LL
open PySem PySem.W PySem.Calls PyProof.Rows
set_option maxRecDepth 100000 in
set_option maxHeartbeats 0 in
theorem PySem.Challenge.cw_lostleast_k71_whole_lines_of_plans_are_r_holds : PySem.Challenge.rw_lostleast_k71_whole_lines_of_plans_are_r.Holds := by
  w_on; o_law
  refine HandSHeadRun.head_any (r := LL.R) (q := view LL.R.prog [LL.lawAt]) (H := LL.hk) (ob := LL.ob) (M := 60000) (loose := LL.names) (d := HandSHeadRun.topDef LL.R.prog LL.lawAt) (kwd := []) LL.ob_eq
    (by kernel_rfl) (fun s => by kernel_rfl) LL.run (by kernel_rfl) (by kernel_rfl) (by kernel_rfl) (by rfl) (by first | assumption | decide +kernel) (by decide +kernel) ⟨rfl, rfl, rfl, rfl, rfl, by decide +kernel⟩ ?hw ?hc
  case hw => w_witness2
  case hc =>
    refine LL.walk_ofX (l := PySem.Challenge.rw_lostleast_k71_whole_lines_of_plans_are_r) (n := 63) (k := 42) (x := "_law_script") (CX := fun w => L2.CX (PySem.Challenge.rw_lostleast_k71_whole_lines_of_plans_are_r).prog w) rfl (by decide) (by kernel_rfl) ⟨rfl, by decide, by decide⟩ ?F (fun _ _ _ _ _ z => LL.cx_end z)
    intro w mg fa h Y G hmg0
    obtain ⟨K, KX, c, z⟩ := Y
    have hmg : mg ("law" : PySem.Str) = some (.ref fa) := by
      have e : (HandSHeadRun.topDef LL.R.prog LL.lawAt).name = ("law" : PySem.Str) := by kernel_rfl
      rw [← e]
      exact hmg0
    obtain ⟨fd, hb, hF⟩ := LL.law_facts (w := w) KX G hmg (LL.txt_of KX G c z) (LL.tabW_of c)
    exact ⟨K, fd, LL.spLaw K, KX, hb, fun H a ns hl _ hS => ⟨a, ns, rfl, hS, hl, fun _ => rfl⟩, hF⟩
#print axioms PySem.Challenge.cw_lostleast_k71_whole_lines_of_plans_are_r_holds
